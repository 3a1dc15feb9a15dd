import PyProof.Rows.All
import Wide.All
import OpenK.AllK
import Wide.FinOn
import PySem.Challenge.RW_og0164_01
open PySem PySem.W PyProof.Rows
set_option Elab.async false
set_option linter.all false
set_option compiler.extract_closed false
set_option maxRecDepth 100000
set_option maxHeartbeats 8000000
namespace Mine
section
open PySem.W.Fast
theorem two {A P : Prop} (main : A) (hl : P) : A := have _ := hl; main
theorem pwq : PyProof.Rows.importsNone PySem.Challenge.pw_og0164_01 = true := by k_qdec
/-- the top's run over a tree of objects -/
noncomputable def runT (ok : Thread → Bool) (st : SharedT → Thread → Option (SharedT × Thread)) : Nat → SharedT → Thread → Option SharedT
  | 0, _, _ => none
  | n + 1, s, t => match through t with
    | true => some s
    | false => match ok t with
      | false => none
      | true => match st s t with
        | some (s', t') => runT ok st n s' t'
        | none => none
theorem runT_of {tb : String → Option Builtin} {p : Program} {w : World} {n₀ : Nat} {ann : Option Value} : ∀ {n : Nat} {s s' : SharedT} {t : Thread}, runT (stepOk n₀ ann) (stepT (denote tb) p w) n s t = some s' → topRun tb p w n₀ ann n s.abs t = some s'.abs
  | 0, _, _, _, h => by cases h
  | n + 1, s, s', t, h => by
    unfold runT at h
    unfold topRun
    cases he : through t with
    | true => rw [he] at h; cases h; rfl
    | false =>
      rw [he] at h
      cases hk : stepOk n₀ ann t with
      | false => rw [hk] at h; cases h
      | true =>
        rw [hk] at h
        cases hs : stepT (denote tb) p w s t with
        | none => rw [hs] at h; cases h
        | some r => obtain ⟨s₂, t₂⟩ := r; rw [hs] at h; rw [stepT_spec hs]; exact runT_of h
noncomputable def bootTree (P : Params) : BT := ((((((((((BT.nil.ins 0 (boot_o_0 P)).ins 1 (boot_o_1 P)).ins 2 (boot_o_2 P)).ins 3 (boot_o_3 P)).ins 4 (boot_o_4 P)).ins 5 (boot_o_5 P)).ins 6 (boot_o_6 P)).ins 7 (boot_o_7 P)).ins 8 (boot_o_8 P)).ins 9 (boot_o_9 P)).ins 10 (boot_o_10 P)
noncomputable def boot0 (w : World) (os : OsState) : SharedT := ⟨bootTree w.params, 11, (boot_heap w.params).life, Array.mk [], boot_drawn, boot_toks, os⟩
theorem boot0_heap (w : World) (os : OsState) : (boot0 w os).abs = ⟨boot_heap w.params, Array.mk [], boot_drawn, boot_toks, os⟩ := by
  have e : absHeap (bootTree w.params) 11 (boot_heap w.params).life = boot_heap w.params := by kernel_rfl
  show (⟨absHeap (bootTree w.params) 11 (boot_heap w.params).life, Array.mk [], boot_drawn, boot_toks, os⟩ : Shared) = _
  rw [e]
theorem boot_ann (P : Params) : (boot_heap P).nsMap mainGlobals "__annotations__" = some (.ref 6) := by kernel_rfl
theorem boot_ns (P : Params) : (boot_heap P).isNs mainGlobals = true := by kernel_rfl
noncomputable def condQ (p : Program) (h₀ : Heap) (s : Shared) : Bool := staticsOk (importedModules p.main.body) h₀ s.heap && namesBound p s.heap && gensDone s && laidKept h₀ s.heap
theorem abs_getT (t : BT) (n : Nat) (life : Life) (a : Nat) : (absHeap t n life).get? a = match Nat.blt a n with | true => alive ((t.get a).getD default) | false => none := by
  cases e : Nat.blt a n with
  | true =>
    have lt : a < n := Nat.le_of_ble_eq_true e
    unfold Heap.get?
    rw [absHeap_at, if_pos lt]
    generalize (t.get a).getD default = x
    obtain ⟨c, d, dt, sl⟩ := x
    cases dt <;> rfl
  | false =>
    have lt : ¬ a < n := fun q => by rw [show Nat.blt a n = true from Nat.ble_eq_true_of_le q] at e; cases e
    exact abs_get_none lt
noncomputable def getT (s : SharedT) (a : Nat) : Option Obj := match Nat.blt a s.n with
  | true => alive ((s.tree.get a).getD default)
  | false => none
theorem getT_eq (s : SharedT) : s.abs.heap.get? = getT s := funext fun a => abs_getT s.tree s.n s.life a
noncomputable abbrev topR (w : World) (N : Nat) (os : OsState) : Option SharedT := runT (tw6613529449190102663 11 (some (.ref 6))) (tw10156331382660048174 (tw11892475500146522536 tw14364793385576792824) tw15223241058319368819 w) N (boot0 w os) (topStub tw15223241058319368819)
theorem topT {α β : Type} {w : World} {N : Nat} {S : Shared → α × β} {r : α × β} {as ts : List Addr} {ra rt : List (Option Obj)} (hN : Nat.ble 600 N = true)
    (hA : ∀ os, (topR w N os).map (fun s => (condQ tw15223241058319368819 (boot_heap w.params) s.abs, (S s.abs).1)) = some (true, r.1))
    (hB : ∀ os, (topR w N os).map (fun s => (S s.abs).2) = some r.2)
    (hC : ∀ os, (topR w N os).map (fun s => (as.map (getT s), ts.map (getT s))) = some (ra, rt)) :
    (openEnds treeTable PySem.Challenge.pw_og0164_01 w N).map (fun s => (S s, (as.map s.heap.get?, ts.map s.heap.get?))) = some (r, (ra, rt)) := by
  have hb := boot_open (p := PySem.Challenge.pw_og0164_01) (N := N) rfl hN (fun s => rfl) w
  unfold topR at hA hB hC
  rw [← te15223241058319368819, ← te6613529449190102663, ← te10156331382660048174, ← te11892475500146522536, ← te14364793385576792824] at hA
  rw [← te15223241058319368819, ← te6613529449190102663, ← te10156331382660048174, ← te11892475500146522536, ← te14364793385576792824] at hB hC
  unfold openEnds
  cases hf : fencedOpening treeTable PySem.Challenge.pw_og0164_01 w N with
  | none => rw [hf] at hb; cases hb
  | some s =>
    rw [hf] at hb
    obtain ⟨hp, gs, dr, tk, os⟩ := s
    have e := Option.some.inj hb
    simp only [Prod.mk.injEq] at e
    obtain ⟨rfl, rfl, rfl, rfl⟩ := e
    have h1 := hA os
    have h2 := hB os
    have h3 := hC os
    cases hq : runT (stepOk 11 (some (.ref 6))) (stepT (denote treeTable) PySem.Challenge.pw_og0164_01 w) N (boot0 w os) (topStub PySem.Challenge.pw_og0164_01) with
    | none => rw [hq] at h1; cases h1
    | some s1 =>
      rw [hq] at h1 h2 h3
      have e1 := Option.some.inj h1
      have e2 := Option.some.inj h2
      have e3 := Option.some.inj h3
      simp only [Prod.mk.injEq] at e1 e3
      have ht := runT_of hq
      rw [boot0_heap] at ht
      show Option.map _ (topFrom treeTable PySem.Challenge.pw_og0164_01 w N ⟨boot_heap w.params, Array.mk [], boot_drawn, boot_toks, os⟩) = _
      unfold topFrom
      simp only
      rw [boot_ns, boot_ann]
      have e9 : (boot_heap w.params).objs.size = 11 := by kernel_rfl
      rw [e9, ht]
      have c1 := e1.1
      unfold condQ at c1
      show Option.map _ (match (staticsOk (importedModules PySem.Challenge.pw_og0164_01.main.body) (boot_heap w.params) s1.abs.heap && namesBound PySem.Challenge.pw_og0164_01 s1.abs.heap && gensDone s1.abs && laidKept (boot_heap w.params) s1.abs.heap) with | true => some s1.abs | false => none) = _
      rw [c1]
      show some (S s1.abs, (as.map s1.abs.heap.get?, ts.map s1.abs.heap.get?)) = _
      have e4 : S s1.abs = r := Prod.ext e1.2 e2
      rw [getT_eq, e4, e3.1, e3.2]

noncomputable def view0 : Program := { PySem.Challenge.pw_og0164_01 with main := { PySem.Challenge.pw_og0164_01.main with body := ([0, 2, 3, 5, 6, 7, 8, 9, 10, 12, 13, 14, 15, 16, 17, 19, 20, 21, 22, 23, 24, 25, 26, 27, 28, 29, 30, 31, 32, 33, 34, 36, 37, 38, 39, 40, 41, 42, 43] : List Nat).filterMap fun i => PySem.Challenge.pw_og0164_01.main.body[i]? } }
noncomputable abbrev seenQ (q : Program) (s : Shared) := tw4187177175401517315 q [Str.ofString "PaperError", Str.ofString "Path"] (importedModules PySem.Challenge.rw_og0164_01.row.prog.main.body) (fun s => xlAt q [] s && recOk PySem.Challenge.rw_og0164_01.row.records s) true s
theorem lookA (w : World) (os : OsState) : (topR w 5622 os).map (fun s => (condQ tw15223241058319368819 (boot_heap w.params) s.abs, (seenQ view0 s.abs).1)) = some (true, (openGood view0 [Str.ofString "PaperError", Str.ofString "Path"]).1) := by
  dsimp only [seenQ, tw4187177175401517315, openGood]
  kernel_rfl
theorem lookB (w : World) (os : OsState) : (topR w 5622 os).map (fun s => (seenQ view0 s.abs).2) = some (openGood view0 [Str.ofString "PaperError", Str.ofString "Path"]).2 := by
  dsimp only [seenQ, tw4187177175401517315, openGood]
  kernel_rfl
local macro_rules | `(tactic| k_head) => `(tactic| (apply two; (focus km_head); (case hl => (intro w; rw [te4187177175401517315]; dsimp only [kmHook]; refine topT (by kernel_rfl) (fun os => ?hA) (fun os => ?hB) (fun os => ?hC); (case hA => exact lookA w os); (case hB => exact lookB w os); (case hC => kernel_rfl)))))
open_top hd for PySem.Challenge.rw_og0164_01
end
local macro_rules | `(tactic| iterate 777 $t:tacticSeq) => do
  let u ← t.raw.rewriteBottomUpM fun x => match x with
    | .ident i r n p => do
      if n.toString.startsWith "z9" then return .ident i r (← Lean.MonadQuotation.addMacroScope n) p
      return x
    | x => pure x
  let v : Lean.TSyntax `Lean.Parser.Tactic.tacticSeq := ⟨u⟩
  `(tactic| ($v))
local macro_rules | `(tactic| walk_at $s:str) => do
  let k : Lean.TSyntax `str := Lean.Syntax.mkStrLit ("M:" ++ s.getString)
  `(tactic| k_extra $k)
local macro_rules | `(tactic| ktr_room) => `(tactic| k_extra "K:ktr_room")
local macro_rules | `(tactic| ktr_units) => `(tactic| k_extra "K:ktr_units")
local macro_rules | `(tactic| k_room) => `(tactic| k_extra "K:k_room")
local macro_rules | `(tactic| k_enter) => `(tactic| k_extra "K:k_enter")
local macro_rules | `(tactic| k_mem) => `(tactic| k_extra "K:k_mem")
local macro_rules | `(tactic| k_all) => `(tactic| k_extra "K:k_all")
local macro_rules | `(tactic| mul_fits) => `(tactic| k_extra "K:mul_fits")
local macro_rules | `(tactic| kla_enter) => `(tactic| k_extra "K:kla_enter")
-- 01_core
abbrev Led := List (Addr × Obj)
theorem mem_appL {α : Type} {x : α} {a b : List α} (h : x ∈ a) : x ∈ a ++ b := List.mem_append.mpr (.inl h)
theorem mem_appR {α : Type} {x : α} {a b : List α} (h : x ∈ b) : x ∈ a ++ b := List.mem_append.mpr (.inr h)
theorem room_of {d k E D R : Nat} (h : d + D < R) (e : Nat.ble (k + E) D = true) : d + k + E < R := by
  have := Nat.le_of_ble_eq_true e
  omega
theorem room_of2 {d k j E D R : Nat} (h : d + D < R) (e : Nat.ble (k + j + E) D = true) : d + k + j + E < R := by
  have := Nat.le_of_ble_eq_true e
  omega
theorem units_of2 {u k j E D C : Nat} (h : u + 8 * D < C) (e : Nat.ble (k + j + 8 * E) (8 * D) = true) : u + k + j + 8 * E < C := by
  have := Nat.le_of_ble_eq_true e
  omega
theorem units_of {u k E D C : Nat} (h : u + 8 * D < C) (e : Nat.ble (k + 8 * E) (8 * D) = true) : u + k + 8 * E < C := by
  have := Nat.le_of_ble_eq_true e
  omega
/-- the contract of a call: what it makes lies above what stood, and nothing that stood is turned -/
structure Spec (w : World) (D : Nat) (f : Addr) (args : List Value) (news : Led) (Post : Value → Led → Prop)   : Prop where
  go : ∀ (prog p : Program) (loose : List Str) (mean : ExcName → Option Value) (mg mb : Str → Option Value) (dp un : Nat) (gd : Option (List Code)) (cn : Str) (cs : Scope) (a : Addr) (ccd : Value) (cl : List (Str × Addr)) (outer : List Env) (A₀ : Around) (base h₀ : Heap) (L : Addr) (m : Str → Option Value) (s : Shared) (Q E : Value → Shared → Prop),
    Below A₀ base outer h₀ → Fr h₀ L s.heap m → (hd.heap_39 w.params).In h₀ → News h₀ L s.heap news → Top p loose mean mg mb h₀ → cs.kind = .function → dp + D < recursionLimit → un + 8 * D < cLine →
    (∀ r tl h' tk', Fr h₀ L h' m → News h₀ L h' (news ++ tl) → (∀ q ∈ news, ∀ p ∈ tl, @Ne Nat q.1 p.1) → Post r tl → Q r { s with heap := h', toks := tk' }) →
    wpAny (model prog w) (ktrTop dp un gd cn cs L a ccd cl outer) (call (.ref f) args) Q E s
theorem Spec.use {w : World} {D : Nat} {f : Addr} {args : List Value} {news : Led} {Post : Value → Led → Prop} {prog p : Program} {loose : List Str} {mean : ExcName → Option Value} {mg mb : Str → Option Value} {dp un : Nat} {gd : Option (List Code)} {cn : Str} {cs : Scope} {a : Addr} {ccd : Value} {cl : List (Str × Addr)} {outer : List Env} {A₀ : Around} {base h₀ : Heap} {L : Addr} {m : Str → Option Value} {s : Shared} {Q E : Value → Shared → Prop}
    (B : Below A₀ base outer h₀) (F : Fr h₀ L s.heap m) (X : (hd.heap_39 w.params).In h₀) (N : News h₀ L s.heap news) (T : Top p loose mean mg mb h₀) (hk : cs.kind = .function) (S : Spec w D f args news Post) (hd : dp + D < recursionLimit) (hu : un + 8 * D < cLine)
    (ret : ∀ r tl h' tk', Fr h₀ L h' m → News h₀ L h' (news ++ tl) → (∀ q ∈ news, ∀ p ∈ tl, @Ne Nat q.1 p.1) → Post r tl → Q r { s with heap := h', toks := tk' }) :
    wpAny (model prog w) (ktrTop dp un gd cn cs L a ccd cl outer) (call (.ref f) args) Q E s := S.go _ _ _ _ _ _ _ _ _ _ _ _ _ _ _ _ _ _ _ _ _ _ _ B F X N T hk hd hu ret
theorem Spec.weaken {w : World} {D : Nat} {f : Addr} {args : List Value} {news : Led} {Post Post' : Value → Led → Prop} (S : Spec w D f args news Post) (h : ∀ r n, Post r n → Post' r n) : Spec w D f args news Post' := by
  refine ⟨?_⟩
  intro _ _ _ _ _ _ _ _ _ _ _ _ _ _ _ _ _ _ _ _ _ _ _ B F X N T hk hd hu ret
  exact S.go _ _ _ _ _ _ _ _ _ _ _ _ _ _ _ _ _ _ _ _ _ _ _ B F X N T hk hd hu fun r tl h' tk' a b c d => ret r tl h' tk' a b c (h _ _ d)

section
variable {α : Type} {a b c l : List α} {x : α}
theorem sub_appL (h : ∀ p ∈ a, p ∈ l) (k : ∀ p ∈ b, p ∈ l) : ∀ p ∈ a ++ b, p ∈ l := fun p hp => (List.mem_append.mp hp).elim (h p) (k p)
theorem sub_consL (h : x ∈ l) (k : ∀ p ∈ b, p ∈ l) : ∀ p ∈ x :: b, p ∈ l := fun p hp => by
  rcases List.mem_cons.mp hp with rfl | hp
  · exact h
  · exact k p hp
theorem sub_nilL : ∀ p ∈ ([] : List α), p ∈ l := fun _ h => nomatch h
theorem sub_consR (h : ∀ p ∈ a, p ∈ l) : ∀ p ∈ a, p ∈ x :: l := fun p hp => .tail _ (h p hp)
theorem sub_appR1 (h : ∀ p ∈ a, p ∈ l) : ∀ p ∈ a, p ∈ l ++ b := fun p hp => List.mem_append.mpr (.inl (h p hp))
theorem sub_appR2 (h : ∀ p ∈ a, p ∈ l) : ∀ p ∈ a, p ∈ b ++ l := fun p hp => List.mem_append.mpr (.inr (h p hp))
end
section
variable {news l t t1 t2 : Led} {c : Addr × Obj} {d e : Addr}
/-- a ledger parted into what stood and what is new -/
structure Spl (l news tl : Led) : Prop where
  sub : ∀ p ∈ news ++ tl, p ∈ l
theorem Spl.base : Spl news news [] := ⟨fun p hp => by simpa using hp⟩
theorem Spl.cons (h : Spl l news t) : Spl (c :: l) news (c :: t) := ⟨fun p hp => by
  rcases List.mem_append.mp hp with hp | hp
  · exact .tail _ (h.sub p (List.mem_append.mpr (.inl hp)))
  · rcases List.mem_cons.mp hp with rfl | hp
    · exact .head _
    · exact .tail _ (h.sub p (List.mem_append.mpr (.inr hp)))⟩
theorem Spl.app (h : Spl l news t) : Spl (l ++ t1) news (t ++ t1) := ⟨fun p hp => by
  rcases List.mem_append.mp hp with hp | hp
  · exact List.mem_append.mpr (.inl (h.sub p (List.mem_append.mpr (.inl hp))))
  · rcases List.mem_append.mp hp with hp | hp
    · exact List.mem_append.mpr (.inl (h.sub p (List.mem_append.mpr (.inr hp))))
    · exact List.mem_append.mpr (.inr hp)⟩
theorem Spl.app1 : Spl (news ++ t1) news t1 := ⟨fun _ hp => hp⟩
theorem newsSpl {h₀ h : Heap} {L : Addr} (N : News h₀ L h l) (S : Spl l news t) : News h₀ L h (news ++ t) := fun p hp => N p (S.sub p hp)
/-- all of the first lies below all of the second -/
abbrev Up (a b : Led) : Prop := ∀ q ∈ a, ∀ p ∈ b, @Ne Nat q.1 p.1
theorem Up.nil : Up news [] := fun _ _ _ h => nomatch h
theorem Up.cons (h : ∀ q ∈ news, @LT.lt Nat _ q.1 c.1) (k : Up news t) : Up news (c :: t) := fun q hq p hp => by
  rcases List.mem_cons.mp hp with rfl | hp
  · exact Nat.ne_of_lt (h q hq)
  · exact k q hq p hp
theorem Up.consN (h : ∀ q ∈ l, @Ne Nat q.1 c.1) (s : ∀ p ∈ news, p ∈ l) (k : Up news t) : Up news (c :: t) := fun q hq p hp => by
  rcases List.mem_cons.mp hp with rfl | hp
  · exact h q (s q hq)
  · exact k q hq p hp
theorem Up.app (h : Up news t1) (k : Up news t2) : Up news (t1 ++ t2) := fun q hq p hp => (List.mem_append.mp hp).elim (h q hq p) (k q hq p)
theorem Up.of (h : ∀ q ∈ l, ∀ p ∈ t, @Ne Nat q.1 p.1) (k : ∀ p ∈ news, p ∈ l) : Up news t := fun q hq p hp => h q (k q hq) p hp
theorem below_of (h : ∀ p ∈ l, @LT.lt Nat _ p.1 d) (k : ∀ p ∈ news, p ∈ l) : ∀ q ∈ news, @LT.lt Nat _ q.1 d := fun q hq => h q (k q hq)
theorem below_up (h : ∀ q ∈ news, @LT.lt Nat _ q.1 d) (k : @LT.lt Nat _ d e) : ∀ q ∈ news, @LT.lt Nat _ q.1 e := fun q hq => Nat.lt_trans (h q hq) k
theorem below_all (h : AllLt d l) (k : ∀ p ∈ news, p ∈ l) : ∀ q ∈ news, @LT.lt Nat _ q.1 d := fun q hq => ktn_ltOf h q (k q hq)
theorem below_nilL : ∀ q ∈ ([] : Led), @LT.lt Nat _ q.1 d := fun _ h => nomatch h
theorem below_consL (h : @LT.lt Nat _ c.1 d) (k : ∀ q ∈ l, @LT.lt Nat _ q.1 d) : ∀ q ∈ c :: l, @LT.lt Nat _ q.1 d := fun q hq => (List.mem_cons.mp hq).elim (fun e => e ▸ h) (k q)
theorem below_appL (h : ∀ q ∈ t1, @LT.lt Nat _ q.1 d) (k : ∀ q ∈ t2, @LT.lt Nat _ q.1 d) : ∀ q ∈ t1 ++ t2, @LT.lt Nat _ q.1 d := fun q hq => (List.mem_append.mp hq).elim (h q) (k q)
theorem ne_below (h : ∀ q ∈ l, @LT.lt Nat _ q.1 d) : ∀ p ∈ l, p.1 ≠ d := fun p hp => Nat.ne_of_lt (h p hp)
theorem ne_above (h : ∀ q ∈ l, ∀ p ∈ t, @Ne Nat q.1 p.1) (k : c ∈ l) : ∀ p ∈ t, p.1 ≠ c.1 := fun p hp => Ne.symm (h _ k p hp)
theorem ne_app (h : ∀ p ∈ t1, p.1 ≠ d) (k : ∀ p ∈ t2, p.1 ≠ d) : ∀ p ∈ t1 ++ t2, p.1 ≠ d := fun p hp => (List.mem_append.mp hp).elim (h p) (k p)
end
structure Dec where
  t : Int
  p : Nat
  deriving DecidableEq
abbrev decDict (w : World) (t p : Int) (k1 k2 u1 u2 : Tok) (n : Nat) : Obj := dictOf [⟨PyData.keyHash w.params (Str.ofString "top"), .str (Str.ofString "top") k1, .int t u1⟩, ⟨PyData.keyHash w.params (Str.ofString "places"), .str (Str.ofString "places") k2, .int p u2⟩] n
def DecIn (w : World) (news : Led) (v : Value) (d : Dec) : Prop :=
  ∃ (x dx : Addr) (k1 k2 u1 u2 : Tok) (n : Nat), v = .ref x ∧ (x, instObj 155 dx) ∈ news ∧ (dx, decDict w d.t d.p k1 k2 u1 u2 n) ∈ news
theorem DecIn.mono {w : World} {news news' : Led} {v : Value} {d : Dec} (h : DecIn w news v d) (hs : ∀ p ∈ news, p ∈ news') : DecIn w news' v d := by
  obtain ⟨x, dx, k1, k2, u1, u2, n, e, a, b⟩ := h
  exact ⟨x, dx, k1, k2, u1, u2, n, e, hs _ a, hs _ b⟩
theorem DecIn.mk {w : World} {news : Led} {x dx : Addr} {d : Dec} {k1 k2 u1 u2 : Tok} {n : Nat} (a : (x, instObj 155 dx) ∈ news) (b : (dx, decDict w d.t d.p k1 k2 u1 u2 n) ∈ news) : DecIn w news (.ref x) d := ⟨x, dx, k1, k2, u1, u2, n, rfl, a, b⟩
/-- the same in one step (an inductive's case costs less than eight nested ones) -/
inductive DecR (w : World) (news : Led) (v : Value) (d : Dec) : Prop
  | mk (x dx : Addr) (k1 k2 u1 u2 : Tok) (n : Nat) (e : v = .ref x) (a : (x, instObj 155 dx) ∈ news) (b : (dx, decDict w d.t d.p k1 k2 u1 u2 n) ∈ news)
theorem DecIn.out {w : World} {news : Led} {v : Value} {d : Dec} (h : DecIn w news v d) : DecR w news v d := by
  obtain ⟨x, dx, k1, k2, u1, u2, n, e, a, b⟩ := h
  exact ⟨x, dx, k1, k2, u1, u2, n, e, a, b⟩
theorem units_make (A : Around) (args : Args) : (A.under (.builtin "type.__call__" args)).units = A.units + 1 := by
  have : (Code.builtin "type.__call__" args).cUnits = 1 := by unfold Code.cUnits; rfl
  show A.units + _ = _
  rw [this]

theorem fillK : PySem.Challenge.rw_og0164_01 = PySem.Challenge.rw_og0164_01 ∧ Mine.hd.heap_39 = Mine.hd.heap_39 := by w_top off; k_fill; exact ⟨rfl, rfl⟩
local macro_rules | `(tactic| walk_at "S mem") => `(tactic| first
  | with_reducible exact List.mem_cons_self
  | with_reducible assumption
  | ((with_reducible refine List.mem_cons_of_mem _ ?_); walk_at "S mem")
  | ((with_reducible refine mem_appL ?_); walk_at "S mem")
  | ((with_reducible refine mem_appR ?_); walk_at "S mem")
  | fail "S mem")
local macro_rules | `(tactic| walk_at "S sub") => `(tactic| first
  | with_reducible exact fun _ h => h
  | with_reducible assumption
  | with_reducible exact sub_nilL
  | ((with_reducible refine sub_appL ?_ ?_) <;> walk_at "S sub")
  | ((with_reducible refine sub_consL ?x ?y); (case x => walk_at "S mem"); (case y => walk_at "S sub"))
  | ((with_reducible refine sub_consR ?_); walk_at "S sub")
  | ((with_reducible refine sub_appR1 ?_); walk_at "S sub")
  | ((with_reducible refine sub_appR2 ?_); walk_at "S sub")
  | fail "S sub")
local macro_rules | `(tactic| walk_at "S spl") => `(tactic| first
  | exact Spl.base
  | exact Spl.app1
  | (refine' Spl.cons ?g; (case g => walk_at "S spl"))
  | (refine' Spl.app ?g; (case g => walk_at "S spl"))
  | fail "S spl")
local macro_rules | `(tactic| walk_at "S below") => `(tactic| first
  | with_reducible assumption
  | ((with_reducible refine' below_of ?h ?k); (case h => with_reducible assumption); (case k => walk_at "S sub"))
  | ((with_reducible refine' below_all ?h ?k); (case h => first | with_reducible assumption | tbn_find); (case k => walk_at "S sub"))
  | with_reducible exact below_nilL
  | ((with_reducible refine' below_consL ?h ?k); (case k => walk_at "S below"); (case h => (try dsimp only); first | with_reducible assumption | omega))
  | ((with_reducible refine' below_appL ?h ?k); (case k => walk_at "S below"); (case h => walk_at "S below"))
  | ((with_reducible refine' below_up ?h ?k); rotate_left; (case k => with_reducible assumption); (case h => walk_at "S below"))
  | fail "S below")
local macro_rules | `(tactic| walk_at "S up") => `(tactic| first
  | with_reducible exact Up.nil
  | ((with_reducible refine' Up.cons ?h ?k); (case h => walk_at "S below"); (case k => walk_at "S up"))
  | ((with_reducible refine' Up.consN ?h ?s ?k); rotate_left; (case s => walk_at "S sub"); (case k => walk_at "S up"); (case h => with_reducible assumption))
  | ((with_reducible refine' Up.app ?h ?k); (case h => walk_at "S up"); (case k => walk_at "S up"))
  | ((with_reducible refine' Up.of ?h ?k); (case h => first | with_reducible assumption | assumption); (case k => walk_at "S sub"))
  | fail "S up")
theorem reg00 : True := by
  k_with "K:ktr_room" => iterate 777 (first | exact room_of (by assumption) (by exact rfl) | exact room_of2 (by assumption) (by exact rfl) | fail "S room")
  k_with "K:ktr_units" => iterate 777 (first | exact units_of (by assumption) (by exact rfl) | exact units_of2 (by assumption) (by exact rfl) | ((have z9hcL9 := cLine_is); (try simp only [units_make, units_in1, units_deeper, Around.mark_units, units_caller]); (try dsimp only [ktrTop]); omega) | fail "S units")
  k_with "K:k_room" => iterate 777 (ktr_room)
  k_with "K:k_enter" => iterate 777 (first
  | (refine' code_def ?z9k1 ?z9k2 ?z9k3 ?z9k4 ?z9k5 ?z9kA ?z9kF ?z9kK ?z9k6 ?z9k7 ?z9k8 ?z9k9 ?z9kB ?_ ?z9c2 ?z9c3 ?z9c4 ?z9c5; (case z9kA => exact rfl); (case z9kF => exact rfl); (case z9kK => first | exact rfl | assumption); (case z9k1 => k_asm); (case z9k2 => k_asm); (case z9k3 => k_asm); (case z9k4 => k_asm); (case z9k5 => k_asm); (case z9k6 => k_is); (case z9k7 => k_is); (case z9k8 => ktr_room); (case z9k9 => first | exact BindsTo.of_eq rfl | exact binds_K (by k_in) rfl (by k_is) rfl rfl rfl | fail "k_enter: no rule for these arguments"); (case z9c5 => decide); (case z9kB => exact locs rfl); (case z9c2 => exact rfl); (case z9c3 => exact rfl); (case z9c4 => exact rfl); k_whole; intro z9g' z9L' z9h' z9FG' z9F' z9N' z9B' z9X' z9T'; (try dsimp only); (try k_lift z9B'); (try k_fold))
  | (refine' code_defC ?z9k1 ?z9k2 ?z9k3 ?z9k4 ?z9k5 ?z9kA ?z9kF ?z9kK ?z9k6 ?z9k7 ?z9k8 ?z9k9 ?z9kB ?z9kD ?_ ?z9c2 ?z9c3 ?z9c4; (case z9kA => exact rfl); (case z9kF => exact rfl); (case z9kK => first | exact rfl | assumption); (case z9k1 => k_asm); (case z9k2 => k_asm); (case z9k3 => k_asm); (case z9k4 => k_asm); (case z9k5 => k_asm); (case z9k6 => k_is); (case z9k7 => k_is); (case z9k8 => ktr_room); (case z9k9 => first | exact BindsTo.of_eq rfl | exact binds_K (by k_in) rfl (by k_is) rfl rfl rfl | fail "k_enter: no rule for these arguments"); (case z9kB => exact rfl); (case z9kD => decide +kernel); (case z9c2 => exact rfl); (case z9c3 => exact rfl); (case z9c4 => exact rfl); k_whole; intro z9g' z9L' z9h' z9tk' z9cells' z9FG' z9F' z9N' z9Y' z9B' z9X' z9T' z9l1; (try k_lt z9l1); k_cells z9Y'; (try simp only [List.cons_append, List.nil_append] at z9N'); (try dsimp only); (try k_lift z9B'); (try k_fold)))
  k_with "K:k_mem" => iterate 777 (first | (refine' kd_use ?z9h ?z9s; (case z9h => with_reducible assumption); (case z9s => walk_at "S sub")) | fail "S mem")
  k_with "K:k_all" => iterate 777 (first
  | (refine' ne_app ?z9a ?z9b; (case z9a => k_all); (case z9b => k_all))
  | (refine' ne_below ?z9a; (case z9a => walk_at "S below"))
  | (refine' ne_above (c := (_, _)) ?z9a ?z9b; (case z9a => with_reducible assumption); (case z9b => k_mem))
  | fail "S all")
  k_with "M:S dec" => iterate 777 (first
  | with_reducible assumption
  | (refine' DecIn.mono ?z9a ?z9b; (case z9a => with_reducible assumption); (case z9b => walk_at "S sub"))
  | (refine' DecIn.mk ?z9a ?z9b; (case z9a => k_mem); (case z9b => k_mem))
  | fail "S dec")
  k_with "M:call ref" => iterate 777 ((k_here; (with_reducible show wpAny _ _ (call (Value.ref _) _) _ _ _); k_dflt (refine' Spec.use ?z9k1 ?z9k2 ?z9k3 ?z9k4 ?z9k5 ?z9kK ?z9kS ?z9kd ?z9ku ?_; (case z9k2 => k_asm); (case z9k3 => k_asm); (case z9k4 => k_asm); (case z9kS => walk_at "S spec"); (case z9k1 => k_asm); (case z9k5 => k_asm); (case z9kK => first | exact rfl | assumption); (case z9kd => ktr_room); (case z9ku => ktr_units); intro z9r' z9tl' z9h' z9tk' z9F' z9N' z9up' z9P'; (try simp only [List.nil_append, List.cons_append, List.append_assoc] at z9N' z9P'); walk_at "S post"; (try k_sweep); (try dsimp only); (try k_fold))))
  trivial
-- 02_dec
def PDec (w : World) (d : Dec) (r : Value) (n : Led) : Prop := DecIn w n r d
def PDecW (w : World) (n₀ : Led) (d : Dec) (r : Value) (n : Led) : Prop := DecIn w (n₀ ++ n) r d
def PEq (v : Value) (r : Value) (_ : Led) : Prop := r = v
theorem reg_P02_dec_0 : True := by
  k_with "M:S post" => iterate 777 (first
  | ((with_reducible rename PEq _ _ _ => z9hP); (have z9hE : _ = _ := Eq.symm z9hP); clear z9hP; subst z9hE)
  | ((with_reducible rename PDecW _ _ _ _ _ => z9hP); (have z9hQ := z9hP); (obtain ⟨_, _, _, _, _, _, _, z9hE, z9hM, z9hM2⟩ := DecIn.out z9hP; clear z9hP); subst z9hE; (replace z9hQ : DecIn _ _ _ _ := z9hQ); (try simp only [List.nil_append, List.cons_append, List.append_assoc] at z9hQ z9hM z9hM2))
  | ((with_reducible rename PDec _ _ _ _ => z9hP); (have z9hQ := z9hP); (obtain ⟨_, _, _, _, _, _, _, z9hE, z9hM, z9hM2⟩ := DecIn.out z9hP; clear z9hP); subst z9hE; (replace z9hQ : DecIn _ _ _ _ := z9hQ)))
  trivial
theorem Spec.end {news l t : Led} {Post : Value → Led → Prop} {h₀ : Heap} {L : Addr} {m : Str → Option Value} {s : Shared} {Q : Value → Shared → Prop}
    (ret : ∀ r tl h' tk', Fr h₀ L h' m → News h₀ L h' (news ++ tl) → (∀ q ∈ news, ∀ p ∈ tl, @Ne Nat q.1 p.1) → Post r tl → Q r { s with heap := h', toks := tk' })
    {r : Value} {h : Heap} {tk : Nat} (F : Fr h₀ L h m) (N : News h₀ L h l) (S : Spl l news t) (U : Up news t) (P : Post r t) : Q r { s with heap := h, toks := tk } := ret r t h tk F (newsSpl N S) U P
theorem reg_P02_dec_1 : True := by
  k_with "M:S fin" => iterate 777 (first | ((with_reducible show PEq _ _ _); exact rfl) | (refine' (?z9z : PDecW _ _ _ _ _); (with_unfolding_all show DecIn _ _ _ _); walk_at "S dec") | (refine' (?z9z : PDec _ _ _ _); (with_unfolding_all show DecIn _ _ _ _); walk_at "S dec") | fail "S fin")
  k_with "M:S end" => iterate 777 ((refine' Spec.end (by assumption) ?z9e1 ?z9e2 ?z9e3 ?z9e4 ?z9e5; (case z9e1 => k_asm); (case z9e2 => first | assumption | exact News.nil); (case z9e3 => walk_at "S spl"); (case z9e4 => walk_at "S up"); (try simp only [List.nil_append, List.cons_append, List.append_assoc])))
  trivial
/-- Decimal's own form: no nought at the end of its places -/
def normN (t : Int) : Nat → Dec
  | 0 => ⟨t, 0⟩
  | p + 1 => if t % 10 = 0 then normN (t / 10) p else ⟨t, p + 1⟩
theorem accDown_step (t : Int) (p : Nat) (k : Int) (hk : k < p + 1) : accDown (fun _ x => x.fdiv 10) ((p + 1 : Nat) : Int) t k = accDown (fun _ x => x.fdiv 10) (p : Int) (t / 10) k := by
  unfold accDown
  have key : ∀ n : Nat, accN (fun j x => (fun (_ : Int) (x : Int) => x.fdiv 10) (-j) x) (-((p + 1 : Nat) : Int)) t (n + 1) = accN (fun j x => (fun (_ : Int) (x : Int) => x.fdiv 10) (-j) x) (-(p : Int)) (t / 10) n := by
    intro n
    induction n with
    | zero =>
      show t.fdiv 10 = t / 10
      exact Int.fdiv_eq_ediv_of_nonneg _ (by omega)
    | succ n ih =>
      show Int.fdiv (accN _ _ t (n + 1)) 10 = Int.fdiv (accN _ _ (t / 10) n) 10
      rw [ih]
  have e : (((p + 1 : Nat) : Int) - k).toNat = ((p : Int) - k).toNat + 1 := by omega
  rw [e, key]
theorem norm_acc (p : Nat) : ∀ (t k : Int), k ≤ p → (∀ j, k < j → j ≤ p → (if 0 < j then if ((accDown (fun _ x => x.fdiv 10) (p : Int) t j).fmod 10 == 0) = true then true else false else false) = true) →
    (if 0 < k then if ((accDown (fun _ x => x.fdiv 10) (p : Int) t k).fmod 10 == 0) = true then true else false else false) = false → (normN t p).t = accDown (fun _ x => x.fdiv 10) (p : Int) t k ∧ ((normN t p).p : Int) = k := by
  induction p with
  | zero =>
    intro t k hk h1 h2
    have h0 : k = 0 := by
      by_cases h : k < 0
      · have := h1 0 h (by omega)
        simp at this
      · omega
    subst h0
    exact ⟨by unfold normN; exact accDown_start.symm, rfl⟩
  | succ p ih =>
    intro t k hk h1 h2
    by_cases hk' : k = ((p + 1 : Nat) : Int)
    · subst hk'
      rw [accDown_start] at h2 ⊢
      have h3 : t % 10 ≠ 0 := by
        intro e
        rw [Int.fmod_eq_emod_of_nonneg _ (by omega), e] at h2
        rw [if_pos (by omega)] at h2
        simp at h2
      unfold normN
      rw [if_neg h3]
      exact ⟨rfl, rfl⟩
    · have h3 : t % 10 = 0 := by
        have := h1 ((p + 1 : Nat) : Int) (by omega) (by omega)
        rw [accDown_start, if_pos (by omega), Int.fmod_eq_emod_of_nonneg _ (by omega)] at this
        simpa using this
      unfold normN
      rw [if_pos h3, accDown_step t p k (by omega)]
      rw [accDown_step t p k (by omega)] at h2
      refine ih (t / 10) k (by omega) (fun j hj hj' => ?_) h2
      have := h1 j hj (by omega)
      rwa [accDown_step t p j (by omega)] at this
theorem decimal_new {w : World} {news : Led} (t : Int) (p : Nat) (tk1 tk2 : Tok) : Spec w 4 155 [.int t tk1, .int p tk2] news (PDec w (normN t p)) := by
  refine ⟨?_⟩
  intro prog pp loose mean mg mb dp un gd cn cs a ccd cl outer A₀ base h₀ L m s Q E B F X N T hk hdp hun hret
  walk1
  k_steps
  obtain ⟨e1, e2⟩ := norm_acc p t _ (by assumption) (by assumption) (by assumption)
  walk_at "S end"
  exact DecIn.mk (by k_mem) (by rw [e1, e2]; k_mem)

-- 03_num
/-- a number handed on: a whole one, or a Decimal -/
def NumIn (w : World) (news : Led) (v : Value) (d : Dec) : Prop := (∃ (i : Int) (tk : Tok), v = .int i tk ∧ d = ⟨i, 0⟩) ∨ DecIn w news v d
theorem NumIn.mono {w : World} {news news' : Led} {v : Value} {d : Dec} (h : NumIn w news v d) (hs : ∀ p ∈ news, p ∈ news') : NumIn w news' v d := h.imp id fun h => h.mono hs
theorem NumIn.int {w : World} {news : Led} {i : Int} {tk : Tok} : NumIn w news (.int i tk) ⟨i, 0⟩ := .inl ⟨i, tk, rfl, rfl⟩
theorem NumIn.dec {w : World} {news : Led} {v : Value} {d : Dec} (h : DecIn w news v d) : NumIn w news v d := .inr h
theorem reg_P03_num_0 : True := by
  k_with "M:S num" => iterate 777 (first
  | with_reducible assumption
  | with_reducible exact NumIn.int
  | (refine' NumIn.dec ?z9a; (case z9a => walk_at "S dec"))
  | (refine' NumIn.mono ?z9a ?z9b; (case z9a => with_reducible assumption); (case z9b => walk_at "S sub"))
  | fail "S num")
  trivial
theorem decimal_newI {w : World} {news : Led} (t p : Int) (tk1 tk2 : Tok) (hp : 0 ≤ p) : Spec w 4 155 [.int t tk1, .int p tk2] news (PDec w (normN t p.toNat)) := by
  obtain ⟨n, rfl⟩ := Int.eq_ofNat_of_zero_le hp
  exact decimal_new t n tk1 tk2
theorem reg_P03_num_1 : True := by
  k_with "M:S spec" => iterate 777 (((with_reducible show Spec _ _ 155 _ _ _); exact decimal_newI _ _ _ _ (by omega)))
  trivial
theorem decimal_of_dec {w : World} {news : Led} {v : Value} {d : Dec} (hd : DecIn w news v d) : Spec w 8 173 [v] news (PEq v) := by
  refine ⟨?_⟩
  intro prog p loose mean mg mb dp un gd cn cs a ccd cl outer A₀ base h₀ L m s Q E B F X N T hk hdp hun hret
  obtain ⟨x, dx, k1, k2, u1, u2, n, rfl, m1, m2⟩ := hd
  refine wpAny_call ?_
  k_dflt ktr_enter
  k_steps
  walk_at "S end"
  walk_at "S fin"
theorem decimal_of_int {w : World} {news : Led} (i : Int) (tk : Tok) : Spec w 8 173 [.int i tk] news (PDec w ⟨i, 0⟩) := by
  refine ⟨?_⟩
  intro prog p loose mean mg mb dp un gd cn cs a ccd cl outer A₀ base h₀ L m s Q E B F X N T hk hdp hun hret
  refine wpAny_call ?_
  k_dflt ktr_enter
  k_steps
  walk_at "S end"
  walk_at "S fin"
theorem decimal_of_num {w : World} {news n₀ : Led} {v : Value} {d : Dec} (h : NumIn w n₀ v d) (hs : ∀ p ∈ n₀, p ∈ news) : Spec w 8 173 [v] news (PDecW w n₀ d) := by
  rcases h with ⟨i, tk, rfl, rfl⟩ | h
  · exact (decimal_of_int i tk).weaken fun r n x => DecIn.mono x fun p hp => List.mem_append.mpr (.inr hp)
  · exact (decimal_of_dec (h.mono hs)).weaken fun r n (x : r = v) => x ▸ h.mono fun p hp => List.mem_append.mpr (.inl hp)
theorem reg_P03_num_2 : True := by
  k_with "M:S spec" => iterate 777 (((with_reducible show Spec _ _ 173 _ _ _); first
  | ((with_reducible show Spec _ _ 173 [Value.int _ _] _ _); exact decimal_of_int _ _)
  | exact decimal_of_dec (by walk_at "S dec")
  | exact decimal_of_num (by with_reducible assumption) (by walk_at "S sub")))
  trivial

-- 04_arith
abbrev tupO (vs : List Value) (n : Nat) : Obj := { cls := .type "tuple", data := .seq vs.toArray n }
def PTup2 (a b : Int) (r : Value) (n : Led) : Prop := ∃ (q : Addr) (t1 t2 : Tok) (k : Nat), r = .ref q ∧ (q, tupO [.int a t1, .int b t2] k) ∈ n
def PTup3 (a b c : Int) (r : Value) (n : Led) : Prop := ∃ (q : Addr) (t1 t2 t3 : Tok) (k : Nat), r = .ref q ∧ (q, tupO [.int a t1, .int b t2, .int c t3] k) ∈ n
def PInt (i : Int) (r : Value) (_ : Led) : Prop := ∃ tk, r = .int i tk
theorem reg_P04_arith_0 : True := by
  k_with "M:S post" => iterate 777 (first
  | ((with_reducible rename PInt _ _ _ => z9hP); (obtain ⟨_, z9hE⟩ := z9hP); subst z9hE)
  | ((with_reducible rename PTup2 _ _ _ _ => z9hP); (obtain ⟨_, _, _, _, z9hE, z9hM⟩ := z9hP); subst z9hE)
  | ((with_reducible rename PTup3 _ _ _ _ _ => z9hP); (obtain ⟨_, _, _, _, _, z9hE, z9hM⟩ := z9hP); subst z9hE))
  k_with "M:S fin" => iterate 777 (first
  | (refine' (⟨_, rfl⟩ : PInt _ _ _))
  | (refine' (⟨_, _, _, _, rfl, ?z9z⟩ : PTup2 _ _ _ _); (case z9z => k_mem))
  | (refine' (⟨_, _, _, _, _, rfl, ?z9z⟩ : PTup3 _ _ _ _ _); (case z9z => k_mem))
  | fail "S fin")
  trivial
theorem told_spec {w : World} {news : Led} {v : Value} {d : Dec} (hd : DecIn w news v d) : Spec w 4 138 [v] news (PTup2 d.t d.p) := by
  refine ⟨?_⟩
  intro prog p loose mean mg mb dp un gd cn cs a ccd cl outer A₀ base h₀ L m s Q E B F X N T hk hdp hun hret
  obtain ⟨x, dx, k1, k2, u1, u2, n, rfl, m1, m2⟩ := hd
  refine wpAny_call ?_
  k_dflt ktr_enter
  k_steps
  walk_at "S end"
  walk_at "S fin"
/-- the bits of a whole number -/
abbrev bits (x : Int) : Nat := Builtin.Int.intBits x
theorem bits_lt {x : Int} {k : Nat} (h : x.natAbs < 2 ^ k) : bits x ≤ k := by
  unfold bits Builtin.Int.intBits
  split
  · exact Nat.zero_le _
  · rename_i h0
    have hp : x.natAbs ≠ 0 := by intro e; apply h0; simp; omega
    have := (Nat.log2_lt hp).mpr h
    omega
theorem mul_ok {a b : Int} {i j : Nat} (ha : a.natAbs < 2 ^ i) (hb : b.natAbs < 2 ^ j) (h : i + j ≤ 100000000) : IntMulOk a b := by
  have h1 := bits_lt ha
  have h2 := bits_lt hb
  unfold IntMulOk
  intro e
  simp only [Bool.and_eq_true, decide_eq_true_eq] at e
  have h3 := e.2
  unfold Builtin.Int.intTooBig at h3
  have h4 := of_decide_eq_true h3
  rw [show PySem.bitsLine = 134217728 from by decide] at h4
  simp only [bits] at h1 h2
  omega
/-- a Decimal's size: its bits, its places -/
def Bd (k q : Nat) (d : Dec) : Prop := d.t.natAbs < 2 ^ k ∧ d.p ≤ q
theorem Bd.mono {k q k' q' : Nat} {d : Dec} (h : Bd k q d) (hk : k ≤ k') (hq : q ≤ q') : Bd k' q' d := ⟨Nat.lt_of_lt_of_le h.1 (Nat.pow_le_pow_right (by decide) hk), Nat.le_trans h.2 hq⟩
abbrev BdM (d : Dec) : Prop := Bd 1000000 100000 d
def mulD (a b : Dec) : Dec := normN (a.t * b.t) ((a.p : Int) + (b.p : Int)).toNat
abbrev maxP (a b : Dec) : Int := if (b.p : Int) > (a.p : Int) then (b.p : Int) else (a.p : Int)
abbrev oneS (a b : Dec) : Int := a.t * 10 ^ (maxP a b - a.p).toNat
abbrev twoS (a b : Dec) : Int := b.t * 10 ^ (maxP a b - b.p).toNat
theorem times_spec {w : World} {news : Led} {v1 v2 : Value} {a b : Dec} (h1 : DecIn w news v1 a) (h2 : NumIn w news v2 b) (B1 : BdM a) (B2 : BdM b) : Spec w 12 96 [v1, v2] news (PDec w (mulD a b)) := by
  refine ⟨?_⟩
  intro prog p loose mean mg mb dp un gd cn cs aa ccd cl outer A₀ base h₀ L m s Q E B F X N T hk hdp hun hret
  have hm : IntMulOk a.t b.t := mul_ok B1.1 B2.1 (by decide)
  have h1' := h1
  obtain ⟨x, dx, k1, k2, u1, u2, n, rfl, m1, m2⟩ := h1
  refine wpAny_call ?_
  k_dflt ktr_enter
  k_steps
  walk_at "S end"
  walk_at "S fin"
theorem pow_bits (n : Nat) : ((10 : Int) ^ n).natAbs < 2 ^ (4 * n + 1) := by
  rw [Int.natAbs_pow]
  have h1 : (10 : Int).natAbs ^ n ≤ 16 ^ n := Nat.pow_le_pow_left (by decide) n
  have h2 : (16 : Nat) ^ n = 2 ^ (4 * n) := by rw [Nat.pow_mul]
  have h3 : (2 : Nat) ^ (4 * n) < 2 ^ (4 * n + 1) := Nat.pow_lt_pow_right (by decide) (by omega)
  omega
theorem max_facts (a b : Dec) : 0 ≤ maxP a b - a.p ∧ 0 ≤ maxP a b - b.p ∧ (maxP a b ≤ a.p ∨ maxP a b ≤ b.p) ∧ 0 ≤ maxP a b := by
  unfold maxP
  split <;> omega
theorem reg_P04_arith_1 : True := by
  k_with "K:mul_fits" => iterate 777 (with_reducible assumption)
  k_with "M:binaryOp Pow int int" => iterate 777 ((k_here; (with_reducible refine pow_int_small ?z9kb1 ?z9kb2 ?z9kb3 ?_); (case z9kb1 => with_reducible assumption); (case z9kb2 => with_reducible assumption); (case z9kb3 => decide)))
  trivial
theorem scale_spec {w : World} {news : Led} {v1 v2 : Value} {a b : Dec} (h1 : DecIn w news v1 a) (h2 : NumIn w news v2 b) (B1 : BdM a) (B2 : BdM b) : Spec w 12 180 [v1, v2] news (PTup3 (oneS a b) (twoS a b) (maxP a b)) := by
  refine ⟨?_⟩
  intro prog p loose mean mg mb dp un gd cn cs aa ccd cl outer A₀ base h₀ L m s Q E B F X N T hk hdp hun hret
  have h1' := h1
  obtain ⟨x, dx, k1, k2, u1, u2, n, rfl, m1, m2⟩ := h1
  obtain ⟨f1, f2, f3, f4⟩ := max_facts a b
  have f5 := B1.2
  have f6 := B2.2
  have g1 : maxP a b - a.p ≤ 1000000 := by omega
  have g2 : maxP a b - b.p ≤ 1000000 := by omega
  have e1 : IntMulOk a.t (10 ^ (maxP a b - a.p).toNat) := mul_ok B1.1 (pow_bits _) (by omega)
  have e2 : IntMulOk b.t (10 ^ (maxP a b - b.p).toNat) := mul_ok B2.1 (pow_bits _) (by omega)
  refine wpAny_call ?_
  k_dflt ktr_enter
  k_steps
  walk_at "S end"
  walk_at "S fin"
theorem reg_P04_arith_2 : True := by
  k_with "M:S spec" => iterate 777 (first
  | ((with_reducible show Spec _ _ 138 _ _ _); exact told_spec (by walk_at "S dec"))
  | ((with_reducible show Spec _ _ 96 _ _ _); exact times_spec (by walk_at "S dec") (by walk_at "S num") (by with_reducible assumption) (by with_reducible assumption))
  | ((with_reducible show Spec _ _ 180 _ _ _); exact scale_spec (by walk_at "S dec") (by walk_at "S num") (by with_reducible assumption) (by with_reducible assumption)))
  trivial
def plusD (a b : Dec) : Dec := normN (oneS a b + twoS a b) (maxP a b).toNat
def minusD (a b : Dec) : Dec := normN (oneS a b - twoS a b) (maxP a b).toNat
theorem plus_spec {w : World} {news : Led} {v1 v2 : Value} {a b : Dec} (h1 : DecIn w news v1 a) (h2 : NumIn w news v2 b) (B1 : BdM a) (B2 : BdM b) : Spec w 16 82 [v1, v2] news (PDec w (plusD a b)) := by
  refine ⟨?_⟩
  intro prog p loose mean mg mb dp un gd cn cs aa ccd cl outer A₀ base h₀ L m s Q E B F X N T hk hdp hun hret
  obtain ⟨f1, f2, f3, f4⟩ := max_facts a b
  refine wpAny_call ?_
  k_dflt ktr_enter
  k_steps
  walk_at "S end"
  walk_at "S fin"
theorem minus_spec {w : World} {news : Led} {v1 v2 : Value} {a b : Dec} (h1 : DecIn w news v1 a) (h2 : NumIn w news v2 b) (B1 : BdM a) (B2 : BdM b) : Spec w 16 89 [v1, v2] news (PDec w (minusD a b)) := by
  refine ⟨?_⟩
  intro prog p loose mean mg mb dp un gd cn cs aa ccd cl outer A₀ base h₀ L m s Q E B F X N T hk hdp hun hret
  obtain ⟨f1, f2, f3, f4⟩ := max_facts a b
  refine wpAny_call ?_
  k_dflt ktr_enter
  k_steps
  walk_at "S end"
  walk_at "S fin"
theorem reg_P04_arith_3 : True := by
  k_with "M:S spec" => iterate 777 (first
  | ((with_reducible show Spec _ _ 82 _ _ _); exact plus_spec (by walk_at "S dec") (by walk_at "S num") (by with_reducible assumption) (by with_reducible assumption))
  | ((with_reducible show Spec _ _ 89 _ _ _); exact minus_spec (by walk_at "S dec") (by walk_at "S num") (by with_reducible assumption) (by with_reducible assumption)))
  trivial

-- 04b_rules
/-- two lists item by item -/
def All2 {δ : Type} (P : Value → δ → Prop) : List Value → List δ → Prop
  | [], [] => True
  | v :: vs, d :: ds => P v d ∧ All2 P vs ds
  | _, _ => False
section
variable {δ ε : Type} {P P' : Value → δ → Prop} {vs ws : List Value} {ds es : List δ}
theorem All2.imp (h : ∀ v d, P v d → P' v d) : ∀ {vs : List Value} {ds : List δ}, All2 P vs ds → All2 P' vs ds
  | [], [], _ => trivial
  | _ :: _, _ :: _, x => ⟨h _ _ x.1, x.2.imp h⟩
  | [], _ :: _, x => x.elim
  | _ :: _, [], x => x.elim
theorem All2.imp2 {S : δ → Prop} : ∀ {vs : List Value} {ds : List δ}, All2 P vs ds → (∀ d ∈ ds, S d) → (∀ v d, P v d → S d → P' v d) → All2 P' vs ds
  | [], [], _, _, _ => trivial
  | _ :: _, _ :: _, x, y, z => ⟨z _ _ x.1 (y _ (.head _)), x.2.imp2 (fun d h => y d (.tail _ h)) z⟩
  | [], _ :: _, x, _, _ => x.elim
  | _ :: _, [], x, _, _ => x.elim
theorem All2.length : ∀ {vs : List Value} {ds : List δ}, All2 P vs ds → vs.length = ds.length
  | [], [], _ => rfl
  | _ :: _, _ :: _, x => by rw [List.length_cons, List.length_cons, x.2.length]
  | [], _ :: _, x => x.elim
  | _ :: _, [], x => x.elim
theorem All2.append : ∀ {vs : List Value} {ds : List δ}, All2 P vs ds → All2 P ws es → All2 P (vs ++ ws) (ds ++ es)
  | [], [], _, y => y
  | _ :: _, _ :: _, x, y => ⟨x.1, x.2.append y⟩
  | [], _ :: _, x, _ => x.elim
  | _ :: _, [], x, _ => x.elim
theorem All2.one {v : Value} {d : δ} (h : P v d) : All2 P [v] [d] := ⟨h, trivial⟩
theorem All2.cons_inv {d : δ} (h : All2 P vs (d :: ds)) : ∃ v us, vs = v :: us ∧ P v d ∧ All2 P us ds := by
  cases vs with
  | nil => exact h.elim
  | cons v us => exact ⟨v, us, rfl, h.1, h.2⟩
theorem All2.nil_inv (h : All2 P vs ([] : List δ)) : vs = [] := by
  cases vs with
  | nil => rfl
  | cons v us => exact h.elim
theorem All2.snoc_inv : ∀ {ds : List δ} {vs : List Value} {d : δ}, All2 P vs (ds ++ [d]) → ∃ us v, vs = us ++ [v] ∧ All2 P us ds ∧ P v d
  | [], vs, d, h => by
    obtain ⟨v, us, rfl, hv, hu⟩ := All2.cons_inv h
    obtain rfl := hu.nil_inv
    exact ⟨[], v, rfl, trivial, hv⟩
  | c :: ds, vs, d, h => by
    obtain ⟨v, us, rfl, hv, hu⟩ := All2.cons_inv h
    obtain ⟨xs, y, rfl, hx, hy⟩ := All2.snoc_inv hu
    exact ⟨v :: xs, y, rfl, ⟨hv, hx⟩, hy⟩
theorem All2.map {f : δ → ε} {R : Value → ε → Prop} (h : ∀ v d, P v d → R v (f d)) : ∀ {vs : List Value} {ds : List δ}, All2 P vs ds → All2 R vs (ds.map f)
  | [], [], _ => trivial
  | _ :: _, _ :: _, x => ⟨h _ _ x.1, x.2.map h⟩
  | [], _ :: _, x => x.elim
  | _ :: _, [], x => x.elim
end
abbrev lstO (vs : List Value) (n : Nat) : Obj := { cls := .type "list", data := .seq vs.toArray n }
section
variable {prog : Program} {w : World} {A : Around} {E : Value → Shared → Prop} {s : Shared} {h₀ : Heap} {L q b : Addr} {m : Str → Option Value} {news : Led} {vs ws : List Value} {k k2 : Nat} {value slice : PySem.Expr} {u : Tok} {v : Value}
theorem isL (N : News h₀ L s.heap news) (hm : (q, lstO vs k) ∈ news) : s.heap.IsList q vs.toArray := ⟨_, (N _ hm).1, rfl, _, rfl⟩
theorem isTp (N : News h₀ L s.heap news) (hm : (q, tupO vs k) ∈ news) : IsTup s.heap q vs.toArray := ⟨_, (N _ hm).1, rfl, _, rfl⟩
theorem len_listR {Q : Value → Shared → Prop} (N : News h₀ L s.heap news) (hm : (q, lstO vs k) ∈ news) (hz : vs.length ≤ 10000000)
    (h : Q (.int (vs.length : Nat) (s.toks + 1)) { s with toks := s.toks + 1 + 1 }) : wpAny (model prog w) A (call (.builtin "len") [.ref q]) Q E s :=
  Calls.call_len_list (isL N hm) (by simp only [List.size_toArray]; omega) (by simpa using h)
theorem len_tupR {Q : Value → Shared → Prop} (N : News h₀ L s.heap news) (hm : (q, tupO vs k) ∈ news) (hz : vs.length ≤ 10000000)
    (h : Q (.int (vs.length : Nat) (s.toks + 1)) { s with toks := s.toks + 1 + 1 }) : wpAny (model prog w) A (call (.builtin "len") [.ref q]) Q E s :=
  PySem.P.len_tuple (items := vs.toArray) (n := k) (N _ hm).1 (by simp only [List.size_toArray]; omega) (by simpa using h)
theorem item0_listR {Q : Value → Shared → Prop} (N : News h₀ L s.heap news) (hm : (q, lstO (v :: vs) k) ∈ news) (h : Q v s)
    (hs : subscripted slice false (.ref q) (.int 0 u) = operate [.ref q, .int 0 u] (getItem (.ref q) (.int 0 u)) := by with_unfolding_all rfl) :
    wpAny (model prog w) A (subscriptTail value slice (.ref q) (.int 0 u)) Q E s :=
  tail_any (isL N hm).typeIs slot_list_getitem.lookup (wpAny_getItem_list (isL N hm) (by decide) (by decide) (by simp) h) hs
theorem itemK_tupR {Q : Value → Shared → Prop} {i : Int} {j : Nat} (N : News h₀ L s.heap news) (hm : (q, tupO vs k) ∈ news) (hj : seqIndex? i vs.length = some j) (hx : vs[j]? = some v) (hlo : -(2 ^ 63) ≤ i) (hhi : i < 2 ^ 63) (h : Q v s)
    (hs : subscripted slice false (.ref q) (.int i u) = operate [.ref q, .int i u] (getItem (.ref q) (.int i u)) := by with_unfolding_all rfl) :
    wpAny (model prog w) A (subscriptTail value slice (.ref q) (.int i u)) Q E s :=
  tail_any (isTp N hm).typeIs slot_tuple_getitem.lookup (PyProof.Rows.getItem_tuple (isTp N hm) hlo hhi (by simpa using hj) (by simpa using hx) h) hs
theorem item0_tupR {Q : Value → Shared → Prop} (N : News h₀ L s.heap news) (hm : (q, tupO vs k) ∈ news) (hx : vs[0]? = some v) (h : Q v s)
    (hs : subscripted slice false (.ref q) (.int 0 u) = operate [.ref q, .int 0 u] (getItem (.ref q) (.int 0 u)) := by with_unfolding_all rfl) :
    wpAny (model prog w) A (subscriptTail value slice (.ref q) (.int 0 u)) Q E s := by
  refine itemK_tupR N hm (j := 0) ?_ hx (by decide) (by decide) h hs
  have : 0 < vs.length := by
    cases vs with
    | nil => simp at hx
    | cons => simp
  unfold seqIndex?
  simp [this]
theorem item1_tupR {Q : Value → Shared → Prop} (N : News h₀ L s.heap news) (hm : (q, tupO vs k) ∈ news) (hx : vs[1]? = some v) (h : Q v s)
    (hs : subscripted slice false (.ref q) (.int 1 u) = operate [.ref q, .int 1 u] (getItem (.ref q) (.int 1 u)) := by with_unfolding_all rfl) :
    wpAny (model prog w) A (subscriptTail value slice (.ref q) (.int 1 u)) Q E s := by
  refine itemK_tupR N hm (j := 1) ?_ hx (by decide) (by decide) h hs
  have : 1 < vs.length := by
    have := List.getElem?_eq_some_iff.mp hx
    exact this.1
  unfold seqIndex?
  have h2 : (1 : Int) < vs.length := by omega
  simp [h2]
theorem itemL_tupR {Q : Value → Shared → Prop} (N : News h₀ L s.heap news) (hm : (q, tupO vs k) ∈ news) (hx : vs.getLast? = some v) (h : Q v s)
    (hs : subscripted slice false (.ref q) (.int (-1) u) = operate [.ref q, .int (-1) u] (getItem (.ref q) (.int (-1) u)) := by with_unfolding_all rfl) :
    wpAny (model prog w) A (subscriptTail value slice (.ref q) (.int (-1) u)) Q E s := by
  have hne : vs ≠ [] := by rintro rfl; simp at hx
  have hl : 0 < vs.length := List.length_pos_iff.mpr hne
  refine itemK_tupR N hm (j := vs.length - 1) ?_ (by rw [← List.getLast?_eq_getElem?]; exact hx) (by decide) (by decide) h hs
  unfold seqIndex?
  have h1 : (0 : Int) ≤ -1 + vs.length := by omega
  have h2 : (-1 : Int) + vs.length < vs.length := by omega
  simp only [show ((-1 : Int) < 0) = True from by simp, if_true, h1, h2, decide_true, Bool.and_self]
  congr 1
  omega
theorem tail_tupR {Q : Value → Shared → Prop} (F : Fr h₀ L s.heap m) (N : News h₀ L s.heap news) (hm : (q, tupO (v :: vs) k) ∈ news) (hz : vs.length ≤ 10000000)
    (h : ∀ D h', Fr h₀ L h' m → News h₀ L h' ((D, tupO vs 0) :: news) → (∀ p ∈ news, @LT.lt Nat _ p.1 D) → Q (.ref D) { s with heap := h' })
    (hs : subscripted slice false (.ref q) (.ref s.heap.objs.size) = operate [.ref s.heap.objs.size, .ref q] (getItem (.ref q) (.ref s.heap.objs.size)) := by with_unfolding_all rfl)
    (hg : ∀ r, letTemporaryGo value (.ref q) r = pure () := by intro _; with_unfolding_all rfl) :
    wpAny (model prog w) A (subscriptTail value slice (.ref q) (.ref s.heap.objs.size)) Q E { s with heap := s.heap.push { cls := .type "slice", data := .fields #[.int 1 u, .none, .none] } } := by
  refine slice_tuple_from (a := 1) F N (isTp N hm) (by decide) (by simp) (fun h' F' N' => ?_) hs hg (by simp only [List.size_toArray, List.length_cons, sizeLine_eq]; omega)
  refine h _ h' F' (by simpa using N') fun p hp => Nat.lt_succ_of_lt (Heap.lt_size (N p hp).1)
theorem isTuple (N : News h₀ L s.heap news) (hm : (q, tupO vs k) ∈ news) : s.heap.IsTuple q vs.toArray := ⟨_, (N _ hm).1, rfl, _, rfl⟩
theorem eqNil_tupR {Q : Value → Shared → Prop} (N : News h₀ L s.heap news) (hm : (q, tupO (v :: vs) k) ∈ news) (hb : (b, tupO [] k2) ∈ news) (hu : A.units < cLine) (h : Q (.bool false) s) :
    wpAny (model prog w) A (compareOp .Eq (.ref q) (.ref b)) Q E s :=
  PySem.SeqAt.eq_tupleAt (e := fun _ => true) (isTuple N hm) (isTuple N hb) hu (fun j _ h2 => by simp at h2) (by simpa using h)
theorem neNil_tupR {Q : Value → Shared → Prop} (N : News h₀ L s.heap news) (hm : (q, tupO (v :: vs) k) ∈ news) (hb : (b, tupO [] k2) ∈ news) (hu : A.units < cLine) (h : Q (.bool true) s) :
    wpAny (model prog w) A (compareOp .NotEq (.ref q) (.ref b)) Q E s :=
  PySem.SeqAt.RcNeAt.tuples (e := fun _ => true) (isTuple N hm) (isTuple N hb) hu (fun j _ h2 => by simp at h2) _ _ _ _ (by simpa using h)
theorem eqNil_lstR {Q : Value → Shared → Prop} (N : News h₀ L s.heap news) (hm : (q, lstO (v :: vs) k) ∈ news) (hb : (b, lstO [] k2) ∈ news) (hu : A.units < cLine) (h : Q (.bool false) s) :
    wpAny (model prog w) A (compareOp .Eq (.ref q) (.ref b)) Q E s :=
  PySem.SeqAt.eq_list_lengthsAt (isL N hm) (isL N hb) (by simp) hu h
theorem add_tupR {Q : Value → Shared → Prop} (F : Fr h₀ L s.heap m) (N : News h₀ L s.heap news) (ht : (q, tupO vs k) ∈ news) (hb : (b, tupO ws k2) ∈ news) (h1 : vs ≠ []) (h2 : ws ≠ []) (hz : vs.length + ws.length ≤ 10000000)
    (h : ∀ D h', Fr h₀ L h' m → News h₀ L h' ((D, tupO (vs ++ ws) 0) :: news) → (∀ p ∈ news, @LT.lt Nat _ p.1 D) → Q (.ref D) { s with heap := h' }) :
    wpAny (model prog w) A (binaryOp .Add (.ref q) (.ref b)) Q E s :=
  add_tuples F N (isTp N ht) (isTp N hb) (fun e => absurd e h1) (fun _ e => absurd e h2) (fun _ _ h' F' N' => h _ h' F' N' fun p hp => Heap.lt_size (N p hp).1) (by rw [sizeLine_eq]; omega)
end
theorem reg_P04b_rules_0 : True := by
  k_with "M:S size" => iterate 777 (first
  | with_reducible assumption
  | ((try simp only [List.length_cons, List.length_append, List.length_nil, List.length_map, List.length_dropLast, List.length_tail, List.length_drop]); omega)
  | ((try simp only [List.length_cons, List.length_append, List.length_nil, List.length_map, sizeLine_eq]); omega)
  | fail "S size")
  k_with "M:S units" => iterate 777 (first | ktr_units | exact Nat.le_of_ble_eq_true rfl)
  k_with "M:S get" => iterate 777 (first | with_reducible assumption | with_reducible rfl | (simp only [List.getElem?_cons_zero, List.getElem?_cons_succ, List.getLast?_concat, List.getLast?_append_cons, List.getLast?_singleton, List.getLast?_append]; first | rfl | assumption) | fail "S get")
  k_with "M:S new" => iterate 777 ((intro z9D' z9h' z9F' z9N' z9l1; (try simp only [List.nil_append, List.cons_append, List.append_assoc] at z9N'); (try k_sweep); (try dsimp only)))
  k_with "M:call builtin:len" => iterate 777 ((k_here; (with_reducible show wpAny _ _ (call (Value.builtin "len") [Value.ref _]) _ _ _); k_dflt (first
  | (refine' len_listR ?z9a ?z9b ?z9c ?_; (case z9a => k_asm); (case z9b => k_mem); (case z9c => walk_at "S size"); k_whole; (try simp only [List.length_cons, List.length_append, List.length_nil, Nat.zero_add]))
  | (refine' len_tupR ?z9a ?z9b ?z9c ?_; (case z9a => k_asm); (case z9b => k_mem); (case z9c => walk_at "S size"); k_whole; (try simp only [List.length_cons, List.length_append, List.length_nil, Nat.zero_add])))))
  k_with "M:subscriptTail" => iterate 777 ((k_here; k_dflt (first
  | ((with_reducible show wpAny _ _ (subscriptTail _ _ (Value.ref _) (Value.int 0 _)) _ _ _); first
      | (refine' item0_listR ?z9a ?z9b ?_ ?z9c; (case z9a => k_asm); (case z9b => k_mem); (case z9c => with_unfolding_all rfl); k_whole)
      | (refine' item0_tupR ?z9a ?z9b ?z9d ?_ ?z9c; (case z9a => k_asm); (case z9b => k_mem); (case z9d => walk_at "S get"); (case z9c => with_unfolding_all rfl); k_whole))
  | ((with_reducible show wpAny _ _ (subscriptTail _ _ (Value.ref _) (Value.int 1 _)) _ _ _); (refine' item1_tupR ?z9a ?z9b ?z9d ?_ ?z9c; (case z9a => k_asm); (case z9b => k_mem); (case z9d => walk_at "S get"); (case z9c => with_unfolding_all rfl); k_whole))
  | ((with_reducible show wpAny _ _ (subscriptTail _ _ (Value.ref _) (Value.int (-1) _)) _ _ _); (refine' itemL_tupR ?z9a ?z9b ?z9d ?_ ?z9c; (case z9a => k_asm); (case z9b => k_mem); (case z9d => walk_at "S get"); (case z9c => with_unfolding_all rfl); k_whole))
  | ((with_reducible show wpAny _ _ (subscriptTail _ (PySem.Expr.Slice _ none none _) (Value.ref _) (Value.ref _)) _ _ _); (refine' tail_tupR ?z9a ?z9b ?z9d ?z9e ?_ ?z9c ?z9g; (case z9a => k_asm); (case z9b => k_asm); (case z9d => k_mem); (case z9e => walk_at "S size"); (case z9c => with_unfolding_all rfl); (case z9g => (intro _; with_unfolding_all rfl)); walk_at "S new")))))
  k_with "M:compareOp Eq ref ref" => iterate 777 ((k_here; (with_reducible show wpAny _ _ (compareOp CmpOp.Eq (Value.ref _) (Value.ref _)) _ _ _); k_dflt (first
  | (refine' eqNil_tupR ?z9a ?z9b ?z9c ?z9d ?_; (case z9a => k_asm); (case z9b => k_mem); (case z9c => k_mem); (case z9d => walk_at "S units"); k_whole)
  | (refine' eqNil_lstR ?z9a ?z9b ?z9c ?z9d ?_; (case z9a => k_asm); (case z9b => k_mem); (case z9c => k_mem); (case z9d => walk_at "S units"); k_whole))))
  k_with "M:compareOp NotEq ref ref" => iterate 777 ((k_here; (with_reducible show wpAny _ _ (compareOp CmpOp.NotEq (Value.ref _) (Value.ref _)) _ _ _); k_dflt (refine' neNil_tupR ?z9a ?z9b ?z9c ?z9d ?_; (case z9a => k_asm); (case z9b => k_mem); (case z9c => k_mem); (case z9d => walk_at "S units"); k_whole)))
  k_with "M:S ne" => iterate 777 (first | with_reducible assumption | exact List.cons_ne_nil _ _ | (simp; done) | fail "S ne")
  k_with "M:binaryOp Add ref ref" => iterate 777 ((k_here; (with_reducible show wpAny _ _ (binaryOp _ (Value.ref _) (Value.ref _)) _ _ _); k_dflt (refine' add_tupR ?z9a ?z9b ?z9c ?z9d ?z9e ?z9f ?z9g ?_; (case z9a => k_asm); (case z9b => k_asm); (case z9c => k_mem); (case z9d => k_mem); (case z9e => walk_at "S ne"); (case z9f => walk_at "S ne"); (case z9g => walk_at "S size"); walk_at "S new")))
  trivial
theorem tail_pick (v : Value) (vs : List Value) : kms_pick (v :: vs).toArray.toList (some 1) none = vs := by
  simp [kms_pick, kms_lo, kms_hi]
theorem Fr_cast {h₀ h : Heap} {L : Addr} {m m' : Str → Option Value} (F : Fr h₀ L h m) (e : ∀ y, m y = m' y) : Fr h₀ L h m' := (funext e : m = m') ▸ F
theorem reg_P04b_rules_1 : True := by
  k_with "M:exec For Name" => iterate 777 ((k_here; k_dflt ((rename Fr _ _ _ _ => z9lF'); (with_unfolding_all refine' For_turns z9lF' ?_ ?z9b ?z9c; (case z9b => (intro _; rfl)); (case z9c => passes_own)))))
  k_with "M:pyIter ref" => iterate 777 ((k_here; (with_reducible show wpAny _ _ (pyIter (Value.ref _)) (fun it s₂ => TurnsAt _ _ _ _ _ _ _ _ _ it s₂) _ _); k_dflt (first
  | (refine' iter_listTurns (lo := lstO _ _) ?z9a ?z9b ?z9c ?z9d ?z9e ?z9f ?_; (case z9a => exact rfl); (case z9b => k_asm); (case z9c => k_asm); (case z9d => k_mem); (case z9e => exact rfl); (case z9f => exact rfl); k_whole)
  | (refine' iter_tupTurns (lo := tupO _ _) ?z9a ?z9b ?z9c ?z9d ?z9e ?z9f ?_; (case z9a => exact rfl); (case z9b => k_asm); (case z9c => k_asm); (case z9d => k_mem); (case z9e => exact rfl); (case z9f => exact rfl); k_whole))))
  k_with "M:subscriptTail Name Slice ref ref" => iterate 777 ((k_here; (with_reducible show wpAny _ _ (subscriptTail _ (PySem.Expr.Slice _ none none _) (Value.ref _) (Value.ref _)) _ _ _); k_dflt (refine' kms_slice_lit ?z9F ?z9N ?z9l ?z9p ?z9q ?z9e ?_ ?z9s ?z9t ?z9z; (case z9F => k_asm); (case z9N => k_asm); (case z9l => exact isL (by k_asm) (by k_mem)); (case z9p => kmk_part); (case z9q => kmk_part); (case z9e => exact tail_pick _ _); (case z9s => with_unfolding_all rfl); (case z9t => kmk_pure); (case z9z => (simp only [List.size_toArray]; walk_at "S size")); intro z9D' z9h' z9F' z9N' z9l1; (try k_lt z9l1); (try k_sweep))))
  trivial

-- 04c_loops
section
variable {prog : Program} {w : World} {A : Around} {E : Value → Shared → Prop} {s : Shared} {env : Env} {h₀ : Heap} {target : PySem.Expr} {body : List Stmt} {Q : Flow → Shared → Prop} {keep : Led} {cls : String} {I : Addr}
/-- a turn's end: what it made lies above, its frame and its state go on -/
def MtEnd (h₀ : Heap) (L I : Addr) (oI : Obj) (nx : Led) (s₁ : Shared) (Inv : (Str → Option Value) → Led → Prop) (s₂ : Shared) : Prop :=
  ∃ h' tk m' t, s₂ = { s₁ with heap := h', toks := tk } ∧ Fr h₀ L h' m' ∧ News h₀ L h' ((I, oI) :: (nx ++ t)) ∧ Up ((I, oI) :: nx) t ∧ Inv m' (nx ++ t)
def MtPost (h₀ : Heap) (L I : Addr) (oI : Obj) (nx : Led) (s₁ : Shared) (Inv : (Str → Option Value) → Led → Prop) (Q : Flow → Shared → Prop) (f : Flow) (s₂ : Shared) : Prop :=
  match f with
  | .ret v => Q (.ret v) s₂
  | .brk => Q .next s₂
  | _ => MtEnd h₀ L I oI nx s₁ Inv s₂
theorem subL_mono {a b c : Led} (h : SubL a b) (k : ∀ p ∈ b, p ∈ c) : SubL a c := by
  induction a with
  | nil => trivial
  | cons p r ih => exact ⟨k _ h.1, ih h.2⟩
theorem items_fold {δ σ : Type} {R : Led → Value → δ → Prop} (Inv : σ → (Str → Option Value) → Led → Prop) (g : σ → δ → σ) (hR : ∀ n n' v d, R n v d → (∀ p ∈ n, p ∈ n') → R n' v d)
    (turn : ∀ v d c m nx h tk oI, R nx v d → Inv c m nx → Fr h₀ env.locals h m → News h₀ env.locals h ((I, oI) :: nx) → (∀ p ∈ nx, p.1 ≠ I) →
      wpAny (model prog w) A (assign target env v) (fun _ s₂ => wpAny (model prog w) A (execs body env) (MtPost h₀ env.locals I oI nx { s with heap := h, toks := tk } (Inv (g c d)) Q) E s₂) E { s with heap := h, toks := tk }) :
    ∀ (ds : List δ) (vs : List Value) (c : σ) (m : Str → Option Value) (nx : Led), All2 (R nx) vs ds → Inv c m nx → SubL keep nx → (∀ p ∈ nx, p.1 ≠ I) →
      (∀ c' m' t h tk, c' = ds.foldl g c → Inv c' m' (nx ++ t) → Fr h₀ env.locals h m' → News h₀ env.locals h (nx ++ t) → Up nx t → Q .next { s with heap := h, toks := tk }) →
      ItemsRest prog w A E h₀ env target body Q s [(I, cls)] keep (vs.map .val) m nx := by
  intro ds
  induction ds with
  | nil =>
    intro vs c m nx ha hi hk _ hd
    obtain rfl := ha.nil_inv
    exact ItemsRest.zero fun h tk F N => hd c m [] h tk rfl (by rw [List.append_nil]; exact hi) F (by rw [List.append_nil]; exact N) Up.nil
  | cons d ds ih =>
    intro vs c m nx ha hi hk hne hd
    obtain ⟨v, us, rfl, hv, hu⟩ := All2.cons_inv ha
    refine ItemsRest.val fun h tk F => AllObj.cons fun oI hc => AllObj.nil fun N => ?_
    have N' : News h₀ env.locals h ((I, oI) :: nx) := N
    refine wpAny_mono (turn v d c m nx h tk oI hv hi F N' hne) (fun _ s₂ hs => wpAny_mono hs (fun f s₃ hp => ?_) fun _ _ e => e) fun _ _ e => e
    have fin : MtEnd h₀ env.locals I oI nx { s with heap := h, toks := tk } (Inv (g c d)) s₃ → UnrEndW h₀ env.locals { s with heap := h, toks := tk } [(I, oI)] (fun m' n' => SubL keep n' ∧ ItemsRest prog w A E h₀ env target body Q s [(I, cls)] keep (us.map .val) m' n') s₃ := by
      rintro ⟨h', tk', m', t, rfl, F', N', U, hi'⟩
      have hne' : ∀ p ∈ nx ++ t, p.1 ≠ I := by
        intro p hp
        rcases List.mem_append.mp hp with hp | hp
        · exact hne p hp
        · exact Ne.symm (U (I, oI) (.head _) p hp)
      have hk' : SubL keep (nx ++ t) := subL_mono hk fun p hp => List.mem_append.mpr (.inl hp)
      refine ⟨h', tk', m', nx ++ t, rfl, F', N', fun p hp q hq => ?_, hk', ?_⟩
      · rw [List.mem_singleton.mp hq]; exact hne' p hp
      · exact ih us (g c d) m' (nx ++ t) (hu.imp fun v d x => hR _ _ v d x fun p hp => List.mem_append.mpr (.inl hp)) hi' hk' hne' fun c' m'' t2 h2 tk2 e2 i2 F2 N2 U2 => hd c' m'' (t ++ t2) h2 tk2 e2 (by rw [← List.append_assoc]; exact i2) F2 (by rw [← List.append_assoc]; exact N2)
          (Up.app (fun q hq => U q (.tail _ hq)) fun q hq => U2 q (List.mem_append.mpr (.inl hq)))
    cases f with
    | ret v => exact hp
    | brk => exact hp
    | next => exact fin hp
    | cont => exact fin hp
end
theorem Spl.baseC {c : Addr × Obj} {news : Led} : Spl (c :: news) (c :: news) [] := Spl.base
theorem Spl.app1C {c : Addr × Obj} {news t1 : Led} : Spl (c :: (news ++ t1)) (c :: news) t1 := ⟨fun _ hp => hp⟩
theorem turnEnd {Q : Flow → Shared → Prop} {h₀ : Heap} {L I : Addr} {oI : Obj} {nx l t : Led} {s₁ : Shared} {Inv : (Str → Option Value) → Led → Prop} {h' : Heap} {tk : Nat} {m' : Str → Option Value}
    (F : Fr h₀ L h' m') (N : News h₀ L h' l) (S : Spl l ((I, oI) :: nx) t) (U : Up ((I, oI) :: nx) t) (hi : Inv m' (nx ++ t)) : MtPost h₀ L I oI nx s₁ Inv Q .next { s₁ with heap := h', toks := tk } :=
  ⟨h', tk, m', t, rfl, F, newsSpl N S, U, hi⟩
theorem map_iteL {y k : Str} {a b c : Option Value} [Decidable (y = k)] (h1 : y = k → a = c) (h2 : ¬ y = k → b = c) : (if y = k then a else b) = c := by
  by_cases h : y = k
  · rw [if_pos h]; exact h1 h
  · rw [if_neg h]; exact h2 h
theorem map_iteR {y k : Str} {a b c : Option Value} [Decidable (y = k)] (h1 : y = k → c = a) (h2 : ¬ y = k → c = b) : c = (if y = k then a else b) := by
  by_cases h : y = k
  · rw [if_pos h]; exact h1 h
  · rw [if_neg h]; exact h2 h
local macro_rules | `(tactic| walk_at "S spl") => `(tactic| first
  | exact Spl.baseC
  | exact Spl.app1C
  | fail "S spl")
theorem reg_P04c_loops_0 : True := by
  k_with "M:S map1" => iterate 777 (first
  | ((with_reducible refine' map_iteL ?z9p ?z9n); (case z9p => (intro z9h9; subst z9h9; first | exact absurd rfl (by with_reducible assumption) | with_unfolding_all rfl)); (case z9n => (intro z9h9; walk_at "S map1")))
  | ((with_reducible refine' map_iteR ?z9p ?z9n); (case z9p => (intro z9h9; subst z9h9; first | exact absurd rfl (by with_reducible assumption) | with_unfolding_all rfl)); (case z9n => (intro z9h9; walk_at "S map1")))
  | with_unfolding_all rfl
  | fail "S map")
  k_with "M:S map" => iterate 777 ((intro z9y9; (try dsimp only); walk_at "S map1"))
  k_with "M:S turn" => iterate 777 ((refine' turnEnd ?z9e1 ?z9e2 ?z9e3 ?z9e4 ?z9e5; (case z9e1 => k_asm); (case z9e2 => assumption); (case z9e3 => walk_at "S spl"); (case z9e4 => walk_at "S up"); (try simp only [List.nil_append, List.cons_append, List.append_assoc])))
  trivial

-- 05_cmp
def cmpD (a b : Dec) : Int := if oneS a b - twoS a b = 0 then 0 else if oneS a b - twoS a b > 0 then 1 else -1
theorem pint {i j : Int} {tk : Tok} {n : Led} (h : i = j) : PInt j (.int i tk) n := h ▸ ⟨tk, rfl⟩
theorem compared_spec {w : World} {news : Led} {v1 v2 : Value} {a b : Dec} (h1 : DecIn w news v1 a) (h2 : NumIn w news v2 b) (B1 : BdM a) (B2 : BdM b) : Spec w 16 110 [v1, v2] news (PInt (cmpD a b)) := by
  refine ⟨?_⟩
  intro prog p loose mean mg mb dp un gd cn cs aa ccd cl outer A₀ base h₀ L m s Q E B F X N T hk hdp hun hret
  refine wpAny_call ?_
  k_dflt ktr_enter
  k_steps
  all_goals
    walk_at "S end"
    refine pint ?_
    unfold cmpD
    first
    | rw [if_pos (by assumption)]
    | rw [if_neg (by assumption), if_pos (by assumption)]
    | rw [if_neg (by assumption), if_neg (by assumption)]
theorem reg_P05_cmp_0 : True := by
  k_with "M:S spec" => iterate 777 (((with_reducible show Spec _ _ 110 _ _ _); exact compared_spec (by walk_at "S dec") (by walk_at "S num") (by with_reducible assumption) (by with_reducible assumption)))
  trivial
/-- a list of Decimals in the ledger -/
def leastD : Dec → List Dec → Dec
  | b, [] => b
  | b, d :: r => leastD (if cmpD b d > 0 then d else b) r
def greatD : Dec → List Dec → Dec
  | b, [] => b
  | b, d :: r => greatD (if cmpD b d < 0 then d else b) r
theorem reg_P05_cmp_1 : True := by
  k_with "M:exec Raise some none" => iterate 777 ((exfalso; omega))
  trivial
theorem leastD_foldl (b : Dec) (ds : List Dec) : leastD b ds = ds.foldl (fun b d => if cmpD b d > 0 then d else b) b := by
  induction ds generalizing b with
  | nil => rfl
  | cons d ds ih => exact ih _
theorem greatD_foldl (b : Dec) (ds : List Dec) : greatD b ds = ds.foldl (fun b d => if cmpD b d < 0 then d else b) b := by
  induction ds generalizing b with
  | nil => rfl
  | cons d ds ih => exact ih _
/-- one of those that were handed on -/
def PDec0 (w : World) (n₀ : Led) (d : Dec) (r : Value) (_ : Led) : Prop := DecIn w n₀ r d
theorem reg_P05_cmp_2 : True := by
  k_with "M:S post" => iterate 777 (((with_reducible rename PDec0 _ _ _ _ _ => z9hP); (have z9hQ := z9hP); (obtain ⟨_, _, _, _, _, _, _, z9hE, z9hM, z9hM2⟩ := DecIn.out z9hP; clear z9hP); subst z9hE; (replace z9hQ : DecIn _ _ _ _ := z9hQ)))
  trivial
theorem least_spec {w : World} {news n₀ : Led} {l : Addr} {v : Value} {vs : List Value} {k : Nat} {d : Dec} {ds : List Dec} (hm : (l, lstO (v :: vs) k) ∈ news) (hs : ∀ p ∈ n₀, p ∈ news) (hd : DecIn w n₀ v d) (ha : All2 (DecIn w n₀) vs ds) (B1 : BdM d) (B2 : ∀ e ∈ ds, BdM e) (hz : vs.length ≤ 100000) :
    Spec w 24 187 [.ref l] news (PDec0 w n₀ (leastD d ds)) := by
  refine ⟨?_⟩
  intro prog p loose mean mg mb dp un gd cn cs aa ccd cl outer A₀ base h₀ L m s Q E B F X N T hk hdp hun hret
  have hd' := hd.mono hs
  refine wpAny_call ?_
  k_dflt ktr_enter
  k_steps
  refine items_fold (R := fun _ v d => DecIn w n₀ v d ∧ BdM d) (fun c m n => (∃ vb ov, (∀ y, m y = if y = Str.ofString "value" then ov else if y = Str.ofString "best" then some vb else ([(Str.ofString "values", Value.ref l)] : List (Str × Value)).lookup y) ∧ DecIn w n₀ vb c) ∧ BdM c ∧ ∀ p ∈ n₀, p ∈ n) (fun b d => if cmpD b d > 0 then d else b) (fun n n' v d x k => x) ?_ ds vs d _ _ ?_ ?_ ?_ ?_ ?_
  · rintro v' d' c m' nx h tk oI ⟨hv, hb⟩ ⟨⟨vb, ov, hm', hc⟩, hcb, hs'⟩ F N hne
    have F' := Fr_cast F hm'
    have hv' := hv
    have hc' := hc
    obtain ⟨x, dx, k1, k2, u1, u2, n, rfl, m1, m2⟩ := hc
    clear F hm' hd' hd
    k_steps
    · walk_at "S turn"
      rw [if_pos (by assumption)]
      exact ⟨⟨_, some v', by walk_at "S map", hv⟩, hb, by walk_at "S sub"⟩
    · walk_at "S turn"
      rw [if_neg (by assumption)]
      exact ⟨⟨_, some v', by walk_at "S map", hc'⟩, hcb, by walk_at "S sub"⟩
  · exact ha.imp2 B2 fun v d h h' => ⟨h, h'⟩
  · exact ⟨⟨v, none, by walk_at "S map", hd⟩, B1, by walk_at "S sub"⟩
  · exact ⟨by walk_at "S mem", trivial⟩
  · exact ne_below (by assumption)
  · rintro c' m' t h tk e ⟨⟨vb, ov, hm', hc⟩, _⟩ F N U
    have F' := Fr_cast F hm'
    clear F hm'
    k_steps
    walk_at "S end"
    show DecIn w n₀ _ _
    rw [leastD_foldl, ← e]
    exact hc
theorem greatest_spec {w : World} {news n₀ : Led} {l : Addr} {v : Value} {vs : List Value} {k : Nat} {d : Dec} {ds : List Dec} (hm : (l, lstO (v :: vs) k) ∈ news) (hs : ∀ p ∈ n₀, p ∈ news) (hd : DecIn w n₀ v d) (ha : All2 (DecIn w n₀) vs ds) (B1 : BdM d) (B2 : ∀ e ∈ ds, BdM e) (hz : vs.length ≤ 100000) :
    Spec w 24 194 [.ref l] news (PDec0 w n₀ (greatD d ds)) := by
  refine ⟨?_⟩
  intro prog p loose mean mg mb dp un gd cn cs aa ccd cl outer A₀ base h₀ L m s Q E B F X N T hk hdp hun hret
  have hd' := hd.mono hs
  refine wpAny_call ?_
  k_dflt ktr_enter
  k_steps
  refine items_fold (R := fun _ v d => DecIn w n₀ v d ∧ BdM d) (fun c m n => (∃ vb ov, (∀ y, m y = if y = Str.ofString "value" then ov else if y = Str.ofString "best" then some vb else ([(Str.ofString "values", Value.ref l)] : List (Str × Value)).lookup y) ∧ DecIn w n₀ vb c) ∧ BdM c ∧ ∀ p ∈ n₀, p ∈ n) (fun b d => if cmpD b d < 0 then d else b) (fun n n' v d x k => x) ?_ ds vs d _ _ ?_ ?_ ?_ ?_ ?_
  · rintro v' d' c m' nx h tk oI ⟨hv, hb⟩ ⟨⟨vb, ov, hm', hc⟩, hcb, hs'⟩ F N hne
    have F' := Fr_cast F hm'
    have hv' := hv
    have hc' := hc
    obtain ⟨x, dx, k1, k2, u1, u2, n, rfl, m1, m2⟩ := hc
    clear F hm' hd' hd
    k_steps
    · walk_at "S turn"
      rw [if_pos (by assumption)]
      exact ⟨⟨_, some v', by walk_at "S map", hv⟩, hb, by walk_at "S sub"⟩
    · walk_at "S turn"
      rw [if_neg (by assumption)]
      exact ⟨⟨_, some v', by walk_at "S map", hc'⟩, hcb, by walk_at "S sub"⟩
  · exact ha.imp2 B2 fun v d h h' => ⟨h, h'⟩
  · exact ⟨⟨v, none, by walk_at "S map", hd⟩, B1, by walk_at "S sub"⟩
  · exact ⟨by walk_at "S mem", trivial⟩
  · exact ne_below (by assumption)
  · rintro c' m' t h tk e ⟨⟨vb, ov, hm', hc⟩, _⟩ F N U
    have F' := Fr_cast F hm'
    clear F hm'
    k_steps
    walk_at "S end"
    show DecIn w n₀ _ _
    rw [greatD_foldl, ← e]
    exact hc

-- 06_mat
structure Mat where
  a : Dec
  b : Dec
  c : Dec
  d : Dec
  e : Dec
  f : Dec
abbrev ent (w : World) (x : String) (k : Tok) (v : Value) : DictEntry := ⟨PyData.keyHash w.params (Str.ofString x), .str (Str.ofString x) k, v⟩
abbrev matDict (w : World) (va vb vc vd ve vf : Value) (k1 k2 k3 k4 k5 k6 : Tok) (n : Nat) : Obj := dictOf [ent w "a" k1 va, ent w "b" k2 vb, ent w "c" k3 vc, ent w "d" k4 vd, ent w "e" k5 ve, ent w "f" k6 vf] n
def MatIn (w : World) (news : Led) (v : Value) (M : Mat) : Prop :=
  ∃ (x dx : Addr) (va vb vc vd ve vf : Value) (k1 k2 k3 k4 k5 k6 : Tok) (n : Nat), v = .ref x ∧ (x, instObj 244 dx) ∈ news ∧ (dx, matDict w va vb vc vd ve vf k1 k2 k3 k4 k5 k6 n) ∈ news ∧
    DecIn w news va M.a ∧ DecIn w news vb M.b ∧ DecIn w news vc M.c ∧ DecIn w news vd M.d ∧ DecIn w news ve M.e ∧ DecIn w news vf M.f
inductive MatR (w : World) (news : Led) (v : Value) (M : Mat) : Prop
  | mk (x dx : Addr) (va vb vc vd ve vf : Value) (k1 k2 k3 k4 k5 k6 : Tok) (n : Nat) (e : v = .ref x) (a : (x, instObj 244 dx) ∈ news) (b : (dx, matDict w va vb vc vd ve vf k1 k2 k3 k4 k5 k6 n) ∈ news)
    (h : DecIn w news va M.a ∧ DecIn w news vb M.b ∧ DecIn w news vc M.c ∧ DecIn w news vd M.d ∧ DecIn w news ve M.e ∧ DecIn w news vf M.f)
theorem MatIn.out {w : World} {news : Led} {v : Value} {M : Mat} (h : MatIn w news v M) : MatR w news v M := by
  obtain ⟨x, dx, va, vb, vc, vd, ve, vf, k1, k2, k3, k4, k5, k6, n, e, a, b, h⟩ := h
  exact ⟨x, dx, va, vb, vc, vd, ve, vf, k1, k2, k3, k4, k5, k6, n, e, a, b, h⟩
theorem MatIn.mono {w : World} {news news' : Led} {v : Value} {M : Mat} (h : MatIn w news v M) (hs : ∀ p ∈ news, p ∈ news') : MatIn w news' v M := by
  obtain ⟨x, dx, va, vb, vc, vd, ve, vf, k1, k2, k3, k4, k5, k6, n, e, a, b, h1, h2, h3, h4, h5, h6⟩ := h
  exact ⟨x, dx, va, vb, vc, vd, ve, vf, k1, k2, k3, k4, k5, k6, n, e, hs _ a, hs _ b, h1.mono hs, h2.mono hs, h3.mono hs, h4.mono hs, h5.mono hs, h6.mono hs⟩
/-- a new matrix: what it bears stands where its parts stood, or is new -/
def PMatX (w : World) (n1 n2 n3 n4 n5 n6 : Led) (M : Mat) (r : Value) (n : Led) : Prop :=
  ∃ (x dx : Addr) (va vb vc vd ve vf : Value) (k1 k2 k3 k4 k5 k6 : Tok) (k : Nat), r = .ref x ∧ (x, instObj 244 dx) ∈ n ∧ (dx, matDict w va vb vc vd ve vf k1 k2 k3 k4 k5 k6 k) ∈ n ∧
    DecIn w (n1 ++ n) va M.a ∧ DecIn w (n2 ++ n) vb M.b ∧ DecIn w (n3 ++ n) vc M.c ∧ DecIn w (n4 ++ n) vd M.d ∧ DecIn w (n5 ++ n) ve M.e ∧ DecIn w (n6 ++ n) vf M.f
theorem PMatX.mat {w : World} {n1 n2 n3 n4 n5 n6 n l : Led} {M : Mat} {r : Value} (h : PMatX w n1 n2 n3 n4 n5 n6 M r n) (s1 : ∀ p ∈ n1, p ∈ l) (s2 : ∀ p ∈ n2, p ∈ l) (s3 : ∀ p ∈ n3, p ∈ l) (s4 : ∀ p ∈ n4, p ∈ l) (s5 : ∀ p ∈ n5, p ∈ l) (s6 : ∀ p ∈ n6, p ∈ l) (s : ∀ p ∈ n, p ∈ l) : MatIn w l r M := by
  obtain ⟨x, dx, va, vb, vc, vd, ve, vf, k1, k2, k3, k4, k5, k6, n, e, a, b, h1, h2, h3, h4, h5, h6⟩ := h
  exact ⟨x, dx, va, vb, vc, vd, ve, vf, k1, k2, k3, k4, k5, k6, n, e, s _ a, s _ b, h1.mono (sub_appL s1 s), h2.mono (sub_appL s2 s), h3.mono (sub_appL s3 s), h4.mono (sub_appL s4 s), h5.mono (sub_appL s5 s), h6.mono (sub_appL s6 s)⟩
def PMat (w : World) (M : Mat) (r : Value) (n : Led) : Prop := MatIn w n r M
theorem matrix_new {w : World} {news n1 n2 n3 n4 n5 n6 : Led} {v1 v2 v3 v4 v5 v6 : Value} {a b c d e f : Dec} (h1 : NumIn w n1 v1 a) (s1 : ∀ p ∈ n1, p ∈ news) (h2 : NumIn w n2 v2 b) (s2 : ∀ p ∈ n2, p ∈ news) (h3 : NumIn w n3 v3 c) (s3 : ∀ p ∈ n3, p ∈ news)
    (h4 : NumIn w n4 v4 d) (s4 : ∀ p ∈ n4, p ∈ news) (h5 : NumIn w n5 v5 e) (s5 : ∀ p ∈ n5, p ∈ news) (h6 : NumIn w n6 v6 f) (s6 : ∀ p ∈ n6, p ∈ news) :
    Spec w 14 244 [v1, v2, v3, v4, v5, v6] news (PMatX w n1 n2 n3 n4 n5 n6 ⟨a, b, c, d, e, f⟩) := by
  refine ⟨?_⟩
  intro prog p loose mean mg mb dp un gd cn cs aa ccd cl outer A₀ base h₀ L m s Q E B F X N T hk hdp hun hret
  walk1
  k_steps
  walk_at "S end"
  refine ⟨_, _, _, _, _, _, _, _, _, _, _, _, _, _, _, rfl, by k_mem, by k_mem, by walk_at "S dec", by walk_at "S dec", by walk_at "S dec", by walk_at "S dec", by walk_at "S dec", by walk_at "S dec"⟩
theorem reg_P06_mat_0 : True := by
  k_with "M:S num0" => iterate 777 (first | with_reducible assumption | with_reducible exact (NumIn.int : NumIn _ [] _ _) | with_reducible exact NumIn.dec (by with_reducible assumption) | fail "S num0")
  k_with "M:S spec" => iterate 777 (((with_reducible show Spec _ _ 244 _ _ _); exact matrix_new (by walk_at "S num0") (by walk_at "S sub") (by walk_at "S num0") (by walk_at "S sub") (by walk_at "S num0") (by walk_at "S sub") (by walk_at "S num0") (by walk_at "S sub") (by walk_at "S num0") (by walk_at "S sub") (by walk_at "S num0") (by walk_at "S sub")))
  k_with "M:S post" => iterate 777 (first
  | ((with_reducible rename PMatX _ _ _ _ _ _ _ _ _ _ => z9hP); (have z9hQ := z9hP); (obtain ⟨_, _, _, _, _, _, _, _, _, _, _, _, _, _, _, z9hE, _⟩ := z9hP); subst z9hE)
  | ((with_reducible rename PMat _ _ _ _ => z9hP); (have z9hQ := z9hP); (obtain ⟨_, _, _, _, _, _, _, _, _, _, _, _, _, _, _, z9hE, _⟩ := MatIn.out z9hP; clear z9hP); subst z9hE; (replace z9hQ : MatIn _ _ _ _ := z9hQ)))
  k_with "M:S mat" => iterate 777 (first
  | with_reducible assumption
  | (refine' MatIn.mono ?z9a ?z9b; (case z9a => with_reducible assumption); (case z9b => walk_at "S sub"))
  | (refine' PMatX.mat ?z9a ?z9s1 ?z9s2 ?z9s3 ?z9s4 ?z9s5 ?z9s6 ?z9s; (case z9a => with_reducible assumption); (case z9s1 => walk_at "S sub"); (case z9s2 => walk_at "S sub"); (case z9s3 => walk_at "S sub"); (case z9s4 => walk_at "S sub"); (case z9s5 => walk_at "S sub"); (case z9s6 => walk_at "S sub"); (case z9s => walk_at "S sub"))
  | fail "S mat")
  trivial
abbrev dI (i : Int) : Dec := ⟨i, 0⟩
theorem identity_spec {w : World} {news : Led} : Spec w 18 255 [] news (PMat w ⟨dI 1, dI 0, dI 0, dI 1, dI 0, dI 0⟩) := by
  refine ⟨?_⟩
  intro prog p loose mean mg mb dp un gd cn cs aa ccd cl outer A₀ base h₀ L m s Q E B F X N T hk hdp hun hret
  refine wpAny_call ?_
  k_dflt ktr_enter
  k_steps
  walk_at "S end"
  show MatIn _ _ _ _
  walk_at "S mat"
theorem translation_spec {w : World} {news : Led} {x y : Int} {t1 t2 : Tok} : Spec w 18 262 [.int x t1, .int y t2] news (PMat w ⟨dI 1, dI 0, dI 0, dI 1, dI x, dI y⟩) := by
  refine ⟨?_⟩
  intro prog p loose mean mg mb dp un gd cn cs aa ccd cl outer A₀ base h₀ L m s Q E B F X N T hk hdp hun hret
  refine wpAny_call ?_
  k_dflt ktr_enter
  k_steps
  walk_at "S end"
  show MatIn _ _ _ _
  walk_at "S mat"
theorem scaling_spec {w : World} {news : Led} {x y : Int} {t1 t2 : Tok} : Spec w 18 269 [.int x t1, .int y t2] news (PMat w ⟨dI x, dI 0, dI 0, dI y, dI 0, dI 0⟩) := by
  refine ⟨?_⟩
  intro prog p loose mean mg mb dp un gd cn cs aa ccd cl outer A₀ base h₀ L m s Q E B F X N T hk hdp hun hret
  refine wpAny_call ?_
  k_dflt ktr_enter
  k_steps
  walk_at "S end"
  show MatIn _ _ _ _
  walk_at "S mat"
theorem quarter_spec {w : World} {news : Led} {t1 : Tok} : Spec w 18 276 [.int 1 t1] news (PMat w ⟨dI 0, dI 1, dI (-1), dI 0, dI 0, dI 0⟩) := by
  refine ⟨?_⟩
  intro prog p loose mean mg mb dp un gd cn cs aa ccd cl outer A₀ base h₀ L m s Q E B F X N T hk hdp hun hret
  refine wpAny_call ?_
  k_dflt ktr_enter
  k_steps
  walk_at "S end"
  show MatIn _ _ _ _
  walk_at "S mat"

-- 07_app
/-- a pair of Decimals -/
def PairIn (w : World) (news : Led) (v : Value) (p : Dec × Dec) : Prop := ∃ (q : Addr) (a b : Value) (k : Nat), v = .ref q ∧ (q, tupO [a, b] k) ∈ news ∧ DecIn w news a p.1 ∧ DecIn w news b p.2
theorem PairIn.mono {w : World} {news news' : Led} {v : Value} {p : Dec × Dec} (h : PairIn w news v p) (hs : ∀ p ∈ news, p ∈ news') : PairIn w news' v p := by
  obtain ⟨q, a, b, k, e, m, h1, h2⟩ := h
  exact ⟨q, a, b, k, e, hs _ m, h1.mono hs, h2.mono hs⟩
def PPair (w : World) (p : Dec × Dec) (r : Value) (n : Led) : Prop := PairIn w n r p
theorem reg_P07_app_0 : True := by
  k_with "M:S post" => iterate 777 (((with_reducible rename PPair _ _ _ _ => z9hP); (have z9hQ := z9hP); (obtain ⟨_, _, _, _, z9hE, z9hM, z9hA, z9hB⟩ := z9hP); subst z9hE; (replace z9hQ : PairIn _ _ _ _ := z9hQ); (have z9hA2 := z9hA); (have z9hB2 := z9hB); (obtain ⟨_, _, _, _, _, _, _, z9hE, _, _⟩ := DecIn.out z9hA2; clear z9hA2); subst z9hE; (obtain ⟨_, _, _, _, _, _, _, z9hE, _, _⟩ := DecIn.out z9hB2; clear z9hB2); subst z9hE))
  k_with "M:S pair" => iterate 777 (first
  | with_reducible assumption
  | (refine' PairIn.mono ?z9a ?z9b; (case z9a => with_reducible assumption); (case z9b => walk_at "S sub"))
  | (refine ⟨_, _, _, _, rfl, by k_mem, ?z9a, ?z9b⟩; (case z9a => walk_at "S dec"); (case z9b => walk_at "S dec"))
  | fail "S pair")
  trivial
structure AppOk (M : Mat) (x y : Dec) : Prop where
  px : BdM x
  py : BdM y
  pa : BdM M.a
  pb : BdM M.b
  pc : BdM M.c
  pd : BdM M.d
  pe : BdM M.e
  pf : BdM M.f
  ax : BdM (mulD M.a x)
  cy : BdM (mulD M.c y)
  ps : BdM (plusD (mulD M.a x) (mulD M.c y))
  bx : BdM (mulD M.b x)
  dy : BdM (mulD M.d y)
  pt : BdM (plusD (mulD M.b x) (mulD M.d y))
def appD (M : Mat) (p : Dec × Dec) : Dec × Dec := (plusD (plusD (mulD M.a p.1) (mulD M.c p.2)) M.e, plusD (plusD (mulD M.b p.1) (mulD M.d p.2)) M.f)
theorem applied_spec {w : World} {news : Led} {v1 v2 v3 : Value} {M : Mat} {x y : Dec} (h1 : MatIn w news v1 M) (h2 : NumIn w news v2 x) (h3 : NumIn w news v3 y) (ok : AppOk M x y) : Spec w 24 222 [v1, v2, v3] news (PPair w (appD M (x, y))) := by
  refine ⟨?_⟩
  intro prog p loose mean mg mb dp un gd cn cs aa ccd cl outer A₀ base h₀ L m s Q E B F X N T hk hdp hun hret
  obtain ⟨o1, o2, o3, o4, o5, o6, o7, o8, o9, o10, o11, o12, o13, o14⟩ := ok
  obtain ⟨x, dx, va, vb, vc, vd, ve, vf, k1, k2, k3, k4, k5, k6, n, rfl, m1, m2, ha, hb, hc, hd, he, hf⟩ := h1
  have ha' := ha
  have hb' := hb
  have hc' := hc
  have hd' := hd
  have he' := NumIn.dec he
  have hf' := NumIn.dec hf
  obtain ⟨_, _, _, _, _, _, _, rfl, _, _⟩ := DecIn.out ha; clear ha
  obtain ⟨_, _, _, _, _, _, _, rfl, _, _⟩ := DecIn.out hb; clear hb
  obtain ⟨_, _, _, _, _, _, _, rfl, _, _⟩ := DecIn.out hc; clear hc
  obtain ⟨_, _, _, _, _, _, _, rfl, _, _⟩ := DecIn.out hd; clear hd
  obtain ⟨_, _, _, _, _, _, _, rfl, _, _⟩ := DecIn.out he; clear he
  obtain ⟨_, _, _, _, _, _, _, rfl, _, _⟩ := DecIn.out hf; clear hf
  refine wpAny_call ?_
  k_dflt ktr_enter
  k_steps
  walk_at "S end"
  unfold PPair appD
  walk_at "S pair"

-- 08_mul
def mulM (M N : Mat) : Mat := ⟨plusD (mulD M.a N.a) (mulD M.b N.c), plusD (mulD M.a N.b) (mulD M.b N.d), plusD (mulD M.c N.a) (mulD M.d N.c), plusD (mulD M.c N.b) (mulD M.d N.d), (appD N (M.e, M.f)).1, (appD N (M.e, M.f)).2⟩
structure MulOk (M N : Mat) : Prop where
  app : AppOk N M.e M.f
  a : BdM M.a
  b : BdM M.b
  c : BdM M.c
  d : BdM M.d
  aa : BdM (mulD M.a N.a)
  bc : BdM (mulD M.b N.c)
  ab : BdM (mulD M.a N.b)
  bd : BdM (mulD M.b N.d)
  ca : BdM (mulD M.c N.a)
  dc : BdM (mulD M.d N.c)
  cb : BdM (mulD M.c N.b)
  dd : BdM (mulD M.d N.d)
theorem reg_P08_mul_0 : True := by
  k_with "M:S spec" => iterate 777 (((with_reducible show Spec _ _ 222 _ _ _); exact applied_spec (by walk_at "S mat") (by walk_at "S num") (by walk_at "S num") (by with_reducible assumption)))
  trivial
theorem mul_spec {w : World} {news : Led} {v1 v2 : Value} {M1 M2 : Mat} (h1 : MatIn w news v1 M1) (h2 : MatIn w news v2 M2) (ok : MulOk M1 M2) : Spec w 30 215 [v1, v2] news (PMat w (mulM M1 M2)) := by
  refine ⟨?_⟩
  intro prog p loose mean mg mb dp un gd cn cs aa ccd cl outer A₀ base h₀ L m s Q E B F X N T hk hdp hun hret
  obtain ⟨ap, a1, a2, a3, a4, o1, o2, o3, o4, o5, o6, o7, o8⟩ := ok
  have p1 := ap.pa
  have p2 := ap.pb
  have p3 := ap.pc
  have p4 := ap.pd
  have h2' := h2
  obtain ⟨x, dx, va, vb, vc, vd, ve, vf, k1, k2, k3, k4, k5, k6, n, rfl, m1, m2, ha, hb, hc, hd, he, hf⟩ := h1
  obtain ⟨x', dx', va', vb', vc', vd', ve', vf', k1', k2', k3', k4', k5', k6', n', rfl, m1', m2', ha', hb', hc', hd', he', hf'⟩ := h2
  have ha1 := ha
  have hb1 := hb
  have hc1 := hc
  have hd1 := hd
  have he1 := NumIn.dec he
  have hf1 := NumIn.dec hf
  have ha2 := NumIn.dec ha'
  have hb2 := NumIn.dec hb'
  have hc2 := NumIn.dec hc'
  have hd2 := NumIn.dec hd'
  obtain ⟨_, _, _, _, _, _, _, rfl, _, _⟩ := DecIn.out ha; clear ha
  obtain ⟨_, _, _, _, _, _, _, rfl, _, _⟩ := DecIn.out hb; clear hb
  obtain ⟨_, _, _, _, _, _, _, rfl, _, _⟩ := DecIn.out hc; clear hc
  obtain ⟨_, _, _, _, _, _, _, rfl, _, _⟩ := DecIn.out hd; clear hd
  obtain ⟨_, _, _, _, _, _, _, rfl, _, _⟩ := DecIn.out he; clear he
  obtain ⟨_, _, _, _, _, _, _, rfl, _, _⟩ := DecIn.out hf; clear hf
  obtain ⟨_, _, _, _, _, _, _, rfl, _, _⟩ := ha'
  obtain ⟨_, _, _, _, _, _, _, rfl, _, _⟩ := hb'
  obtain ⟨_, _, _, _, _, _, _, rfl, _, _⟩ := hc'
  obtain ⟨_, _, _, _, _, _, _, rfl, _, _⟩ := hd'
  refine wpAny_call ?_
  k_dflt ktr_enter
  k_steps
  walk_at "S end"
  unfold PMat mulM
  walk_at "S mat"

-- 09_comp
section
variable {prog : Program} {w : World} {A : Around} {E : Value → Shared → Prop} {s : Shared} {h₀ : Heap} {L q : Addr} {m : Str → Option Value} {news : Led} {vs ws : List Value} {k : Nat} {value slice : PySem.Expr} {u : Tok} {v : Value}
theorem adjust_last (n : Nat) (hn : 1 ≤ n) : Builtin.Slice.sliceAdjust none (some (-1)) 1 (n : Int) = (0, (n : Int) - 1) := by
  unfold Builtin.Slice.sliceAdjust
  have h1 : ¬ ((1 : Int) < 0) := by omega
  have h2 : ((-1 : Int) < 0) := by omega
  have h3 : ¬ ((-1 : Int) + n < 0) := by omega
  simp only [h1, h2, if_false, if_true]
  congr 1
  omega
theorem places_last (n : Nat) (hn : 1 ≤ n) : Builtin.Slice.slicePlaces 0 ((n : Int) - 1) 1 = n - 1 := by
  unfold Builtin.Slice.slicePlaces
  have h1 : (1 : Int) > 0 := by omega
  simp only [h1, if_true, Int.ediv_one]
  split <;> omega
theorem sliceApplied_last {sl : Addr} {n : Nat} {u : Tok} {Q : Int × Int × Nat → Shared → Prop} (hs : s.heap.IsSliceOf sl .none (.int (-1) u) .none) (hn : 1 ≤ n) (h : Q (0, 1, n - 1) s) :
    wpAny (model prog w) A (Builtin.Slice.sliceApplied (.ref sl) (pure (n : Int))) Q E s := by
  obtain ⟨os, hos, hcs, hds⟩ := id hs
  unfold Builtin.Slice.sliceApplied Builtin.Slice.sliceFields
  refine wpAny_bind (wpAny_bind (wpAny_field hos hds (x := .none) rfl (wpAny_bind (wpAny_field hos hds (x := .int (-1) u) rfl (wpAny_bind (wpAny_field hos hds (x := .none) rfl (wpAny_pure ?_)))))))
  refine wpAny_bind (slicePart_none ?_)
  show wpAny _ _ (if ((1 : Int) == 0) = true then _ else _) _ _ s
  rw [if_neg (by decide)]
  refine wpAny_bind (slicePart_none (wpAny_bind (slicePart_int (wpAny_bind (wpAny_pure ?_)))))
  show wpAny _ _ (match Builtin.Slice.sliceAdjust none (some (-1)) 1 (n : Int) with | (lo, hi) => pure (lo, (1 : Int), Builtin.Slice.slicePlaces lo hi 1)) _ _ s
  rw [adjust_last n hn]
  show wpAny _ _ (pure ((0 : Int), (1 : Int), Builtin.Slice.slicePlaces 0 ((n : Int) - 1) 1)) _ _ s
  rw [places_last n hn]
  exact wpAny_pure h
theorem pick_last (xs : Array Value) : ((List.range (xs.size - 1)).filterMap fun (k : Nat) => xs[((0 : Int) + (k : Int) * 1).toNat]?).toArray = xs.toList.dropLast.toArray := by
  have e : (fun (k : Nat) => xs[((0 : Int) + (k : Int) * 1).toNat]?) = (fun x => xs[x]?) ∘ fun x => 0 + x := by
    funext k
    have : ((0 : Int) + (k : Int) * 1).toNat = 0 + k := by omega
    rw [this]; rfl
  rw [e, ← List.filterMap_map]
  have := pick_run xs 0 (xs.size - 1)
  rw [this, List.drop_zero, List.dropLast_eq_take, Array.length_toList]
theorem getItem_last {t sl : Addr} {items : Array Value} {u : Tok} {Q : Value → Shared → Prop} (ht : IsTup s.heap t items) (hs : s.heap.IsSliceOf sl .none (.int (-1) u) .none) (h1 : 1 ≤ items.size)
    (h : Q (.ref s.heap.objs.size) { s with heap := s.heap.push { cls := .type "tuple", data := .seq items.toList.dropLast.toArray } })
    (hsz : items.size ≤ sizeLine) : wpAny (model prog w) A (getItem (.ref t) (.ref sl)) Q E s := by
  have hdrop : sizeOk (.seq items.toList.dropLast.toArray) := by
    show items.toList.dropLast.toArray.size ≤ sizeLine
    rw [List.size_toArray, List.length_dropLast, Array.length_toList]
    omega
  obtain ⟨os, hos, hcs, hds⟩ := id hs
  have hTs : s.TypeIs (.ref sl) "slice" := ⟨os, hos, hcs⟩
  unfold getItem
  try with_reducible refine wpAny_holding ?_
  first | refine wpAny_bind (wpAny_pure ?_) | skip
  refine wpAny_bind (wpAny_sequenceKey ht.typeIs (by decide) ?_)
  refine wpAny_bind (wpAny_callSpecial?_slot (name := Str.ofString "__getitem__") ht.typeIs slot_tuple_getitem
    (wpAny_call_entry slot_tuple_getitem ht.typeIs entry_tuple_getitem ?_ (args_tuple_getitem _ _)))
  show wpAny _ _ (Builtin.Tuple.tupleItemsOf (.ref t) >>= _) _ _ s
  refine wpAny_bind (tupleItemsOf_ ht ?_)
  refine wpAny_bind (wpAny_typeOf hTs ?_)
  rw [if_pos (by decide)]
  refine wpAny_bind (sliceApplied_last hs h1 ?_)
  have hno : ¬ (((0 : Int) == 0 && (1 : Int) == 1 && (items.size - 1) == items.size) = true) := by
    have : ((items.size - 1) == items.size) = false := by rw [beq_eq_false_iff_ne]; omega
    rw [this]; simp
  show wpAny _ _ (if ((0 : Int) == 0 && (1 : Int) == 1 && (items.size - 1) == items.size) = true then _ else _) _ _ s
  rw [if_neg hno, pick_last items]
  first
    | exact wpAny_bind (m := Builtin.Tuple.tupleExact _) (wpAny_newObj_type (wpAny_pure ⟨_, rfl, wpAny_pure h⟩) hdrop)
    | exact wpAny_bind (m := Builtin.Tuple.tupleExact _) (wpAny_newObj_type (wpAny_bind (wpAny_pure (wpAny_pure ⟨_, rfl, wpAny_pure h⟩))) hdrop)
    | exact wpAny_bind (wpAny_bind (m := Builtin.Tuple.tupleExact _) (wpAny_newObj_type (wpAny_pure (wpAny_pure ⟨_, rfl, wpAny_pure h⟩)) hdrop))
    | exact wpAny_bind (wpAny_bind (m := Builtin.Tuple.tupleExact _) (wpAny_newObj_type (wpAny_pure ⟨_, rfl, wpAny_pure h⟩) hdrop))
theorem last_tupR {Q : Value → Shared → Prop} (F : Fr h₀ L s.heap m) (N : News h₀ L s.heap news) (hm : (q, tupO (vs ++ [v]) k) ∈ news) (hz : vs.length ≤ 1000000)
    (h : ∀ D h', Fr h₀ L h' m → News h₀ L h' ((D, tupO vs 0) :: news) → (∀ p ∈ news, @LT.lt Nat _ p.1 D) → Q (.ref D) { s with heap := h' })
    (hs : subscripted slice false (.ref q) (.ref s.heap.objs.size) = operate [.ref s.heap.objs.size, .ref q] (getItem (.ref q) (.ref s.heap.objs.size)) := by with_unfolding_all rfl)
    (hg : ∀ r, letTemporaryGo value (.ref q) r = pure () := by intro _; with_unfolding_all rfl) :
    wpAny (model prog w) A (subscriptTail value slice (.ref q) (.ref s.heap.objs.size)) Q E { s with heap := s.heap.push { cls := .type "slice", data := .fields #[.none, .int (-1) u, .none] } } := by
  have ht := isTp N hm
  have ht' : IsTup (s.heap.push { cls := .type "slice", data := .fields #[.none, .int (-1) u, .none] }) q (vs ++ [v]).toArray := ht.keeps fun _ _ e => Heap.get?_push_of_some _ e
  refine subscriptTail_ops (s := { s with heap := s.heap.push { cls := .type "slice", data := .fields #[.none, .int (-1) u, .none] } }) ht'.typeIs slot_tuple_getitem.lookup
    (getItem_last ht' (Heap.IsSliceOf.new ..) (by simp) ?_ (by simp only [List.size_toArray, List.length_append, List.length_singleton, sizeLine_eq]; omega)) hs hg
  have N1 := News.push (F.push { cls := .type "slice", data := .fields #[.none, .int (-1) u, .none] }) (N.grown fun _ _ e => Heap.get?_push_of_some _ e) { cls := .type "tuple", data := .seq (vs ++ [v]).toArray.toList.dropLast.toArray }
  rw [Heap.size_push] at N1
  show Q (.ref (s.heap.push _).objs.size) _
  rw [Heap.size_push]
  rw [show (vs ++ [v]).toArray.toList.dropLast = vs by simp] at N1 ⊢
  exact h _ _ ((F.push _).push _) N1 fun p hp => Nat.lt_succ_of_lt (Heap.lt_size (N p hp).1)
def AddAt (a b c : Addr × Obj) (t : Led) : Prop := ∀ l : Led, a ∈ l → b ∈ l → c ∈ l ++ t
theorem All2.cons {δ : Type} {P : Value → δ → Prop} {v : Value} {d : δ} {vs : List Value} {ds : List δ} (h : P v d) (k : All2 P vs ds) : All2 P (v :: vs) (d :: ds) := ⟨h, k⟩
theorem AddAt.use {a b c : Addr × Obj} {t l : Led} (h : AddAt a b c t) (ha : a ∈ l) (hb : b ∈ l) (ht : ∀ p ∈ t, p ∈ l) : c ∈ l := (List.mem_append.mp (h l ha hb)).elim id (ht c)
theorem add_tupG {b : Addr} {k2 : Nat} {Q : Value → Shared → Prop} (F : Fr h₀ L s.heap m) (N : News h₀ L s.heap news) (ht : (q, tupO vs k) ∈ news) (hb : (b, tupO ws k2) ∈ news) (hz : vs.length + ws.length ≤ 10000000)
    (h : ∀ D k' t h', Fr h₀ L h' m → News h₀ L h' (news ++ t) → Up news t → AddAt (q, tupO vs k) (b, tupO ws k2) (D, tupO (vs ++ ws) k') t → (D, tupO (vs ++ ws) k') ∈ news ++ t → Q (.ref D) { s with heap := h' }) :
    wpAny (model prog w) A (binaryOp .Add (.ref q) (.ref b)) Q E s := by
  have old : ∀ {D k'}, (∀ l : Led, (q, tupO vs k) ∈ l → (b, tupO ws k2) ∈ l → (D, tupO (vs ++ ws) k') ∈ l) → Q (.ref D) s := fun {D k'} hm => h D k' [] s.heap F (by rw [List.append_nil]; exact N) Up.nil (fun l a b => by rw [List.append_nil]; exact hm l a b) (by rw [List.append_nil]; exact hm news ht hb)
  refine add_tuples F N (isTp N ht) (isTp N hb) (fun e => ?_) (fun _ e => ?_) (fun _ _ h' F' N' => ?_) (by rw [sizeLine_eq]; omega)
  · subst e; exact old fun _ _ h => h
  · subst e; exact old fun _ h _ => by rw [List.append_nil]; exact h
  · refine h s.heap.objs.size 0 [(s.heap.objs.size, tupO (vs ++ ws) 0)] h' F' (fun p hp => ?_) (fun a ha p hp => ?_) (fun _ _ _ => List.mem_append.mpr (.inr (.head _))) (List.mem_append.mpr (.inr (.head _)))
    · rcases List.mem_append.mp hp with hp | hp
      · exact N' p (.tail _ hp)
      · rw [List.mem_singleton.mp hp]; exact N' _ (.head _)
    · rw [List.mem_singleton.mp hp]; exact Nat.ne_of_lt (Heap.lt_size (N a ha).1)
theorem tupleOf_R {l : Addr} {Q : Value → Shared → Prop} (F : Fr h₀ L s.heap m) (N : News h₀ L s.heap news) (hm : (l, lstO vs k) ∈ news) (hz : vs.length ≤ 1000000)
    (h : ∀ D h', Fr h₀ L h' m → News h₀ L h' ((D, tupO vs 0) :: news) → (∀ p ∈ news, @LT.lt Nat _ p.1 D) → Q (.ref D) { s with heap := h' }) : wpAny (model prog w) A (call (.type "tuple") [.ref l]) Q E s := by
  refine call_tuple_list (isL N hm) (fun h' hk => ?_) (by simp only [List.size_toArray, sizeLine_eq]; omega)
  have F' : Fr h₀ L h' m := F.keeps hk
  have N' : News h₀ L h' news := fun p hp => ⟨hk _ _ (N p hp).1, (N p hp).2⟩
  exact h _ _ (F'.push _) (N'.push F' _) fun p hp => Heap.lt_size (N' p hp).1
end
section
variable {prog : Program} {w : World} {A : Around} {E : Value → Shared → Prop} {s : Shared} {h₀ : Heap} {L : Addr} {m : Str → Option Value} {env : Env} {elt iter : PySem.Expr} {x : Str} {px : Pos} {scope : Scope} {cl : List (Str × Addr)} {pos : Pos} {Q : Value → Shared → Prop}
def MSrcL (prog : Program) (w : World) (A : Around) (h₀ : Heap) (L : Addr) (m : Str → Option Value) (env : Env) (elt : PySem.Expr) (x : Str) (scope : Scope) (cl : List (Str × Addr)) (Q : Value → Shared → Prop) (xv : Value) (s₁ : Shared) : Prop :=
  ∃ ax vs k nw, xv = .ref ax ∧ A.handled = none ∧ Fr h₀ L s₁.heap m ∧ News h₀ L s₁.heap nw ∧ (ax, lstO vs k) ∈ nw ∧ vs.length ≤ 1000000 ∧
    ∀ g, LCg.CompRest prog w A h₀ L m env elt x scope cl { s₁ with heap := g } (LCg.SrcAt h₀ ax vs.toArray) (fun i v => vs.toArray[i]? = some v) (LCg.FinE h₀ L m { s₁ with heap := g } Q) vs.toArray.size 0 [] nw
def MSrcT (prog : Program) (w : World) (A : Around) (h₀ : Heap) (L : Addr) (m : Str → Option Value) (env : Env) (elt : PySem.Expr) (x : Str) (scope : Scope) (cl : List (Str × Addr)) (Q : Value → Shared → Prop) (xv : Value) (s₁ : Shared) : Prop :=
  ∃ ax vs k nw, xv = .ref ax ∧ A.handled = none ∧ Fr h₀ L s₁.heap m ∧ News h₀ L s₁.heap nw ∧ (ax, tupO vs k) ∈ nw ∧ vs.length ≤ 1000000 ∧
    ∀ g, LCg.CompRest prog w A h₀ L m env elt x scope cl { s₁ with heap := g } (fun nw => (ax, tupO vs k) ∈ nw) (fun i v => vs.toArray[i]? = some v) (LCg.FinE h₀ L m { s₁ with heap := g } Q) vs.toArray.size 0 [] nw
theorem tup_st {ax I : Addr} {vs : List Value} {k : Nat} : ∀ i (h h' : Heap) (o : Obj) (nw : Led), (h.IsTupleIter I ax i ∧ h.IsTuple ax vs.toArray) → h.get? I = some o → h'.get? I = some o → (∀ b o, h₀.get? b = some o → h'.get? b = some o) → News h₀ L h' nw → (ax, tupO vs k) ∈ nw → (h'.IsTupleIter I ax i ∧ h'.IsTuple ax vs.toArray) :=
  fun i h h' o nw st e e' _ N hm => ⟨by obtain ⟨o', q, r⟩ := st.1; rw [e] at q; cases q; exact ⟨o, e', r⟩, ⟨_, (N _ hm).1, rfl, _, rfl⟩⟩
theorem ListComp_T (F₀ : Fr h₀ L s.heap m)
    (hclos : closureFor scope env = pure cl) (hcell : ∀ y ∈ scope.names, y.2 ≠ .cell) (hkind : scope.kind = .function)
    (hnames : ∀ y ∈ scope.names, y.2 = .local → scope.names.lookup y.1 = some .local) (hx : scope.names.lookup x = some .local)
    (h : wpAny (model prog w) A (eval iter env) (MSrcT prog w A h₀ L m env elt x scope cl Q) E s)
    (hs : ∀ x, foldedSetIterable iter env x = pure x := by intro _; rfl) :
    wpAny (model prog w) A (eval (.ListComp elt [⟨.Name x px, iter, [], 0⟩] scope pos) env) Q E s := by
  rw [eval_ListComp]
  refine wpAny_comprehension_free (use := none) rfl hs hclos hkind hnames (wpAny_mono h (fun xv s₁ h₁ => ?_) fun _ _ e => e)
  obtain ⟨ax, vs, k, nw, rfl, hh, F, N, hm, hsz, R⟩ := h₁
  have hl := isTuple N hm
  have hlt : ax < s₁.heap.objs.size := Heap.lt_size (N _ hm).1
  refine wpAny_pyIter_tuple hl ?_
  have up : ∀ b o, s₁.heap.get? b = some o → (s₁.heap.push { cls := .type "tuple_iterator", data := .fields #[.ref ax, .int 0 0] }).get? b = some o := fun b o e => Heap.get?_push_of_some _ e
  refine LCg.block_U (Walks.tuple hh s₁.heap.objs.size ax (Nat.ne_of_lt hlt) vs.toArray) (by rw [List.size_toArray, sizeLine_eq]; omega) (fun i h st => by obtain ⟨o, e, _⟩ := st.1; exact ⟨o, e⟩) tup_st hcell hkind hx ⟨⟨_, Heap.get?_push_size _ rfl, rfl, rfl⟩, hl.at fun o e => up _ o e⟩ (fun b hb => ?_)
    (F.keeps up) (N.grown up) (Nat.ne_of_lt F.ns.lt) (next_is_new F) (fun p hp => Nat.ne_of_lt (Heap.lt_size (N p hp).1)) hm (R _) ?_
  · show b < (s₁.heap.push _).objs.size
    rw [Heap.size_push]
    rcases List.mem_cons.mp hb with rfl | hb
    · exact Nat.lt_succ_self _
    · rw [List.mem_singleton.mp hb]; exact Nat.lt_succ_of_lt hlt
  · intro D C h tk m' ys news' F' N' o1 hn hC₀ hD₀ hCL hDL hCD offC fin
    refine ⟨m', hn, fun h'' hs'' => fin D h'' tk (F'.change hs'' hCL hC₀) (fun p hp => ?_) o1⟩
    refine ⟨hs''.extBut _ _ ?_ (N' p hp).1, (N' p hp).2⟩
    rcases List.mem_cons.mp hp with rfl | hp
    · exact Ne.symm hCD
    · exact offC p hp
theorem ListComp_L (F₀ : Fr h₀ L s.heap m)
    (hclos : closureFor scope env = pure cl) (hcell : ∀ y ∈ scope.names, y.2 ≠ .cell) (hkind : scope.kind = .function)
    (hnames : ∀ y ∈ scope.names, y.2 = .local → scope.names.lookup y.1 = some .local) (hx : scope.names.lookup x = some .local)
    (h : wpAny (model prog w) A (eval iter env) (MSrcL prog w A h₀ L m env elt x scope cl Q) E s)
    (hs : ∀ x, foldedSetIterable iter env x = pure x := by intro _; rfl) :
    wpAny (model prog w) A (eval (.ListComp elt [⟨.Name x px, iter, [], 0⟩] scope pos) env) Q E s :=
  LCg.ListComp_U F₀ hclos hcell hkind hnames hx (wpAny_mono h (fun xv s₁ h₁ => by
    obtain ⟨ax, vs, k, nw, rfl, hh, F, N, hm, hsz, R⟩ := h₁
    exact LCg.CompSrc.ledger hh F N hm (by rw [List.size_toArray, sizeLine_eq]; omega) R) fun _ _ e => e) hs
/-- a comprehension's turn ends: what it made is apart from what stood -/
def CtEnd (h₀ : Heap) (L : Addr) (m : Str → Option Value) (s₁ : Shared) (I : Addr) (oI : Obj) (C : Addr) (oC : Obj) (D : Addr) (oD : Obj) (nx : Led) (r : Value → Led → Prop) (y : Value) (s₂ : Shared) : Prop :=
  ∃ h' tk t, s₂ = { s₁ with heap := h', toks := tk } ∧ Fr h₀ L h' m ∧ News h₀ L h' ((I, oI) :: (C, oC) :: (D, oD) :: (nx ++ t)) ∧ Up ((I, oI) :: (C, oC) :: (D, oD) :: nx) t ∧ r y (nx ++ t)
theorem ctEnd {I C D : Addr} {oI oC oD : Obj} {nx t l : Led} {r : Value → Led → Prop} {y : Value} {s₁ : Shared} {h' : Heap} {tk : Nat} (F : Fr h₀ L h' m) (N : News h₀ L h' l) (S : Spl l ((I, oI) :: (C, oC) :: (D, oD) :: nx) t) (U : Up ((I, oI) :: (C, oC) :: (D, oD) :: nx) t) (hr : r y (nx ++ t)) :
    CtEnd h₀ L m s₁ I oI C oC D oD nx r y { s₁ with heap := h', toks := tk } := ⟨h', tk, t, rfl, F, newsSpl N S, U, hr⟩
theorem Spl.baseC3 {c d e : Addr × Obj} {news : Led} : Spl (c :: d :: e :: news) (c :: d :: e :: news) [] := Spl.base
theorem Spl.app1C3 {c d e : Addr × Obj} {news t1 : Led} : Spl (c :: d :: e :: (news ++ t1)) (c :: d :: e :: news) t1 := ⟨fun _ hp => hp⟩
theorem comp_fold {δ ε : Type} {R : Led → Value → δ → Prop} {R' : Led → Value → ε → Prop} (f : δ → ε) (hR : ∀ n n' v d, R n v d → (∀ p ∈ n, p ∈ n') → R n' v d) (hR' : ∀ n n' v d, R' n v d → (∀ p ∈ n, p ∈ n') → R' n' v d)
    {S : Led → Prop} {P : Nat → Value → Prop} {Fin : List Value → Led → Prop} {n₀ : Led} (keepS : ∀ t, S (n₀ ++ t))
    (turn : ∀ v d I oI C oC D oD m₂ nx h tk E', R nx v d → (∀ p ∈ n₀, p ∈ nx) → LCg.NsObj oC m₂ → m₂ x = some v → Fr h₀ L h m → News h₀ L h ((I, oI) :: (C, oC) :: (D, oD) :: nx) → (∀ p ∈ nx, p.1 ≠ I) → (∀ p ∈ nx, p.1 ≠ C) → (∀ p ∈ nx, p.1 ≠ D) → @Ne Nat I C → @Ne Nat I D → @Ne Nat C D →
      wpAny (model prog w) A (eval elt (compEnvC scope cl C env)) (CtEnd h₀ L m { s with heap := h, toks := tk } I oI C oC D oD nx (fun y n' => R' n' y (f d))) E' { s with heap := h, toks := tk }) :
    ∀ (ds : List δ) (vs ys : List Value) (es : List ε) (t : Led) (i : Nat), (∀ j v, P (i + j) v → vs[j]? = some v) → All2 (R (n₀ ++ t)) vs ds → All2 (R' (n₀ ++ t)) ys es → Up n₀ t →
      (∀ ys t, All2 (R' (n₀ ++ t)) ys (es ++ ds.map f) → Up n₀ t → Fin ys (n₀ ++ t)) →
      LCg.CompRest prog w A h₀ L m env elt x scope cl s S P Fin vs.length i ys (n₀ ++ t) := by
  intro ds
  induction ds with
  | nil =>
    intro vs ys es t i _ ha hy U fin
    obtain rfl := ha.nil_inv
    exact LCg.CompRest.zero (fin ys t (by simpa using hy) U)
  | cons d ds ih =>
    intro vs ys es t i hP ha hy U fin
    obtain ⟨v, us, rfl, hv, hu⟩ := All2.cons_inv ha
    refine LCg.CompRest.succ ?_
    intro v' I oI C oC D m₂ h tk E' hPv hC hx F N off ne
    have e : v = v' := by have := hP 0 v' hPv; simpa using this
    subst e
    have o3 := off.mem
    refine wpAny_mono (turn v d I oI C oC D _ m₂ _ h tk E' hv (fun p hp => List.mem_append.mpr (.inl hp)) hC hx F N (fun p hp => (o3 p hp).1) (fun p hp => (o3 p hp).2.1) (fun p hp => (o3 p hp).2.2) ne.1 ne.2.1 ne.2.2) (fun y s₂ hq => ?_) fun _ _ e => e
    obtain ⟨h', tk', t', e, F', N', U', hr⟩ := hq
    have o4 : ∀ p ∈ (n₀ ++ t) ++ t', p.1 ≠ I ∧ p.1 ≠ C ∧ p.1 ≠ D := fun p hp => (List.mem_append.mp hp).elim (o3 p) fun hp => ⟨Ne.symm (U' (I, oI) (.head _) p hp), Ne.symm (U' (C, oC) (.tail _ (.head _)) p hp), Ne.symm (U' (D, LCg.lst ys) (.tail _ (.tail _ (.head _))) p hp)⟩
    refine ⟨h', tk', (n₀ ++ t) ++ t', e, F', N', LCg.Off3.of o4, by rw [List.append_assoc]; exact keepS _, ?_⟩
    have sub : ∀ p ∈ n₀ ++ t, p ∈ n₀ ++ (t ++ t') := fun p hp => by rw [← List.append_assoc]; exact List.mem_append.mpr (.inl hp)
    have := ih us (ys ++ [y]) (es ++ [f d]) (t ++ t') (i + 1) (fun j w hw => by have := hP (j + 1) w (by rw [show i + (j + 1) = i + 1 + j by omega]; exact hw); simpa using this) (hu.imp fun v d h => hR _ _ v d h sub)
      ((hy.imp fun v d h => hR' _ _ v d h sub).append (All2.one (by rw [← List.append_assoc]; exact hr))) (Up.app U fun q hq p hp => U' q (.tail _ (.tail _ (.tail _ (List.mem_append.mpr (.inl hq))))) p hp) (fun ys t h U => fin ys t (by simpa using h) U)
    rw [List.append_assoc]
    exact this
end
section
variable {prog : Program} {w : World} {A : Around} {E : Value → Shared → Prop} {s : Shared} {h₀ : Heap} {L : Addr} {m : Str → Option Value} {env : Env} {elt iter : PySem.Expr} {x : Str} {px : Pos} {scope : Scope} {cl : List (Str × Addr)} {pos : Pos} {Q : Value → Shared → Prop}
theorem comp_map {δ ε : Type} {R : Led → Value → δ → Prop} {R' : Led → Value → ε → Prop} (f : δ → ε) (hR : ∀ n n' v d, R n v d → (∀ p ∈ n, p ∈ n') → R n' v d) (hR' : ∀ n n' v d, R' n v d → (∀ p ∈ n, p ∈ n') → R' n' v d)
    {S : Led → Prop} {Fin : List Value → Led → Prop} {n₀ : Led} {ds : List δ} {vs : List Value} (ha : All2 (R n₀) vs ds) (keepS : ∀ t, S (n₀ ++ t))
    (turn : ∀ v d I oI C oC D oD m₂ nx h tk E', R nx v d → (∀ p ∈ n₀, p ∈ nx) → LCg.NsObj oC m₂ → m₂ x = some v → Fr h₀ L h m → News h₀ L h ((I, oI) :: (C, oC) :: (D, oD) :: nx) → (∀ p ∈ nx, p.1 ≠ I) → (∀ p ∈ nx, p.1 ≠ C) → (∀ p ∈ nx, p.1 ≠ D) → @Ne Nat I C → @Ne Nat I D → @Ne Nat C D →
      wpAny (model prog w) A (eval elt (compEnvC scope cl C env)) (CtEnd h₀ L m { s with heap := h, toks := tk } I oI C oC D oD nx (fun y n' => R' n' y (f d))) E' { s with heap := h, toks := tk })
    (fin : ∀ ys t, All2 (R' (n₀ ++ t)) ys (ds.map f) → Up n₀ t → Fin ys (n₀ ++ t)) :
    LCg.CompRest prog w A h₀ L m env elt x scope cl s S (fun i v => vs.toArray[i]? = some v) Fin vs.toArray.size 0 [] n₀ := by
  have := comp_fold (P := fun i v => vs.toArray[i]? = some v) (Fin := Fin) f hR hR' keepS turn ds vs [] [] [] 0 (fun j v h => by simpa using h) (by rw [List.append_nil]; exact ha) trivial Up.nil fin
  rw [List.append_nil] at this
  exact this
theorem off1 {D : Addr} {l : Led} (h : LCg.Off1 D l) : ∀ p ∈ l, @Ne Nat p.1 D := by
  induction l with
  | nil => exact fun _ h => nomatch h
  | cons c l ih => intro p hp; exact (List.mem_cons.mp hp).elim (fun e => e ▸ h.1) (ih h.2 p)
end
local macro_rules | `(tactic| walk_at "S spl") => `(tactic| first
  | exact Spl.baseC3
  | exact Spl.app1C3
  | fail "S spl")
local macro_rules | `(tactic| walk_at "S up") => `(tactic| first | ((with_reducible refine' Up.consN ?h ?s ?k); (case h => with_reducible assumption); (case s => walk_at "S sub"); (case k => walk_at "S up")) | fail "S up")
local macro_rules | `(tactic| walk_at "S memf") => `(tactic| first | walk_at "S mem" | ((with_reducible refine' AddAt.use ?h ?a ?b ?c); (case h => with_reducible assumption); (case a => walk_at "S memf"); (case b => walk_at "S memf"); (case c => walk_at "S sub")) | ((refine' kd_use ?h ?s); (case h => with_reducible assumption); (case s => walk_at "S sub")) | fail "S memf")
theorem reg_P09_comp_0 : True := by
  k_with "M:FinE" => iterate 777 (((unfold LCg.FinE); intro z9D' z9h' z9tk' z9F' z9N' z9o1'; (replace z9o1' := off1 z9o1'); (try simp only [List.nil_append, List.cons_append, List.append_assoc] at z9N'); (try dsimp only)))
  k_with "M:FinA" => iterate 777 (((unfold LCg.FinA); intro z9D' z9h' z9tk' z9F' z9N' z9o1'; (replace z9o1' := off1 z9o1'); (try simp only [List.nil_append, List.cons_append, List.append_assoc] at z9N'); (try dsimp only)))
  k_with "M:S cend" => iterate 777 ((refine' ctEnd ?z9e1 ?z9e2 ?z9e3 ?z9e4 ?z9e5; (case z9e1 => k_asm); (case z9e2 => assumption); (case z9e3 => walk_at "S spl"); (case z9e4 => walk_at "S up"); (try simp only [List.nil_append, List.cons_append, List.append_assoc])))
  k_with "M:exec Assign cons ListComp" => iterate 777 ((k_here; k_dflt (refine' LCg.Assign_ListComp_U ?z9a1 ?z9a2 ?z9a3 ?z9a4 ?z9a5 ?z9a6 ?z9a7 ?z9a8 ?z9a9 ?z9a10 ?_ ?z9a11; (case z9a1 => k_asm); (case z9a2 => rfl); (case z9a3 => with_unfolding_all rfl); (case z9a4 => with_unfolding_all rfl); (case z9a5 => decide); (case z9a6 => rfl); (case z9a7 => decide); (case z9a8 => rfl); (case z9a9 => rfl); (case z9a10 => rfl); (case z9a11 => (intro _; rfl)))))
  k_with "M:CompSrc" => iterate 777 ((k_here; k_dflt (refine' LCg.CompSrc.ledger ?z9a1 ?z9a2 ?z9a3 ?z9a4 ?z9a5 ?_; (case z9a1 => rfl); (case z9a2 => k_asm); (case z9a3 => k_asm); (case z9a4 => k_mem); (case z9a5 => (simp only [List.size_toArray]; walk_at "S size")); intro z9g')))
  k_with "M:eval ListComp" => iterate 777 ((k_here; k_dflt (refine' ListComp_T ?z9a1 ?z9a4 ?z9a5 ?z9a6 ?z9a7 ?z9a8 ?_ ?z9a11; (case z9a1 => k_asm); (case z9a4 => with_unfolding_all rfl); (case z9a5 => decide); (case z9a6 => rfl); (case z9a7 => decide); (case z9a8 => rfl); (case z9a11 => (intro _; rfl)))))
  k_with "M:MSrcT" => iterate 777 ((k_here; k_dflt (refine' ⟨_, _, _, _, rfl, ?z9a1, ?z9a2, ?z9a3, ?z9a4, ?z9a5, ?_⟩; (case z9a1 => rfl); (case z9a2 => k_asm); (case z9a3 => k_asm); (case z9a4 => k_mem); (case z9a5 => walk_at "S size"); intro z9g')))
  k_with "M:call type:tuple" => iterate 777 ((k_here; (with_reducible show wpAny _ _ (call (Value.type _) [Value.ref _]) _ _ _); k_dflt (refine' tupleOf_R ?z9a ?z9b ?z9c ?z9d ?_; (case z9a => k_asm); (case z9b => k_asm); (case z9c => k_mem); (case z9d => walk_at "S size"); walk_at "S new")))
  k_with "M:S newt" => iterate 777 ((intro z9D' z9k' z9t' z9h' z9F' z9N' z9up' z9ha' z9hm'; (try simp only [List.nil_append, List.cons_append, List.append_assoc] at z9N' z9hm'); (try k_sweep); (try dsimp only)))
  trivial

-- 10_box
def PBox (w : World) (n₀ : Led) (a b c d : Dec) (r : Value) (n : Led) : Prop := ∃ (q : Addr) (va vb vc vd : Value) (k : Nat), r = .ref q ∧ (q, tupO [va, vb, vc, vd] k) ∈ n ∧ DecIn w n₀ va a ∧ DecIn w n₀ vb b ∧ DecIn w n₀ vc c ∧ DecIn w n₀ vd d
theorem reg_P10_box_0 : True := by
  k_with "M:S spec" => iterate 777 (first
  | ((with_reducible show Spec _ _ 187 _ _ _); refine' least_spec ?z9a ?z9b ?z9c ?z9d ?z9e ?z9f ?z9g; (case z9a => k_mem); (case z9c => with_reducible assumption); (case z9d => with_reducible assumption); (case z9b => walk_at "S sub"); (case z9e => with_reducible assumption); (case z9f => with_reducible assumption); (case z9g => walk_at "S size"))
  | ((with_reducible show Spec _ _ 194 _ _ _); refine' greatest_spec ?z9a ?z9b ?z9c ?z9d ?z9e ?z9f ?z9g; (case z9a => k_mem); (case z9c => with_reducible assumption); (case z9d => with_reducible assumption); (case z9b => walk_at "S sub"); (case z9e => with_reducible assumption); (case z9f => with_reducible assumption); (case z9g => walk_at "S size")))
  trivial
theorem box_spec {w : World} {news n₀ : Led} {l : Addr} {vs : List Value} {k : Nat} {p : Dec × Dec} {ps : List (Dec × Dec)} (hm : (l, lstO vs k) ∈ news) (hs : ∀ p ∈ n₀, p ∈ news) (ha : All2 (PairIn w n₀) vs (p :: ps)) (B1 : ∀ e ∈ p :: ps, BdM e.1 ∧ BdM e.2) (hz : ps.length ≤ 20000) :
    Spec w 30 281 [.ref l] news (PBox w n₀ (leastD p.1 (ps.map Prod.fst)) (leastD p.2 (ps.map Prod.snd)) (greatD p.1 (ps.map Prod.fst)) (greatD p.2 (ps.map Prod.snd))) := by
  refine ⟨?_⟩
  intro prog p' loose mean mg mb dp un gd cn cs aa ccd cl outer A₀ base h₀ L m s Q E B F X N T hk hdp hun hret
  have hvz : vs.length = ps.length + 1 := ha.length
  have hb1 : BdM p.1 := (B1 p (.head _)).1
  have hb2 : BdM p.2 := (B1 p (.head _)).2
  have hb3 : ∀ e ∈ ps.map Prod.fst, BdM e := fun e he => by obtain ⟨q, hq, rfl⟩ := List.mem_map.mp he; exact (B1 q (.tail _ hq)).1
  have hb4 : ∀ e ∈ ps.map Prod.snd, BdM e := fun e he => by obtain ⟨q, hq, rfl⟩ := List.mem_map.mp he; exact (B1 q (.tail _ hq)).2
  refine wpAny_call ?_
  k_dflt ktr_enter
  k_steps
  refine comp_map (R := fun _ v d => PairIn w n₀ v d) (R' := fun _ v d => DecIn w n₀ v d) Prod.fst (fun _ _ _ _ h _ => h) (fun _ _ _ _ h _ => h) ha (fun t => ?_) ?_ ?_
  · exact Or.inr ⟨_, List.mem_append.mpr (.inl hm), rfl, _, rfl⟩
  · intro v d I oI C oC D oD m₂ nx h tk E' hv hs' hC hx F N o1 o2 o3 i1 i2 i3
    obtain ⟨q, a, b, k, rfl, mm, ha', hb'⟩ := hv
    have hss : ∀ p ∈ n₀, p ∈ nx := fun p hp => hs' p (hs p hp)
    k_steps
    walk_at "S cend"
    exact ha'
  intro ys t hy up
  obtain ⟨y, us, rfl, hy1, hy2⟩ := All2.cons_inv hy
  replace hy1 : DecIn w n₀ y p.1 := hy1
  replace hy2 : All2 (DecIn w n₀) us (ps.map Prod.fst) := hy2
  have hyz : us.length = ps.length := hy2.length.trans (List.length_map _)
  k_steps
  refine comp_map (R := fun _ v d => PairIn w n₀ v d) (R' := fun _ v d => DecIn w n₀ v d) Prod.snd (fun _ _ _ _ h _ => h) (fun _ _ _ _ h _ => h) ha (fun t => ?_) ?_ ?_
  · exact Or.inr ⟨_, List.mem_append.mpr (.inl (.tail _ (List.mem_append.mpr (.inl hm)))), rfl, _, rfl⟩
  · intro v d I oI C oC D oD m₂ nx h tk E' hv hs' hC hx F N o1 o2 o3 i1 i2 i3
    obtain ⟨q, a, b, k, rfl, mm, ha', hb'⟩ := hv
    have hss : ∀ p ∈ n₀, p ∈ nx := fun p hp => hs' p (.tail _ (List.mem_append.mpr (.inl (hs p hp))))
    k_steps
    walk_at "S cend"
    exact hb'
  intro ys2 t2 hz2 up2
  obtain ⟨y2, us2, rfl, hz1, hz2⟩ := All2.cons_inv hz2
  replace hz1 : DecIn w n₀ y2 p.2 := hz1
  replace hz2 : All2 (DecIn w n₀) us2 (ps.map Prod.snd) := hz2
  have hzz : us2.length = ps.length := hz2.length.trans (List.length_map _)
  k_steps
  walk_at "S end"
  exact ⟨_, _, _, _, _, _, rfl, by k_mem, by assumption, by assumption, by assumption, by assumption⟩

-- 11_path
section
variable {δ : Type}
def TupIn (R : Led → Value → δ → Prop) (n : Led) (v : Value) (ds : List δ) : Prop := ∃ (q : Addr) (k : Nat) (vs : List Value), v = .ref q ∧ (q, tupO vs k) ∈ n ∧ All2 (R n) vs ds
def SegIn (R : Led → Value → δ → Prop) (n : Led) (v : Value) (d : Str × List δ) : Prop := ∃ (q : Addr) (k : Nat) (t : Tok) (vs : List Value), v = .ref q ∧ (q, tupO (.str d.1 t :: vs) k) ∈ n ∧ All2 (R n) vs d.2
def MonoR (R : Led → Value → δ → Prop) : Prop := ∀ n n' v d, R n v d → (∀ p ∈ n, p ∈ n') → R n' v d
theorem TupIn.mono {R : Led → Value → δ → Prop} (hR : MonoR R) : MonoR (TupIn R) := by
  rintro n n' v ds ⟨q, k, vs, e, hm, ha⟩ hs
  exact ⟨q, k, vs, e, hs _ hm, ha.imp fun v d h => hR _ _ v d h hs⟩
theorem SegIn.mono {R : Led → Value → δ → Prop} (hR : MonoR R) : MonoR (SegIn R) := by
  rintro n n' v ds ⟨q, k, t, vs, e, hm, ha⟩ hs
  exact ⟨q, k, t, vs, e, hs _ hm, ha.imp fun v d h => hR _ _ v d h hs⟩
end
abbrev SegD (π : Type) := Str × List π
abbrev PartD (π : Type) := List (SegD π)
abbrev PathD (π : Type) := List (PartD π)
section
variable {π : Type} (w : World) (R : Led → Value → π → Prop)
def PartIn : Led → Value → PartD π → Prop := TupIn (SegIn R)
def PartsIn : Led → Value → PathD π → Prop := TupIn (PartIn R)
def PathIn (n : Led) (v : Value) (d : PathD π) : Prop := ∃ (x dx : Addr) (kt : Tok) (pv : Value) (k : Nat), v = .ref x ∧ (x, instObj 300 dx) ∈ n ∧ (dx, dictOf [ent w "parts" kt pv] k) ∈ n ∧ PartsIn R n pv d
inductive PathR (n : Led) (v : Value) (d : PathD π) : Prop
  | mk (x dx : Addr) (kt : Tok) (pv : Value) (k : Nat) (e : v = .ref x) (a : (x, instObj 300 dx) ∈ n) (b : (dx, dictOf [ent w "parts" kt pv] k) ∈ n) (h : PartsIn R n pv d)
variable {w R}
theorem PathIn.out {n : Led} {v : Value} {d : PathD π} (h : PathIn w R n v d) : PathR w R n v d := by
  obtain ⟨x, dx, kt, pv, k, e, a, b, h⟩ := h
  exact ⟨x, dx, kt, pv, k, e, a, b, h⟩
theorem PartIn.mono (hR : MonoR R) : MonoR (PartIn R) := TupIn.mono (SegIn.mono hR)
theorem PartsIn.mono (hR : MonoR R) : MonoR (PartsIn R) := TupIn.mono (PartIn.mono hR)
theorem PathIn.mono (hR : MonoR R) : MonoR (PathIn w R) := by
  rintro n n' v d ⟨x, dx, kt, pv, k, e, a, b, h⟩ hs
  exact ⟨x, dx, kt, pv, k, e, hs _ a, hs _ b, PartsIn.mono hR _ _ _ _ h hs⟩
end
theorem pairMono {w : World} : MonoR (PairIn w) := fun _ _ _ _ h => h.mono
abbrev Pt := Dec × Dec
def PPairW (w : World) (n₀ : Led) (p : Pt) (r : Value) (n : Led) : Prop := ∃ (q : Addr) (a b : Value) (k : Nat), r = .ref q ∧ (q, tupO [a, b] k) ∈ n ∧ DecIn w (n₀ ++ n) a p.1 ∧ DecIn w (n₀ ++ n) b p.2
theorem PPairW.pair {w : World} {n₀ n l : Led} {p : Pt} {r : Value} (h : PPairW w n₀ p r n) (s1 : ∀ p ∈ n₀, p ∈ l) (s2 : ∀ p ∈ n, p ∈ l) : PairIn w l r p := by
  obtain ⟨q, a, b, k, e, hm, h1, h2⟩ := h
  exact ⟨q, a, b, k, e, s2 _ hm, h1.mono (sub_appL s1 s2), h2.mono (sub_appL s1 s2)⟩
theorem pair_spec {w : World} {news n1 : Led} {v1 v2 : Value} {a b : Dec} (h1 : NumIn w n1 v1 a) (h2 : NumIn w n1 v2 b) (s1 : ∀ p ∈ n1, p ∈ news) : Spec w 10 311 [v1, v2] news (PPairW w n1 (a, b)) := by
  refine ⟨?_⟩
  intro prog p loose mean mg mb dp un gd cn cs aa ccd cl outer A₀ base h₀ L m s Q E B F X N T hk hdp hun hret
  refine wpAny_call ?_
  k_dflt ktr_enter
  k_steps
  walk_at "S end"
  exact ⟨_, _, _, _, rfl, by k_mem, by walk_at "S dec", by walk_at "S dec"⟩
theorem reg_P11_path_0 : True := by
  k_with "M:S spec" => iterate 777 (first | ((with_reducible show Spec _ _ 311 _ _ _); refine' pair_spec ?z9a ?z9b ?z9c; (case z9a => walk_at "S num0"); (case z9b => walk_at "S num0"); (case z9c => walk_at "S sub")) | fail "S spec")
  k_with "M:S post" => iterate 777 (((with_reducible rename PPairW _ _ _ _ _ => z9hP); (have z9hQ := z9hP); (obtain ⟨_, _, _, _, z9hE, z9hM, z9hA, z9hB⟩ := z9hP); subst z9hE; (have z9hA2 := z9hA); (have z9hB2 := z9hB); (obtain ⟨_, _, _, _, _, _, _, z9hE, _, _⟩ := DecIn.out z9hA2; clear z9hA2); subst z9hE; (obtain ⟨_, _, _, _, _, _, _, z9hE, _, _⟩ := DecIn.out z9hB2; clear z9hB2); subst z9hE))
  k_with "M:S pair" => iterate 777 (first
  | (refine' PPairW.pair ?z9a ?z9b ?z9c; (case z9a => with_reducible assumption); (case z9b => walk_at "S sub"); (case z9c => walk_at "S sub"))
  | fail "S pair")
  trivial
def PPathN (w : World) (pv : Value) (r : Value) (n : Led) : Prop := ∃ (x dx : Addr) (kt : Tok) (k : Nat), r = .ref x ∧ (x, instObj 300 dx) ∈ n ∧ (dx, dictOf [ent w "parts" kt pv] k) ∈ n
theorem path_new {w : World} {news : Led} {q : Addr} : Spec w 6 300 [.ref q] news (PPathN w (.ref q)) := by
  refine ⟨?_⟩
  intro prog p loose mean mg mb dp un gd cn cs aa ccd cl outer A₀ base h₀ L m s Q E B F X N T hk hdp hun hret
  walk1
  k_steps
  walk_at "S end"
  exact ⟨_, _, _, _, rfl, by k_mem, by k_mem⟩
theorem reg_P11_path_1 : True := by
  k_with "M:S spec" => iterate 777 (((with_reducible show Spec _ _ 300 _ _ _); exact path_new))
  k_with "M:S post" => iterate 777 (((with_reducible rename PPathN _ _ _ _ => z9hP); (have z9hQ := z9hP); (obtain ⟨_, _, _, _, z9hE, z9hM, z9hM2⟩ := z9hP); subst z9hE))
  trivial
abbrev sClose : Str := Str.ofString "close"
abbrev sMove : Str := Str.ofString "move"
def PBool (b : Bool) (r : Value) (_ : Led) : Prop := r = .bool b
theorem reg_P11_path_2 : True := by
  k_with "M:S post" => iterate 777 (((with_reducible rename PBool _ _ _ => z9hP); (have z9hE := z9hP); (replace z9hE : _ = Value.bool _ := z9hE); subst z9hE))
  trivial
theorem reg_P11_path_3 : True := by
  k_with "M:S get" => iterate 777 (first | with_reducible exact List.getLast?_concat | exact List.getElem?_cons_zero | exact (List.getElem?_cons_succ (i := 0)).trans List.getElem?_cons_zero | (simp only [List.getElem?_cons_zero, List.getElem?_cons_succ, List.getLast?_concat, List.getLast?_append_cons, List.getLast?_singleton, List.getLast?_append, Option.some_or]; first | done | rfl) | fail "S get")
  trivial
section
variable {δ : Type} {P : Value → δ → Prop} {d : δ}
theorem All2.get : ∀ {vs : List Value} {ds : List δ} {i : Nat}, All2 P vs ds → ds[i]? = some d → ∃ v, vs[i]? = some v ∧ P v d
  | v :: vs, e :: ds, 0, h, e' => ⟨v, rfl, by have e' : e = d := Option.some.inj e'; exact e' ▸ h.1⟩
  | v :: vs, e :: ds, i + 1, h, e' => All2.get (vs := vs) (ds := ds) (i := i) h.2 e'
  | [], [], i, h, e' => by simp at e'
  | [], _ :: _, _, h, _ => h.elim
  | _ :: _, [], _, h, _ => h.elim
theorem All2.last {vs : List Value} {ds : List δ} (h : All2 P vs ds) (e : ds.getLast? = some d) : ∃ v, vs.getLast? = some v ∧ P v d := by
  rw [List.getLast?_eq_getElem?] at e
  obtain ⟨v, hv, hp⟩ := h.get e
  exact ⟨v, by rw [List.getLast?_eq_getElem?, h.length]; exact hv, hp⟩
theorem All2.dropLast : ∀ {vs : List Value} {ds : List δ}, All2 P vs ds → All2 P vs.dropLast ds.dropLast
  | [], [], _ => trivial
  | [_], [_], _ => trivial
  | _ :: _ :: _, _ :: _ :: _, x => ⟨x.1, All2.dropLast (vs := _ :: _) (ds := _ :: _) x.2⟩
  | [], _ :: _, x => x.elim
  | _ :: _, [], x => x.elim
  | [_], _ :: _ :: _, x => x.2.elim
  | _ :: _ :: _, [_], x => x.2.elim
end
theorem last_tupD {prog : Program} {w : World} {A : Around} {E : Value → Shared → Prop} {s : Shared} {h₀ : Heap} {L q : Addr} {m : Str → Option Value} {news : Led} {vs : List Value} {k : Nat} {value slice : PySem.Expr} {u : Tok} {Q : Value → Shared → Prop} (F : Fr h₀ L s.heap m) (N : News h₀ L s.heap news) (hm : (q, tupO vs k) ∈ news) (hn : vs ≠ []) (hz : vs.length ≤ 1000000)
    (h : ∀ D h', Fr h₀ L h' m → News h₀ L h' ((D, tupO vs.dropLast 0) :: news) → (∀ p ∈ news, @LT.lt Nat _ p.1 D) → Q (.ref D) { s with heap := h' })
    (hs : subscripted slice false (.ref q) (.ref s.heap.objs.size) = operate [.ref s.heap.objs.size, .ref q] (getItem (.ref q) (.ref s.heap.objs.size)) := by with_unfolding_all rfl)
    (hg : ∀ r, letTemporaryGo value (.ref q) r = pure () := by intro _; with_unfolding_all rfl) :
    wpAny (model prog w) A (subscriptTail value slice (.ref q) (.ref s.heap.objs.size)) Q E { s with heap := s.heap.push { cls := .type "slice", data := .fields #[.none, .int (-1) u, .none] } } := by
  have e : vs = vs.dropLast ++ [vs.getLast hn] := (List.dropLast_concat_getLast hn).symm
  exact last_tupR F N (v := vs.getLast hn) (vs := vs.dropLast) (k := k) (by rw [← e]; exact hm) (by rw [List.length_dropLast]; omega) h hs hg
theorem reg_P11_path_4 : True := by
  k_with "M:S ne" => iterate 777 (first | with_reducible assumption | (refine List.ne_nil_of_length_pos ?_; walk_at "S size") | fail "S ne")
  k_with "M:subscriptTail" => iterate 777 ((k_here; k_dflt (
  (with_reducible show wpAny _ _ (subscriptTail _ (PySem.Expr.Slice none _ none _) (Value.ref _) (Value.ref _)) _ _ _); (refine' last_tupD ?z9a ?z9b ?z9d ?z9f ?z9e ?_ ?z9c ?z9g; (case z9a => k_asm); (case z9b => k_asm); (case z9d => k_mem); (case z9f => walk_at "S ne"); (case z9e => walk_at "S size"); (case z9c => with_unfolding_all rfl); (case z9g => (intro _; with_unfolding_all rfl)); walk_at "S new"))))
  k_with "M:binaryOp Add ref ref" => iterate 777 ((k_here; (with_reducible show wpAny _ _ (binaryOp _ (Value.ref _) (Value.ref _)) _ _ _); k_dflt (refine' add_tupG ?z9a ?z9b ?z9c ?z9d ?z9g ?_; (case z9a => k_asm); (case z9b => k_asm); (case z9c => k_mem); (case z9d => k_mem); (case z9g => walk_at "S size"); walk_at "S newt")))
  trivial
theorem shut_spec {w : World} {news n₀ : Led} {v : Value} {pt : PartD Pt} {sg : SegD Pt} {b : Bool} (h : PartIn (PairIn w) n₀ v pt) (hs : ∀ p ∈ n₀, p ∈ news) (hg : pt.getLast? = some sg) (hb : (sg.1 == sClose) = b) : Spec w 6 318 [v] news (PBool b) := by
  refine ⟨?_⟩
  intro prog p loose mean mg mb dp un gd cn cs aa ccd cl outer A₀ base h₀ L m s Q E B F X N T hk hdp hun hret
  obtain ⟨q, k, vs, rfl, hm, ha⟩ := h
  obtain ⟨v, hx, q1, k1, t1, ws, rfl, hm1, ha1⟩ := ha.last hg
  refine wpAny_call ?_
  k_dflt ktr_enter
  k_steps
  walk_at "S end"
  exact congrArg Value.bool hb
theorem reg_P11_path_5 : True := by
  k_with "M:S spec" => iterate 777 (first | ((with_reducible show Spec _ _ 318 _ _ _); refine' shut_spec ?z9a ?z9b ?z9c ?z9d; (case z9a => with_reducible assumption); (case z9b => walk_at "S sub"); (case z9c => with_reducible assumption); (case z9d => with_reducible assumption)) | fail "S spec")
  trivial

-- 12_draw
def isShutD {π : Type} (pt : PartD π) : Bool := match pt.getLast? with | some sg => sg.1 == sClose | none => false
def firstD {π : Type} (pt : PartD π) : Option π := match pt[0]? with | some sg => sg.2[0]? | none => none
def endD {π : Type} (pt : PartD π) : Option π := match pt.getLast? with | some sg => sg.2.getLast? | none => none
def curD {π : Type} (pt : PartD π) : Option π := if isShutD pt then firstD pt else endD pt
/-- a value in a ledger as a datum -/
def PAt (R : Value → Prop) (r : Value) (_ : Led) : Prop := R r
theorem reg_P12_draw_0 : True := by
  k_with "M:S post" => iterate 777 (((with_reducible rename PAt (fun r => PairIn _ _ r _) _ _ => z9hP); (have z9hQ := z9hP); (obtain ⟨_, _, _, _, z9hE, z9hM, z9hA, z9hB⟩ := z9hP); subst z9hE; (replace z9hQ : PairIn _ _ _ _ := z9hQ)))
  trivial
theorem cur_spec {w : World} {news n₀ : Led} {v : Value} {path : PathD Pt} {pt : PartD Pt} {p : Pt} (h : PathIn w (PairIn w) n₀ v path) (hs : ∀ p ∈ n₀, p ∈ news) (hl : path.getLast? = some pt) (hp : curD pt = some p) (hn : pt ≠ []) : Spec w 10 325 [v] news (PAt fun r => PairIn w n₀ r p) := by
  refine ⟨?_⟩
  intro prog p' loose mean mg mb dp un gd cn cs aa ccd cl outer A₀ base h₀ L m s Q E B F X N T hk hdp hun hret
  obtain ⟨x, dx, kt, pv, k, rfl, m1, m2, q, k', vs, rfl, hm, ha⟩ := PathIn.out h; clear h
  obtain ⟨sg, hg⟩ : ∃ sg, pt.getLast? = some sg := ⟨_, List.getLast?_eq_getLast hn⟩
  obtain ⟨v, hx, hpt⟩ := ha.last hl
  obtain ⟨d0, ds, rfl⟩ : ∃ a b, vs = a :: b := by
    cases vs with
    | nil => simp at hx
    | cons a b => exact ⟨a, b, rfl⟩
  have hpt' := hpt
  obtain ⟨q1, k1, vs1, rfl, hm1, ha1⟩ := hpt
  by_cases hc : (sg.1 == sClose) = true
  · unfold curD isShutD firstD at hp
    simp only [hg, hc, if_true] at hp
    cases h0 : pt[0]? with
    | none => simp [h0] at hp
    | some s0 =>
      simp only [h0] at hp
      obtain ⟨v0, hx0, q2, k2, t2, vs2, rfl, hm2, ha2⟩ := ha1.get h0
      obtain ⟨v3, hx3, hv3⟩ := ha2.get hp
      have hx3' : (Value.str s0.1 t2 :: vs2)[1]? = some v3 := by simpa using hx3
      refine wpAny_call ?_
      k_dflt ktr_enter
      k_steps
      walk_at "S end"
      exact hv3
  · replace hc : (sg.1 == sClose) = false := by simpa using hc
    unfold curD isShutD endD at hp
    simp only [hg, hc, Bool.false_eq_true, if_false] at hp
    obtain ⟨v0, hx0, q2, k2, t2, vs2, rfl, hm2, ha2⟩ := ha1.last hg
    obtain ⟨v3, hx3, hv3⟩ := ha2.last hp
    have hx3' : (Value.str sg.1 t2 :: vs2).getLast? = some v3 := by
      rw [List.getLast?_cons, hx3]; rfl
    refine wpAny_call ?_
    k_dflt ktr_enter
    k_steps
    walk_at "S end"
    exact hv3
def drawnD {π : Type} (path : PathD π) : PathD π := match path.getLast? with | some pt => if pt.length = 1 then path.dropLast else path | none => path
def PPartsW (w : World) (n₀ : Led) (parts : PathD Pt) (r : Value) (n : Led) : Prop := PartsIn (PairIn w) (n₀ ++ n) r parts
theorem reg_P12_draw_1 : True := by
  k_with "M:S spec" => iterate 777 (first | ((with_reducible show Spec _ _ 325 _ _ _); refine' cur_spec ?z9a ?z9b ?z9c ?z9d ?z9e; (case z9a => with_reducible assumption); (case z9b => walk_at "S sub"); (case z9c => with_reducible assumption); (case z9d => with_reducible assumption); (case z9e => with_reducible assumption)) | fail "S spec")
  k_with "M:S post" => iterate 777 (((with_reducible rename PPartsW _ _ _ _ _ => z9hP); (have z9hQ := z9hP); (obtain ⟨_, _, _, z9hE, z9hM, z9hA⟩ := z9hP); (have z9hZ := All2.length z9hA); subst z9hE; (replace z9hQ : PartsIn _ _ _ _ := z9hQ)))
  trivial
theorem drawn_spec {w : World} {news n₀ : Led} {v : Value} {path : PathD Pt} {pt : PartD Pt} (h : PathIn w (PairIn w) n₀ v path) (hs : ∀ p ∈ n₀, p ∈ news) (hl : path.getLast? = some pt) (hz : path.length ≤ 1000) (hz2 : pt.length ≤ 1000) : Spec w 10 332 [v] news (PPartsW w n₀ (drawnD path)) := by
  refine ⟨?_⟩
  intro prog p' loose mean mg mb dp un gd cn cs aa ccd cl outer A₀ base h₀ L m s Q E B F X N T hk hdp hun hret
  obtain ⟨x, dx, kt, pv, k, rfl, m1, m2, q, k', vs, rfl, hm, ha⟩ := PathIn.out h; clear h
  obtain ⟨v, hx, hpt⟩ := ha.last hl
  have hvz := ha.length
  obtain ⟨d0, ds, rfl⟩ : ∃ a b, vs = a :: b := by
    cases vs with
    | nil => simp at hx
    | cons a b => exact ⟨a, b, rfl⟩
  have hvz : ds.length + 1 = path.length := hvz
  have hpt' := hpt
  obtain ⟨q1, k1, vs1, rfl, hm1, ha1⟩ := hpt
  have hvz1 := ha1.length
  refine wpAny_call ?_
  k_dflt ktr_enter
  k_steps
  all_goals
    walk_at "S end"
    unfold PPartsW drawnD
    rw [hl]
    dsimp only
  · rw [if_pos (by omega)]
    exact ⟨_, _, _, rfl, by walk_at "S mem", (All2.dropLast ha).imp fun v d h => PartIn.mono pairMono _ _ _ _ h (by walk_at "S sub")⟩
  · rw [if_neg (by omega)]
    exact ⟨_, _, _, rfl, List.mem_append.mpr (.inl hm), ha.imp fun v d h => PartIn.mono pairMono _ _ _ _ h (by walk_at "S sub")⟩
def PPathW (w : World) (n₀ : Led) (path : PathD Pt) (r : Value) (n : Led) : Prop := PathIn w (PairIn w) (n₀ ++ n) r path
theorem PPathW.path {w : World} {n₀ n l : Led} {path : PathD Pt} {r : Value} (h : PPathW w n₀ path r n) (s : ∀ p ∈ n₀ ++ n, p ∈ l) : PathIn w (PairIn w) l r path := PathIn.mono pairMono _ _ _ _ h s
theorem reg_P12_draw_2 : True := by
  k_with "M:S spec" => iterate 777 (first | ((with_reducible show Spec _ _ 332 _ _ _); refine' drawn_spec ?z9a ?z9b ?z9c ?z9d ?z9e; (case z9a => with_reducible assumption); (case z9b => walk_at "S sub"); (case z9c => with_reducible assumption); (case z9d => with_reducible assumption); (case z9e => with_reducible assumption)) | fail "S spec")
  k_with "M:S post" => iterate 777 (((with_reducible rename PPathW _ _ _ _ _ => z9hP); (have z9hQ := z9hP); (obtain ⟨_, _, _, _, _, z9hE, _⟩ := PathIn.out z9hP; clear z9hP); subst z9hE; (replace z9hQ : PathIn _ (PairIn _) _ _ _ := z9hQ)))
  trivial
/-- how a path stands: not empty, each part not empty, its current point there, its sizes -/
structure PathOk (N : Nat) (path : PathD Pt) : Prop where
  ne : path ≠ []
  len : path.length ≤ N
  part : ∀ pt ∈ path, pt ≠ [] ∧ pt.length ≤ N ∧ (∃ p, curD pt = some p) ∧ (∃ p, firstD pt = some p) ∧ ∀ sg ∈ pt, sg.2.length ≤ 3
theorem PathOk.last {N : Nat} {path : PathD Pt} (h : PathOk N path) : ∃ pt, path.getLast? = some pt ∧ pt ≠ [] ∧ pt.length ≤ N ∧ (∃ p, curD pt = some p) ∧ (∃ p, firstD pt = some p) := by
  refine ⟨_, List.getLast?_eq_getLast h.ne, ?_⟩
  obtain ⟨a, b, c, d, _⟩ := h.part _ (List.getLast_mem h.ne)
  exact ⟨a, b, c, d⟩
def moveD (path : PathD Pt) (p : Pt) : PathD Pt := drawnD path ++ [[(sMove, [p])]]
theorem drawn_len {path : PathD Pt} : (drawnD path).length ≤ path.length := by
  unfold drawnD
  split
  · split
    · rw [List.length_dropLast]; omega
    · omega
  · omega
theorem move_spec {w : World} {news n1 n2 n3 : Led} {v v2 v3 : Value} {path : PathD Pt} {x y : Dec} (h : PathIn w (PairIn w) n1 v path) (s1 : ∀ p ∈ n1, p ∈ news) (h2 : NumIn w n2 v2 x) (s2 : ∀ p ∈ n2, p ∈ news) (h3 : NumIn w n3 v3 y) (s3 : ∀ p ∈ n3, p ∈ news) (ok : PathOk 900 path) :
    Spec w 16 339 [v, v2, v3] news (PPathW w (n1 ++ (n2 ++ n3)) (moveD path (x, y))) := by
  refine ⟨?_⟩
  intro prog p' loose mean mg mb dp un gd cn cs aa ccd cl outer A₀ base h₀ L m s Q E B F X N T hk hdp hun hret
  obtain ⟨pt, hl, hpn, hpz, _, _⟩ := ok.last
  have hz : path.length ≤ 1000 := Nat.le_trans ok.len (by decide)
  have hz2 : pt.length ≤ 1000 := Nat.le_trans hpz (by decide)
  have hd := @drawn_len path
  have hh := h
  obtain ⟨_, _, _, _, _, rfl, _⟩ := PathIn.out h; clear h
  have g2 : NumIn w (n2 ++ n3) v2 x := h2.mono fun p hp => List.mem_append.mpr (.inl hp)
  have g3 : NumIn w (n2 ++ n3) v3 y := h3.mono fun p hp => List.mem_append.mpr (.inr hp)
  clear h2 h3
  refine wpAny_call ?_
  k_dflt ktr_enter
  k_steps
  walk_at "S end"
  refine ⟨_, _, _, _, _, rfl, by walk_at "S memf", by walk_at "S memf", _, _, _, rfl, by walk_at "S memf", ?_⟩
  rename All2 _ _ _ => hA
  refine (hA.imp fun v d h => PartIn.mono pairMono _ _ _ _ h (by walk_at "S sub")).append (All2.one ⟨_, _, _, rfl, by walk_at "S mem", All2.one ⟨_, _, _, _, rfl, by walk_at "S mem", All2.one (by walk_at "S pair")⟩⟩)

-- 13_with
def withD (path : PathD Pt) (sg : SegD Pt) : PathD Pt := match path.getLast? with
  | some pt => if isShutD pt then (match firstD pt with | some p => path ++ [[(sMove, [p]), sg]] | none => path) else path.dropLast ++ [pt ++ [sg]]
  | none => path
theorem isShut_is {pt : PartD Pt} {sg : SegD Pt} {b : Bool} (hg : pt.getLast? = some sg) (h : isShutD pt = b) : (sg.1 == sClose) = b := by
  unfold isShutD at h; rw [hg] at h; exact h
theorem withD_shut {path : PathD Pt} {sg : SegD Pt} {pt : PartD Pt} {p : Pt} (hl : path.getLast? = some pt) (hb : isShutD pt = true) (hp : curD pt = some p) : withD path sg = path ++ [[(sMove, [p]), sg]] := by
  unfold curD at hp
  rw [hb, if_pos rfl] at hp
  simp only [withD, hl, hb, hp, if_true]
theorem withD_open {path : PathD Pt} {sg : SegD Pt} {pt : PartD Pt} (hl : path.getLast? = some pt) (hb : isShutD pt = false) : withD path sg = path.dropLast ++ [pt ++ [sg]] := by
  simp [withD, hl, hb]
theorem with_spec {w : World} {news n1 n2 : Led} {v v2 : Value} {path : PathD Pt} {sg : SegD Pt} (h : PathIn w (PairIn w) n1 v path) (s1 : ∀ p ∈ n1, p ∈ news) (h2 : SegIn (PairIn w) n2 v2 sg) (s2 : ∀ p ∈ n2, p ∈ news) (ok : PathOk 900 path) :
    Spec w 16 346 [v, v2] news (PPathW w (n1 ++ n2) (withD path sg)) := by
  refine ⟨?_⟩
  intro prog p' loose mean mg mb dp un gd cn cs aa ccd cl outer A₀ base h₀ L m s Q E B F X N T hk hdp hun hret
  obtain ⟨pt, hl, hpn, hpz, ⟨p, hp⟩, hp1, hp2⟩ := ok.last
  have hz : path.length ≤ 1000 := Nat.le_trans ok.len (by decide)
  have hz2 : pt.length ≤ 1000 := Nat.le_trans hpz (by decide)
  obtain ⟨lg, hg⟩ : ∃ sg, pt.getLast? = some sg := ⟨_, List.getLast?_eq_getLast hpn⟩
  have hh := h
  have hsg := h2
  obtain ⟨x, dx, kt, pv, k, rfl, m1, m2, q, k', vs, rfl, hm, ha⟩ := PathIn.out h; clear h
  obtain ⟨q3, k3, t3, vs3, rfl, hm3, ha3⟩ := h2
  obtain ⟨v, hx, hpt⟩ := ha.last hl
  have hvz := ha.length
  have hpt' := hpt
  obtain ⟨q1, k1, vs1, rfl, hm1, ha1⟩ := hpt
  have hvz1 := ha1.length
  have hvn : 0 < vs.length := by cases vs with | nil => simp at hx | cons => simp
  cases hb : isShutD pt with
  | true =>
    have hc := isShut_is hg hb
    refine wpAny_call ?_
    k_dflt ktr_enter
    k_steps
    walk_at "S end"
    unfold PPathW
    rw [withD_shut hl hb hp]
    refine ⟨_, _, _, _, _, rfl, by walk_at "S memf", by walk_at "S memf", _, _, _, rfl, by walk_at "S memf", ?_⟩
    refine (ha.imp fun v d h => PartIn.mono pairMono _ _ _ _ h (by walk_at "S sub")).append (All2.one ⟨_, _, _, rfl, by walk_at "S memf", All2.cons ⟨_, _, _, _, rfl, by walk_at "S memf", All2.one (by walk_at "S pair")⟩ (All2.one (SegIn.mono pairMono _ _ _ _ hsg (by walk_at "S sub")))⟩)
  | false =>
    have hc := isShut_is hg hb
    refine wpAny_call ?_
    k_dflt ktr_enter
    k_steps
    walk_at "S end"
    unfold PPathW
    rw [withD_open hl hb]
    refine ⟨_, _, _, _, _, rfl, by walk_at "S memf", by walk_at "S memf", _, _, _, rfl, by walk_at "S memf", ?_⟩
    refine ((All2.dropLast ha).imp fun v d h => PartIn.mono pairMono _ _ _ _ h (by walk_at "S sub")).append (All2.one ⟨_, _, _, rfl, by walk_at "S memf", (ha1.imp fun v d h => SegIn.mono pairMono _ _ _ _ h (by walk_at "S sub")).append (All2.one (SegIn.mono pairMono _ _ _ _ hsg (by walk_at "S sub")))⟩)

-- 14_shapes
abbrev sLine : Str := Str.ofString "line"
abbrev sCurve : Str := Str.ofString "curve"
theorem seg1 {w : World} {news n0 n : Led} {D : Addr} {nm : Str} {t : Tok} {r : Value} {k : Nat} {p : Pt} (_ : (D, tupO [.str nm t, r] k) ∈ news) (h : PPairW w n0 p r n) : SegIn (PairIn w) ((D, tupO [.str nm t, r] k) :: (n0 ++ n)) (.ref D) (nm, [p]) :=
  ⟨D, k, t, [r], rfl, .head _, All2.one (h.pair (by walk_at "S sub") (by walk_at "S sub"))⟩
theorem seg3 {w : World} {news n1 n2 n3 m1 m2 m3 : Led} {D : Addr} {nm : Str} {t : Tok} {r1 r2 r3 : Value} {k : Nat} {p1 p2 p3 : Pt} (_ : (D, tupO [.str nm t, r1, r2, r3] k) ∈ news) (h1 : PPairW w n1 p1 r1 m1) (h2 : PPairW w n2 p2 r2 m2) (h3 : PPairW w n3 p3 r3 m3) :
    SegIn (PairIn w) ((D, tupO [.str nm t, r1, r2, r3] k) :: ((n1 ++ m1) ++ ((n2 ++ m2) ++ (n3 ++ m3)))) (.ref D) (nm, [p1, p2, p3]) :=
  ⟨D, k, t, [r1, r2, r3], rfl, .head _, All2.cons (h1.pair (by walk_at "S sub") (by walk_at "S sub")) (All2.cons (h2.pair (by walk_at "S sub") (by walk_at "S sub")) (All2.one (h3.pair (by walk_at "S sub") (by walk_at "S sub"))))⟩
theorem with1 {w : World} {news n0 n1 n : Led} {v : Value} {path : PathD Pt} {D : Addr} {nm : Str} {t : Tok} {r : Value} {k : Nat} {p : Pt} (h : PathIn w (PairIn w) n1 v path) (s1 : ∀ p ∈ n1, p ∈ news) (hm : (D, tupO [.str nm t, r] k) ∈ news) (hp : PPairW w n0 p r n) (s2 : ∀ p ∈ n0 ++ n, p ∈ news) (ok : PathOk 900 path) :
    Spec w 16 346 [v, .ref D] news (PPathW w (n1 ++ ((D, tupO [.str nm t, r] k) :: (n0 ++ n))) (withD path (nm, [p]))) := with_spec h s1 (seg1 hm hp) (sub_consL hm s2) ok
theorem with3 {w : World} {news n0 n1 n2 n3 m1 m2 m3 : Led} {v : Value} {path : PathD Pt} {D : Addr} {nm : Str} {t : Tok} {r1 r2 r3 : Value} {k : Nat} {p1 p2 p3 : Pt} (h : PathIn w (PairIn w) n0 v path) (s1 : ∀ p ∈ n0, p ∈ news) (hm : (D, tupO [.str nm t, r1, r2, r3] k) ∈ news) (h1 : PPairW w n1 p1 r1 m1) (h2 : PPairW w n2 p2 r2 m2) (h3 : PPairW w n3 p3 r3 m3) (s2 : ∀ p ∈ (n1 ++ m1) ++ ((n2 ++ m2) ++ (n3 ++ m3)), p ∈ news) (ok : PathOk 900 path) :
    Spec w 16 346 [v, .ref D] news (PPathW w (n0 ++ ((D, tupO [.str nm t, r1, r2, r3] k) :: ((n1 ++ m1) ++ ((n2 ++ m2) ++ (n3 ++ m3))))) (withD path (nm, [p1, p2, p3]))) := with_spec h s1 (seg3 hm h1 h2 h3) (sub_consL hm s2) ok
theorem reg_P14_shapes_0 : True := by
  k_with "M:S spec" => iterate 777 (first
  | ((with_reducible show Spec _ _ 346 _ _ _); refine' with1 ?z9a ?z9b ?z9c1 ?z9c2 ?z9d ?z9e; (case z9a => with_reducible assumption); (case z9e => with_reducible assumption); (case z9c1 => k_mem); (case z9c2 => with_reducible assumption); (case z9b => walk_at "S sub"); (case z9d => walk_at "S sub"))
  | ((with_reducible show Spec _ _ 346 _ _ _); refine' with3 ?z9a ?z9b ?z9c1 ?z9c2 ?z9c3 ?z9c4 ?z9d ?z9e; (case z9a => with_reducible assumption); (case z9e => with_reducible assumption); (case z9c1 => k_mem); (case z9c2 => with_reducible assumption); (case z9c3 => with_reducible assumption); (case z9c4 => with_reducible assumption); (case z9b => walk_at "S sub"); (case z9d => walk_at "S sub"))
  | fail "S spec")
  trivial
theorem PPathW.sub {w : World} {n0 n m1 m2 : Led} {path : PathD Pt} {r : Value} (h : PPathW w n0 path r n) (s : ∀ p ∈ n0 ++ n, p ∈ m1 ++ m2) : PPathW w m1 path r m2 := PathIn.mono pairMono _ _ _ _ h s
theorem line_spec {w : World} {news n1 n2 n3 : Led} {v v2 v3 : Value} {path : PathD Pt} {x y : Dec} (h : PathIn w (PairIn w) n1 v path) (s1 : ∀ p ∈ n1, p ∈ news) (h2 : NumIn w n2 v2 x) (s2 : ∀ p ∈ n2, p ∈ news) (h3 : NumIn w n3 v3 y) (s3 : ∀ p ∈ n3, p ∈ news) (ok : PathOk 900 path) :
    Spec w 20 353 [v, v2, v3] news (PPathW w (n1 ++ (n2 ++ n3)) (withD path (sLine, [(x, y)]))) := by
  refine ⟨?_⟩
  intro prog p' loose mean mg mb dp un gd cn cs aa ccd cl outer A₀ base h₀ L m s Q E B F X N T hk hdp hun hret
  have hh := h
  obtain ⟨_, _, _, _, _, rfl, _⟩ := PathIn.out h; clear h
  have g2 : NumIn w (n2 ++ n3) v2 x := h2.mono fun p hp => List.mem_append.mpr (.inl hp)
  have g3 : NumIn w (n2 ++ n3) v3 y := h3.mono fun p hp => List.mem_append.mpr (.inr hp)
  clear h2 h3
  refine wpAny_call ?_
  k_dflt ktr_enter
  k_steps
  walk_at "S end"
  refine PPathW.sub (by assumption) (by walk_at "S sub")
def curveD (path : PathD Pt) (p q r : Pt) : PathD Pt := withD path (sCurve, [p, q, r])
/-- a pair of numbers -/
def NPairIn (w : World) (n : Led) (v : Value) (p : Pt) : Prop := ∃ (q : Addr) (a b : Value) (k : Nat), v = .ref q ∧ (q, tupO [a, b] k) ∈ n ∧ NumIn w n a p.1 ∧ NumIn w n b p.2
theorem curve_spec {w : World} {news n1 n2 n3 n4 : Led} {v v2 v3 v4 : Value} {path : PathD Pt} {x y z : Pt} (h : PathIn w (PairIn w) n1 v path) (s1 : ∀ p ∈ n1, p ∈ news) (h2 : NPairIn w n2 v2 x) (s2 : ∀ p ∈ n2, p ∈ news) (h3 : NPairIn w n3 v3 y) (s3 : ∀ p ∈ n3, p ∈ news) (h4 : NPairIn w n4 v4 z) (s4 : ∀ p ∈ n4, p ∈ news) (ok : PathOk 900 path) :
    Spec w 20 360 [v, v2, v3, v4] news (PPathW w (n1 ++ (n2 ++ (n3 ++ n4))) (curveD path x y z)) := by
  refine ⟨?_⟩
  intro prog p' loose mean mg mb dp un gd cn cs aa ccd cl outer A₀ base h₀ L m s Q E B F X N T hk hdp hun hret
  have hh := h
  obtain ⟨_, _, _, _, _, rfl, _⟩ := PathIn.out h; clear h
  obtain ⟨_, _, _, _, rfl, mm2, ha2, hb2⟩ := h2
  obtain ⟨_, _, _, _, rfl, mm3, ha3, hb3⟩ := h3
  obtain ⟨_, _, _, _, rfl, mm4, ha4, hb4⟩ := h4
  refine wpAny_call ?_
  k_dflt ktr_enter
  k_steps
  walk_at "S end"
  refine PPathW.sub (by assumption) (by walk_at "S sub")
def closeD (path : PathD Pt) : PathD Pt := match path.getLast? with
  | some pt => if isShutD pt then path else path.dropLast ++ [pt ++ [(sClose, [])]]
  | none => path
theorem close_spec {w : World} {news n1 : Led} {v : Value} {path : PathD Pt} (h : PathIn w (PairIn w) n1 v path) (s1 : ∀ p ∈ n1, p ∈ news) (ok : PathOk 900 path) :
    Spec w 16 367 [v] news (PPathW w n1 (closeD path)) := by
  refine ⟨?_⟩
  intro prog p' loose mean mg mb dp un gd cn cs aa ccd cl outer A₀ base h₀ L m s Q E B F X N T hk hdp hun hret
  obtain ⟨pt, hl, hpn, hpz, ⟨p, hp⟩, hp1, hp2⟩ := ok.last
  have hz : path.length ≤ 1000 := Nat.le_trans ok.len (by decide)
  have hz2 : pt.length ≤ 1000 := Nat.le_trans hpz (by decide)
  obtain ⟨lg, hg⟩ : ∃ sg, pt.getLast? = some sg := ⟨_, List.getLast?_eq_getLast hpn⟩
  have hh := h
  obtain ⟨x, dx, kt, pv, k, rfl, m1, m2, q, k', vs, rfl, hm, ha⟩ := PathIn.out h; clear h
  obtain ⟨v, hx, hpt⟩ := ha.last hl
  have hvz := ha.length
  have hvn : 0 < vs.length := by cases vs with | nil => simp at hx | cons => simp
  obtain ⟨d0, ds, rfl⟩ : ∃ a b, vs = a :: b := by
    cases vs with
    | nil => simp at hx
    | cons a b => exact ⟨a, b, rfl⟩
  have hvz3 : ds.length + 1 = path.length := hvz
  have hpt' := hpt
  obtain ⟨q1, k1, vs1, rfl, hm1, ha1⟩ := hpt
  have hvz1 := ha1.length
  cases hb : isShutD pt with
  | true =>
    have hc := isShut_is hg hb
    refine wpAny_call ?_
    k_dflt ktr_enter
    k_steps
    walk_at "S end"
    unfold PPathW closeD
    rw [show path.getLast? = some pt from hl]
    simp only [hb, if_true]
    exact PathIn.mono pairMono _ _ _ _ hh (by walk_at "S sub")
  | false =>
    have hc := isShut_is hg hb
    refine wpAny_call ?_
    k_dflt ktr_enter
    k_steps
    walk_at "S end"
    unfold PPathW
    rw [show closeD path = path.dropLast ++ [pt ++ [(sClose, [])]] by simp [closeD, hl, hb]]
    refine ⟨_, _, _, _, _, rfl, by walk_at "S memf", by walk_at "S memf", _, _, _, rfl, by walk_at "S memf", ?_⟩
    refine ((All2.dropLast ha).imp fun v d h => PartIn.mono pairMono _ _ _ _ h (by walk_at "S sub")).append (All2.one ⟨_, _, _, rfl, by walk_at "S memf", (ha1.imp fun v d h => SegIn.mono pairMono _ _ _ _ h (by walk_at "S sub")).append (All2.one ⟨_, _, _, _, rfl, by walk_at "S memf", by exact True.intro⟩)⟩)
def rectD (path : PathD Pt) (x y : Dec) (a b : Int) : PathD Pt := closeD (withD (withD (withD (moveD path (x, y)) (sLine, [(plusD x (dI a), y)])) (sLine, [(plusD x (dI a), plusD y (dI b))])) (sLine, [(x, plusD y (dI b))]))
def mapD {π ρ : Type} (f : π → ρ) (path : PathD π) : PathD ρ := path.map fun pt => pt.map fun sg => (sg.1, sg.2.map f)
def ptsD {π : Type} (path : PathD π) : List π := path.flatMap fun pt => pt.flatMap fun sg => sg.2
/-- all points of a path -/
def AllP (S : Pt → Prop) (path : PathD Pt) : Prop := ∀ pt ∈ path, ∀ sg ∈ pt, ∀ p ∈ sg.2, S p
/-- the pair of whole numbers that tells a Decimal; a point told -/
def tolD (d : Dec) : Int × Int := (d.t, d.p)
def tolP (p : Pt) : (Int × Int) × (Int × Int) := (tolD p.1, tolD p.2)
def IPr (n : Led) (v : Value) (d : Int × Int) : Prop := ∃ (q : Addr) (t1 t2 : Tok) (k : Nat), v = .ref q ∧ (q, tupO [.int d.1 t1, .int d.2 t2] k) ∈ n
def TPt (n : Led) (v : Value) (d : (Int × Int) × (Int × Int)) : Prop := ∃ (q : Addr) (a b : Value) (k : Nat), v = .ref q ∧ (q, tupO [a, b] k) ∈ n ∧ IPr n a d.1 ∧ IPr n b d.2
theorem IPr.mono : MonoR IPr := by
  rintro n n' v d ⟨q, t1, t2, k, e, hm⟩ hs
  exact ⟨q, t1, t2, k, e, hs _ hm⟩
theorem TPt.mono : MonoR TPt := by
  rintro n n' v d ⟨q, a, b, k, e, hm, h1, h2⟩ hs
  exact ⟨q, a, b, k, e, hs _ hm, IPr.mono _ _ _ _ h1 hs, IPr.mono _ _ _ _ h2 hs⟩

-- 15_rect
theorem unrEnd {h₀ : Heap} {L I : Addr} {oI : Obj} {nw keep : Led} {s₁ : Shared} {rest : (Str → Option Value) → Led → Prop} {h' : Heap} {tk : Nat} {m' : Str → Option Value} (F : Fr h₀ L h' m') (N : News h₀ L h' ((I, oI) :: nw)) (off : ∀ p ∈ nw, p.1 ≠ I) (k : SubL keep nw) (r : rest m' nw) :
    UnrEndW h₀ L s₁ [(I, oI)] (fun m' n' => SubL keep n' ∧ rest m' n') { s₁ with heap := h', toks := tk } :=
  ⟨h', tk, m', nw, rfl, F, N, fun p hp q hq => by rw [List.mem_singleton.mp hq]; exact off p hp, k, r⟩
theorem subL1 {c : Addr × Obj} {nw : Led} (h : c ∈ nw) : SubL [c] nw := ⟨h, trivial⟩
theorem ne_nilL {d : Addr} : ∀ p ∈ ([] : Led), p.1 ≠ d := fun _ h => nomatch h
theorem ne_consL {d : Addr} {c : Addr × Obj} {l : Led} (h : c.1 ≠ d) (k : ∀ p ∈ l, p.1 ≠ d) : ∀ p ∈ c :: l, p.1 ≠ d := fun p hp => (List.mem_cons.mp hp).elim (fun e => e ▸ h) (k p)
theorem ne1_below {d : Addr} {c : Addr × Obj} {l : Led} (h : ∀ p ∈ l, @LT.lt Nat _ p.1 d) (k : c ∈ l) : c.1 ≠ d := Nat.ne_of_lt (h c k)
theorem ne1_above {d : Addr} {o : Obj} {c : Addr × Obj} {l : Led} (h : ∀ p ∈ l, @LT.lt Nat _ p.1 c.1) (k : (d, o) ∈ l) : c.1 ≠ d := Nat.ne_of_gt (h (d, o) k)
theorem ne1_apart {d : Addr} {o : Obj} {c : Addr × Obj} {l : Led} (h : ∀ p ∈ l, @Ne Nat p.1 c.1) (k : (d, o) ∈ l) : c.1 ≠ d := Ne.symm (h (d, o) k)
theorem ne_sub {d : Addr} {a l : Led} (h : ∀ p ∈ l, p.1 ≠ d) (s : ∀ p ∈ a, p ∈ l) : ∀ p ∈ a, p.1 ≠ d := fun p hp => h p (s p hp)
local macro_rules | `(tactic| walk_at "S ne1") => `(tactic| first
  | ((with_reducible refine' ne1_below ?h ?k); (case h => with_reducible assumption); (case k => walk_at "S mem"))
  | ((with_reducible refine' ne1_above ?h ?k); (case h => with_reducible assumption); (case k => walk_at "S mem"))
  | ((with_reducible refine' ne1_apart ?h ?k); (case h => with_reducible assumption); (case k => walk_at "S mem"))
  | k_ne
  | fail "S ne1")
local macro_rules | `(tactic| walk_at "S off") => `(tactic| first
  | with_reducible assumption
  | with_reducible exact ne_nilL
  | ((with_reducible refine' ne_app ?a ?b); (case a => walk_at "S off"); (case b => walk_at "S off"))
  | ((with_reducible refine' ne_consL ?a ?b); (case a => walk_at "S ne1"); (case b => walk_at "S off"))
  | ((with_reducible refine' ne_above (c := (_, _)) ?a ?b); (case a => with_reducible assumption); (case b => walk_at "S mem"))
  | ((with_reducible refine' ne_sub ?a ?b); (case a => with_reducible assumption); (case b => walk_at "S sub"))
  | ((with_reducible refine' ne_below ?a); (case a => walk_at "S below"))
  | fail "S off")
theorem reg_P15_rect_0 : True := by
  k_with "M:UnrEndW" => iterate 777 ((k_here; k_dflt (first | (refine' unrEnd ?z9a ?z9b ?z9c ?z9d ?_; (case z9a => k_asm); (case z9b => k_asm); (case z9d => exact subL1 (by walk_at "S mem")); (case z9c => walk_at "S off")) | fail "UnrEndW")))
  trivial
theorem reg_P15_rect_1 : True := by
  k_with "M:S spec" => iterate 777 (first
  | ((with_reducible show Spec _ _ 339 _ _ _); refine' move_spec ?z9a ?z9b ?z9c ?z9d ?z9e ?z9f ?z9g; (case z9a => with_reducible assumption); (case z9g => with_reducible assumption); (case z9c => walk_at "S num0"); (case z9e => walk_at "S num0"); (case z9b => walk_at "S sub"); (case z9d => walk_at "S sub"); (case z9f => walk_at "S sub"))
  | ((with_reducible show Spec _ _ 353 _ _ _); refine' line_spec ?z9a ?z9b ?z9c ?z9d ?z9e ?z9f ?z9g; (case z9a => with_reducible assumption); (case z9g => with_reducible assumption); (case z9c => walk_at "S num0"); (case z9e => walk_at "S num0"); (case z9b => walk_at "S sub"); (case z9d => walk_at "S sub"); (case z9f => walk_at "S sub"))
  | ((with_reducible show Spec _ _ 367 _ _ _); refine' close_spec ?z9a ?z9b ?z9c; (case z9a => with_reducible assumption); (case z9c => with_reducible assumption); (case z9b => walk_at "S sub"))
  | fail "S spec")
  trivial
theorem rect_spec {w : World} {news n1 n2 : Led} {v v2 v3 : Value} {path : PathD Pt} {x y : Dec} {i j : Int} {t1 t2 : Tok} (h : PathIn w (PairIn w) n1 v path) (s1 : ∀ p ∈ n1, p ∈ news) (h2 : NumIn w n2 v2 x) (h3 : NumIn w n2 v3 y) (s2 : ∀ p ∈ n2, p ∈ news)
    (ok : PathOk 900 path) (o0 : PathOk 900 (moveD path (x, y))) (o1 : PathOk 900 (withD (moveD path (x, y)) (sLine, [(plusD x (dI i), y)]))) (o2 : PathOk 900 (withD (withD (moveD path (x, y)) (sLine, [(plusD x (dI i), y)])) (sLine, [(plusD x (dI i), plusD y (dI j))])))
    (o3 : PathOk 900 (withD (withD (withD (moveD path (x, y)) (sLine, [(plusD x (dI i), y)])) (sLine, [(plusD x (dI i), plusD y (dI j))])) (sLine, [(x, plusD y (dI j))]))) (bx : BdM x) (bY : BdM y) (bi : BdM (dI i)) (bj : BdM (dI j)) :
    Spec w 30 374 [v, v2, v3, .int i t1, .int j t2] news (PPathW w (n1 ++ n2) (rectD path x y i j)) := by
  refine ⟨?_⟩
  intro prog p' loose mean mg mb dp un gd cn cs aa ccd cl outer A₀ base h₀ L m s Q E B F X N T hk hdp hun hret
  have hh := h
  obtain ⟨_, _, _, _, _, rfl, _⟩ := PathIn.out h; clear h
  refine wpAny_call ?_
  k_dflt ktr_enter
  k_steps
  walk_at "S end"
  unfold rectD
  exact PathIn.mono pairMono _ _ _ _ (by with_reducible assumption) (by walk_at "S sub")

-- 16_mut
/-- an entry of a ledger, and the rest of it -/
structure Pick (D : Addr) (o : Obj) (l r : Led) : Prop where
  mem : (D, o) ∈ l
  sub : ∀ p ∈ r, p ∈ l
  off : ∀ p ∈ r, p.1 ≠ D
section
variable {D : Addr} {o : Obj} {l r a b : Led} {c : Addr × Obj}
theorem Pick.here (h : ∀ p ∈ r, p.1 ≠ D) : Pick D o ((D, o) :: r) r := ⟨.head _, fun p hp => .tail _ hp, h⟩
theorem Pick.there (h : c.1 ≠ D) (k : Pick D o l r) : Pick D o (c :: l) (c :: r) := ⟨.tail _ k.mem, fun p hp => by
  rcases List.mem_cons.mp hp with rfl | hp
  · exact .head _
  · exact .tail _ (k.sub p hp), ne_consL h k.off⟩
theorem newsPick {h₀ h : Heap} {L : Addr} (N : News h₀ L h l) (P : Pick D o l r) : News h₀ L h ((D, o) :: r) := fun p hp => by
  rcases List.mem_cons.mp hp with rfl | hp
  · exact N _ P.mem
  · exact N _ (P.sub _ hp)
end
section
variable {prog : Program} {w : World} {A : Around} {E : Value → Shared → Prop} {s : Shared} {h₀ : Heap} {L D b : Addr} {m : Str → Option Value} {l r : Led} {vs ws : List Value} {k k2 : Nat} {x : Value} {o : Obj}
theorem append_R {Q : Value → Shared → Prop} (F : Fr h₀ L s.heap m) (N : News h₀ L s.heap l) (P : Pick D (lstO vs k) l r) (hz : vs.length ≤ 1000000)
    (h : ∀ h' k', Fr h₀ L h' m → News h₀ L h' ((D, lstO (vs ++ [x]) k') :: r) → Q .none { s with heap := h' }) : wpAny (model prog w) A (call (.builtin "list.append") [.ref D, x]) Q E s := by
  have z := N _ P.mem
  refine append_at (its := vs.toArray) (n := k) z.1 (fun h' hs ho' => ?_) (by rw [List.size_toArray, sizeLine_eq]; omega)
  refine h h' (k + 1) (F.change hs z.2.1 z.2.2) fun p hp => ?_
  rcases List.mem_cons.mp hp with rfl | hp
  · exact ⟨by rw [ho', List.push_toArray], z.2⟩
  · exact ⟨hs.extBut _ _ (P.off p hp) (N p (P.sub p hp)).1, (N p (P.sub p hp)).2⟩
theorem extend_R {Q : Value → Shared → Prop} (F : Fr h₀ L s.heap m) (N : News h₀ L s.heap l) (P : Pick D (lstO vs k) l r) (hb : (b, tupO ws k2) ∈ l) (hz : vs.length + ws.length ≤ 1000000)
    (h : ∀ h' k', Fr h₀ L h' m → News h₀ L h' ((D, lstO (vs ++ ws) k') :: r) → Q .none { s with heap := h' }) : wpAny (model prog w) A (call (.builtin "list.extend") [.ref D, .ref b]) Q E s := by
  have z := N _ P.mem
  have q := PySem.IsL.update z.1 (fun x => x ++ ws.toArray)
  have hs : Heap.SameBut D s.heap (s.heap.update D (Obj.mapSeq fun x => x ++ ws.toArray)) := Heap.SameBut.update ..
  have hN : News h₀ L (s.heap.update D (Obj.mapSeq fun x => x ++ ws.toArray)) ((D, lstO (vs ++ ws) (if (vs.toArray ++ ws.toArray).size == vs.toArray.size then k else k + 1)) :: r) := fun p hp => by
    rcases List.mem_cons.mp hp with rfl | hp
    · refine ⟨?_, z.2⟩
      have q' : (s.heap.update D (Obj.mapSeq fun x => x ++ ws.toArray)).get? D = some (lstO (vs ++ ws) (if (vs.toArray ++ ws.toArray).size == vs.toArray.size then k else k + 1)) := by
        rw [show lstO (vs ++ ws) (if (vs.toArray ++ ws.toArray).size == vs.toArray.size then k else k + 1) = { cls := .type "list", data := .seq (vs.toArray ++ ws.toArray) (if (vs.toArray ++ ws.toArray).size == vs.toArray.size then k else k + 1) } by rw [List.append_toArray]]
        exact q
      exact q'
    · exact ⟨hs.extBut _ _ (P.off p hp) (N p (P.sub p hp)).1, (N p (P.sub p hp)).2⟩
  exact call_meets PySem.F.slot_list_extend ⟨_, z.1, rfl⟩ PySem.F.entry_list_extend (PySem.F.args_list_extend_2 _ _) (PySem.AutoSeq1.list_extend_list_tuple_0 D vs.toArray k b ws.toArray k2 (extend_door (by simp only [List.size_toArray, sizeLine_eq]; omega)) (by simp only [List.size_toArray, sizeLine_eq]; omega) (by simp only [List.size_toArray, sizeLine_eq]; omega))
    ⟨z.1, (N _ hb).1, h _ _ (F.change hs z.2.1 z.2.2) hN⟩
end
local macro_rules | `(tactic| walk_at "S pick") => `(tactic| first
  | ((with_reducible refine' Pick.here ?a); (case a => walk_at "S off"))
  | ((with_reducible refine' Pick.there ?a ?b); rotate_left; (case b => walk_at "S pick"); (case a => walk_at "S ne1"))
  | fail "S pick")
theorem reg_P16_mut_0 : True := by
  k_with "K:k_all" => iterate 777 (walk_at "S off")
  k_with "M:call builtin:list.append" => iterate 777 ((k_here; (with_reducible show wpAny _ _ (call (Value.builtin _) [Value.ref _, _]) _ _ _); k_dflt (refine' append_R ?z9a ?z9b ?z9c ?z9d ?_; (case z9a => k_asm); (case z9b => k_asm); (case z9c => walk_at "S pick"); (case z9d => walk_at "S size")); intro z9h' z9k' z9F' z9N'; (try simp only [List.nil_append, List.cons_append, List.append_assoc] at z9N'); (try k_sweep); (try dsimp only)))
  k_with "M:call builtin:list.extend" => iterate 777 ((k_here; (with_reducible show wpAny _ _ (call (Value.builtin _) [Value.ref _, Value.ref _]) _ _ _); k_dflt (refine' extend_R ?z9a ?z9b ?z9c ?z9d ?z9e ?_; (case z9a => k_asm); (case z9b => k_asm); (case z9c => walk_at "S pick"); (case z9d => k_mem); (case z9e => walk_at "S size")); intro z9h' z9k' z9F' z9N'; (try simp only [List.nil_append, List.cons_append, List.append_assoc] at z9N'); (try k_sweep); (try dsimp only)))
  trivial
section
variable {prog : Program} {w : World} {A : Around} {E : Value → Shared → Prop} {s : Shared} {env : Env} {h₀ : Heap} {target : PySem.Expr} {body : List Stmt} {Q : Flow → Shared → Prop} {keep : Led} {cls : String} {I q : Addr}
/-- a turn's end where one entry is turned -/
def MuEnd (h₀ : Heap) (L I : Addr) (oI : Obj) (q : Addr) (nx : Led) (s₁ : Shared) (Inv : Obj → (Str → Option Value) → Led → Prop) (s₂ : Shared) : Prop :=
  ∃ h' tk m' t o', s₂ = { s₁ with heap := h', toks := tk } ∧ Fr h₀ L h' m' ∧ News h₀ L h' ((I, oI) :: (q, o') :: (nx ++ t)) ∧ (∀ p ∈ t, p.1 ≠ I) ∧ (∀ p ∈ t, p.1 ≠ q) ∧ Up nx t ∧ Inv o' m' (nx ++ t)
def MuPost (h₀ : Heap) (L I : Addr) (oI : Obj) (q : Addr) (nx : Led) (s₁ : Shared) (Inv : Obj → (Str → Option Value) → Led → Prop) (Q : Flow → Shared → Prop) (f : Flow) (s₂ : Shared) : Prop :=
  match f with
  | .ret v => Q (.ret v) s₂
  | .brk => Q .next s₂
  | _ => MuEnd h₀ L I oI q nx s₁ Inv s₂
theorem muEnd {Q : Flow → Shared → Prop} {L : Addr} {oI o' : Obj} {nx l r t : Led} {s₁ : Shared} {Inv : Obj → (Str → Option Value) → Led → Prop} {h' : Heap} {tk : Nat} {m' : Str → Option Value}
    (F : Fr h₀ L h' m') (N : News h₀ L h' l) (P : Pick q o' l r) (S : Spl r ((I, oI) :: nx) t) (o1 : ∀ p ∈ t, p.1 ≠ I) (U : Up nx t) (hi : Inv o' m' (nx ++ t)) : MuPost h₀ L I oI q nx s₁ Inv Q .next { s₁ with heap := h', toks := tk } :=
  ⟨h', tk, m', t, o', rfl, F, fun p hp => by
    rcases List.mem_cons.mp hp with rfl | hp
    · exact N _ (P.sub _ (S.sub _ (.head _)))
    · rcases List.mem_cons.mp hp with rfl | hp
      · exact N _ P.mem
      · exact N _ (P.sub _ (S.sub _ (.tail _ hp))), o1, fun p hp => P.off p (S.sub p (.tail _ (List.mem_append.mpr (.inr hp)))), U, hi⟩
theorem off_app {d : Addr} {a b : Led} (h : ∀ p ∈ a, p.1 ≠ d) (k : ∀ p ∈ b, p.1 ≠ d) : ∀ p ∈ a ++ b, p.1 ≠ d := ne_app h k
theorem items_foldM {δ : Type} {R : Led → Value → δ → Prop} (Inv : List δ → Obj → (Str → Option Value) → Led → Prop) (hR : MonoR R) (hqI : @Ne Nat q I)
    (turn : ∀ v d ds m o nx h tk oI, R nx v d → Inv (d :: ds) o m nx → Fr h₀ env.locals h m → News h₀ env.locals h ((I, oI) :: (q, o) :: nx) → (∀ p ∈ nx, p.1 ≠ I) → (∀ p ∈ nx, p.1 ≠ q) →
      wpAny (model prog w) A (assign target env v) (fun _ s₂ => wpAny (model prog w) A (execs body env) (MuPost h₀ env.locals I oI q nx { s with heap := h, toks := tk } (Inv ds) Q) E s₂) E { s with heap := h, toks := tk }) :
    ∀ (ds : List δ) (vs : List Value) (m : Str → Option Value) (o : Obj) (nx : Led), All2 (R nx) vs ds → Inv ds o m nx → SubL keep nx → (∀ p ∈ nx, p.1 ≠ I) → (∀ p ∈ nx, p.1 ≠ q) →
      (∀ m' o' t h tk, Inv [] o' m' (nx ++ t) → Fr h₀ env.locals h m' → News h₀ env.locals h ((q, o') :: (nx ++ t)) → (∀ p ∈ t, p.1 ≠ q) → Up nx t → Q .next { s with heap := h, toks := tk }) →
      ItemsRest prog w A E h₀ env target body Q s [(I, cls)] keep (vs.map .val) m ((q, o) :: nx) := by
  intro ds
  induction ds with
  | nil =>
    intro vs m o nx ha hi hk _ _ hd
    obtain rfl := ha.nil_inv
    exact ItemsRest.zero fun h tk F N => hd m o [] h tk (by rw [List.append_nil]; exact hi) F (by rw [List.append_nil]; exact N) (fun _ h => nomatch h) Up.nil
  | cons d ds ih =>
    intro vs m o nx ha hi hk hne hnq hd
    obtain ⟨v, us, rfl, hv, hu⟩ := All2.cons_inv ha
    refine ItemsRest.val fun h tk F => AllObj.cons fun oI hc => AllObj.nil fun N => ?_
    have N' : News h₀ env.locals h ((I, oI) :: (q, o) :: nx) := N
    refine wpAny_mono (turn v d ds m o nx h tk oI hv hi F N' hne hnq) (fun _ s₂ hs => wpAny_mono hs (fun f s₃ hp => ?_) fun _ _ e => e) fun _ _ e => e
    have fin : MuEnd h₀ env.locals I oI q nx { s with heap := h, toks := tk } (Inv ds) s₃ → UnrEndW h₀ env.locals { s with heap := h, toks := tk } [(I, oI)] (fun m' n' => SubL keep n' ∧ ItemsRest prog w A E h₀ env target body Q s [(I, cls)] keep (us.map .val) m' n') s₃ := by
      rintro ⟨h', tk', m', t, o', rfl, F', N', u1, u2, U, hi'⟩
      have hne' : ∀ p ∈ nx ++ t, p.1 ≠ I := ne_app hne u1
      have hnq' : ∀ p ∈ nx ++ t, p.1 ≠ q := ne_app hnq u2
      have hk' : SubL keep (nx ++ t) := subL_mono hk fun p hp => List.mem_append.mpr (.inl hp)
      refine ⟨h', tk', m', (q, o') :: (nx ++ t), rfl, F', N', fun p hp z hz => ?_, subL_mono hk' fun p hp => .tail _ hp, ?_⟩
      · rw [List.mem_singleton.mp hz]
        exact ne_consL (c := (q, o')) hqI hne' p hp
      · exact ih us m' o' (nx ++ t) (hu.imp fun v d x => hR _ _ v d x fun p hp => List.mem_append.mpr (.inl hp)) hi' hk' hne' hnq' fun m'' o2 t2 h2 tk2 i2 F2 N2 q2 U2 => hd m'' o2 (t ++ t2) h2 tk2 (by rw [← List.append_assoc]; exact i2) F2 (by rw [← List.append_assoc]; exact N2)
          (ne_app u2 q2) (Up.app U fun a ha => U2 a (List.mem_append.mpr (.inl ha)))
    cases f with
    | ret v => exact hp
    | brk => exact hp
    | next => exact fin hp
    | cont => exact fin hp
end
theorem reg_P16_mut_1 : True := by
  k_with "M:S mturn" => iterate 777 ((refine' muEnd ?z9e1 ?z9e2 ?z9e3 ?z9e4 ?z9e5 ?z9e6 ?z9e7; (case z9e1 => k_asm); (case z9e2 => assumption); (case z9e3 => walk_at "S pick"); (case z9e4 => walk_at "S spl"); (case z9e5 => walk_at "S off"); (case z9e6 => walk_at "S up"); (try simp only [List.nil_append, List.cons_append, List.append_assoc])))
  trivial
/-- the contract of a call that turns one entry of the ledger -/
structure SpecM (w : World) (D : Nat) (f : Addr) (args : List Value) (H : Heap → Prop) (q : Addr) (o : Obj) (news : Led) (Post : Value → Obj → Led → Prop) : Prop where
  go : ∀ (prog p : Program) (loose : List Str) (mean : ExcName → Option Value) (mg mb : Str → Option Value) (dp un : Nat) (gd : Option (List Code)) (cn : Str) (cs : Scope) (a : Addr) (ccd : Value) (cl : List (Str × Addr)) (outer : List Env) (A₀ : Around) (base h₀ : Heap) (L : Addr) (m : Str → Option Value) (s : Shared) (Q E : Value → Shared → Prop),
    Below A₀ base outer h₀ → Fr h₀ L s.heap m → (hd.heap_39 w.params).In h₀ → News h₀ L s.heap ((q, o) :: news) → (∀ p ∈ news, p.1 ≠ q) → Top p loose mean mg mb h₀ → H base → cs.kind = .function → dp + D < recursionLimit → un + 8 * D < cLine →
    (∀ r o' tl h' tk', Fr h₀ L h' m → News h₀ L h' ((q, o') :: (news ++ tl)) → (∀ p ∈ tl, p.1 ≠ q) → (∀ q ∈ news, ∀ p ∈ tl, @Ne Nat q.1 p.1) → Post r o' tl → Q r { s with heap := h', toks := tk' }) →
    wpAny (model prog w) (ktrTop dp un gd cn cs L a ccd cl outer) (call (.ref f) args) Q E s
theorem SpecM.use {w : World} {D : Nat} {f : Addr} {args : List Value} {H : Heap → Prop} {q : Addr} {o : Obj} {news l : Led} {Post : Value → Obj → Led → Prop} {prog p : Program} {loose : List Str} {mean : ExcName → Option Value} {mg mb : Str → Option Value} {dp un : Nat} {gd : Option (List Code)} {cn : Str} {cs : Scope} {a : Addr} {ccd : Value} {cl : List (Str × Addr)} {outer : List Env} {A₀ : Around} {base h₀ : Heap} {L : Addr} {m : Str → Option Value} {s : Shared} {Q E : Value → Shared → Prop}
    (S : SpecM w D f args H q o news Post) (B : Below A₀ base outer h₀) (F : Fr h₀ L s.heap m) (X : (hd.heap_39 w.params).In h₀) (N : News h₀ L s.heap l) (P : Pick q o l news) (T : Top p loose mean mg mb h₀) (hH : H base) (hk : cs.kind = .function) (hd : dp + D < recursionLimit) (hu : un + 8 * D < cLine)
    (ret : ∀ r o' tl h' tk', Fr h₀ L h' m → News h₀ L h' ((q, o') :: (news ++ tl)) → (∀ p ∈ tl, p.1 ≠ q) → (∀ q ∈ news, ∀ p ∈ tl, @Ne Nat q.1 p.1) → Post r o' tl → Q r { s with heap := h', toks := tk' }) :
    wpAny (model prog w) (ktrTop dp un gd cn cs L a ccd cl outer) (call (.ref f) args) Q E s := S.go _ _ _ _ _ _ _ _ _ _ _ _ _ _ _ _ _ _ _ _ _ _ _ B F X (newsPick N P) P.off T hH hk hd hu ret
theorem SpecM.end {q : Addr} {o' : Obj} {news l r' t : Led} {Post : Value → Obj → Led → Prop} {h₀ : Heap} {L : Addr} {m : Str → Option Value} {s : Shared} {Q : Value → Shared → Prop}
    (ret : ∀ r o' tl h' tk', Fr h₀ L h' m → News h₀ L h' ((q, o') :: (news ++ tl)) → (∀ p ∈ tl, p.1 ≠ q) → (∀ q ∈ news, ∀ p ∈ tl, @Ne Nat q.1 p.1) → Post r o' tl → Q r { s with heap := h', toks := tk' })
    {r : Value} {h : Heap} {tk : Nat} (F : Fr h₀ L h m) (N : News h₀ L h l) (P : Pick q o' l r') (S : Spl r' news t) (U : Up news t) (hP : Post r o' t) : Q r { s with heap := h, toks := tk } :=
  ret r o' t h tk F (fun p hp => (List.mem_cons.mp hp).elim (fun e => e ▸ N _ P.mem) fun hp => N p (P.sub p (S.sub p hp))) (fun p hp => P.off p (S.sub p (List.mem_append.mpr (.inr hp)))) U hP
theorem reg_P16_mut_2 : True := by
  k_with "M:S mend" => iterate 777 ((refine' SpecM.end (by assumption) ?z9e1 ?z9e2 ?z9e3 ?z9e4 ?z9e5 ?z9e6; (case z9e1 => k_asm); (case z9e2 => assumption); (case z9e3 => walk_at "S pick"); (case z9e4 => walk_at "S spl"); (case z9e5 => walk_at "S up"); (try simp only [List.nil_append, List.cons_append, List.append_assoc])))
  trivial

-- 17_points
def PPts {π : Type} (R : Led → Value → π → Prop) (n₀ : Led) (ds : List π) (r : Value) (n : Led) : Prop := ∃ (q : Addr) (k : Nat) (vs : List Value), r = .ref q ∧ (q, lstO vs k) ∈ n ∧ All2 (R n₀) vs ds
/-- small enough -/
structure Small {π : Type} (path : PathD π) : Prop where
  len : path.length ≤ 300
  part : ∀ pt ∈ path, pt.length ≤ 300 ∧ ∀ sg ∈ pt, sg.2.length ≤ 3
theorem flat_le {α β : Type} {f : α → List β} {N : Nat} : ∀ {l : List α}, (∀ a ∈ l, (f a).length ≤ N) → (l.flatMap f).length ≤ l.length * N
  | [], _ => by simp
  | a :: l, h => by
    have h1 := h a (.head _)
    have h2 := flat_le (l := l) fun b hb => h b (.tail _ hb)
    rw [List.flatMap_cons, List.length_append, List.length_cons, Nat.add_mul, Nat.one_mul]
    omega
theorem Small.pts {π : Type} {path : PathD π} (h : Small path) : (ptsD path).length ≤ 270000 := by
  have h1 : ∀ pt ∈ path, (pt.flatMap fun sg => sg.2).length ≤ 900 := fun pt hp => by
    obtain ⟨a, b⟩ := h.part pt hp
    have := flat_le (f := fun sg : SegD π => sg.2) (N := 3) (l := pt) b
    omega
  have h2 := flat_le (f := fun pt : PartD π => pt.flatMap fun sg => sg.2) (N := 900) (l := path) h1
  have h3 := h.len
  unfold ptsD
  omega
theorem reg_P17_points_0 : True := by
  k_with "M:exec For Name Attribute cons nil" => iterate 777 (walk_at "exec For Name")
  k_with "M:exec For Name Name cons nil" => iterate 777 (walk_at "exec For Name")
  k_with "M:S map" => iterate 777 ((intro z9y9; dsimp only; done))
  trivial
theorem points_spec {π : Type} {w : World} {R : Led → Value → π → Prop} {news n1 : Led} {v : Value} {path : PathD π} (h : PathIn w R n1 v path) (s1 : ∀ p ∈ n1, p ∈ news) (ok : Small path) :
    Spec w 10 381 [v] news (PPts R n1 (ptsD path)) := by
  refine ⟨?_⟩
  intro prog p' loose mean mg mb dp un gd cn cs aa ccd cl outer A₀ base h₀ L m s Q E B F X N T hk hdp hun hret
  have hpts := ok.pts
  obtain ⟨x, dx, kt, pv, k, rfl, m1, m2, q, k', vs, rfl, hm, ha⟩ := PathIn.out h; clear h
  replace m1 := s1 _ m1
  replace m2 := s1 _ m2
  replace hm := s1 _ hm
  refine wpAny_call ?_
  k_dflt ktr_enter
  k_steps
  rename_i lD hh1 l1 hh2 lF N1 I aI
  refine items_foldM (R := fun _ v d => PartIn R n1 v d) (fun ds o m n => (∃ vs k ac, o = lstO vs k ∧ All2 (R n1) vs ac ∧ ac ++ ptsD ds = ptsD path ∧ ∀ pt ∈ ds, ∀ sg ∈ pt, sg.2.length ≤ 1000) ∧ (∃ a b, ∀ y, m y = if y = Str.ofString "segment" then b else if y = Str.ofString "part" then a else if y = Str.ofString "found" then some (Value.ref lD) else ([(Str.ofString "path", Value.ref x)] : List (Str × Value)).lookup y) ∧ ∀ p ∈ n1, p ∈ n) (fun _ _ _ _ h _ => h) ?_ ?_ path vs _ _ _ ha ?_ ?_ ?_ ?_ ?_
  · exact Nat.ne_of_lt (aI _ (.head _))
  · rintro v d ds m₁ o nx h tk' oI hv ⟨⟨vs', k2, ac, rfl, hac, heq, hpz0⟩, ⟨a, b, hm'⟩, hs'⟩ F1 N2 o1 o2
    have hpz := hpz0 d (.head _)
    obtain ⟨q1, k1, ws, rfl, hm1, ha1⟩ := hv
    replace hm1 := hs' _ hm1
    have F' := Fr_cast F1 hm'
    have N' : News _ _ _ ((lD, lstO vs' k2) :: (I, oI) :: nx) := fun p hp => N2 p (by
      rcases List.mem_cons.mp hp with rfl | hp
      · exact .tail _ (.head _)
      · rcases List.mem_cons.mp hp with rfl | hp
        · exact .head _
        · exact .tail _ (.tail _ hp))
    clear F1 N2 hm'
    have hwz := ha1.length
    k_steps
    rename_i I2 aI2
    refine items_foldM (R := fun _ v d => SegIn R n1 v d) (fun ds2 o m n => (∃ vs k ac, o = lstO vs k ∧ All2 (R n1) vs ac ∧ ac ++ (ds2.flatMap (fun sg => sg.2) ++ ptsD ds) = ptsD path ∧ ∀ sg ∈ ds2, sg.2.length ≤ 1000) ∧ (∃ b, ∀ y, m y = if y = Str.ofString "segment" then b else if y = Str.ofString "part" then some (Value.ref q1) else if y = Str.ofString "found" then some (Value.ref lD) else ([(Str.ofString "path", Value.ref x)] : List (Str × Value)).lookup y) ∧ ∀ p ∈ n1, p ∈ n) (fun _ _ _ _ h _ => h) ?_ ?_ d ws _ _ _ ha1 ?_ ?_ ?_ ?_ ?_
    · exact Nat.ne_of_lt (aI2 _ (.head _))
    · rintro v3 d3 ds3 m₃ o3 nx3 h3 tk3 oI3 hv3 ⟨⟨vs3, k3, ac3, rfl, hac3, heq3, hsz⟩, ⟨b3, hm3⟩, hs3⟩ F1 N2 o4 o5
      obtain ⟨q4, k4, t4, us, rfl, hm4, ha4⟩ := hv3
      replace hm4 := hs3 _ hm4
      have F' := Fr_cast F1 hm3
      have N' : News _ _ _ ((lD, lstO vs3 k3) :: (I2, oI3) :: nx3) := fun p hp => N2 p (by
        rcases List.mem_cons.mp hp with rfl | hp
        · exact .tail _ (.head _)
        · rcases List.mem_cons.mp hp with rfl | hp
          · exact .head _
          · exact .tail _ (.tail _ hp))
      have z1 : us.length ≤ 1000 := by rw [ha4.length]; exact hsz _ (.head _)
      have z2 : vs3.length ≤ 270000 := by
        have := congrArg List.length heq3
        rw [List.length_append] at this
        rw [hac3.length]; omega
      have z3 : lD ≠ I2 := Nat.ne_of_lt (aI2 _ (.head _))
      clear F1 N2 hm3
      k_steps
      walk_at "S mturn"
      refine ⟨⟨_, _, ac3 ++ d3.2, rfl, hac3.append ha4, ?_, fun sg h => hsz sg (.tail _ h)⟩, ⟨_, by walk_at "S map"⟩, by walk_at "S sub"⟩
      rw [← heq3]
      simp
    · refine ⟨⟨_, _, ac, rfl, hac, ?_, hpz⟩, ⟨b, by walk_at "S map"⟩, by walk_at "S sub"⟩
      rw [← heq]
      simp [ptsD]
    · exact ⟨by walk_at "S mem", trivial⟩
    · exact fun p hp => Nat.ne_of_lt (aI2 p (.tail _ hp))
    · exact ne_consL (c := (I, oI)) (Nat.ne_of_gt (aI _ (.head _))) o2
    · rintro m' o' t h tk ⟨⟨vs', k2, ac, rfl, hac, heq, _⟩, ⟨b, hm'⟩, hs'⟩ F1 N2 o1 U
      have F' := Fr_cast F1 hm'
      have U' : ∀ a ∈ (I, oI) :: nx, ∀ p ∈ t, @Ne Nat a.1 p.1 := U
      have N' : News _ _ _ ((lD, lstO vs' k2) :: (I, oI) :: (nx ++ t)) := N2
      clear F1 hm' N2 U
      k_steps
      walk_at "S mturn"
      refine ⟨⟨_, _, ac, rfl, hac, by simpa using heq, fun pt h => hpz0 pt (.tail _ h)⟩, ⟨_, _, by walk_at "S map"⟩, by walk_at "S sub"⟩
  · exact ⟨⟨[], 0, [], rfl, trivial, rfl, fun pt h sg hs => Nat.le_trans ((ok.part pt h).2 sg hs) (by decide)⟩, ⟨none, none, by walk_at "S map"⟩, by walk_at "S sub"⟩
  · exact ⟨by walk_at "S mem", trivial⟩
  · exact fun p hp => Nat.ne_of_lt (aI p (.tail _ hp))
  · exact ne_below (by assumption)
  · rintro m' o' t h tk ⟨⟨vs', k2, ac, rfl, hac, heq, _⟩, ⟨a, b, hm'⟩, hs'⟩ F1 N2 o1 U
    have F' := Fr_cast F1 hm'
    clear F1 hm' lF N1
    k_steps
    walk_at "S end"
    refine ⟨_, _, _, rfl, by walk_at "S mem", ?_⟩
    rw [← heq]
    simpa [ptsD] using hac

-- 18_each
section
variable {prog : Program} {w : World} {A : Around} {E : Value → Shared → Prop} {s : Shared} {h₀ : Heap} {L : Addr} {m : Str → Option Value} {env : Env} {elt iter : PySem.Expr} {x : Str} {px : Pos} {scope : Scope} {cl : List (Str × Addr)} {pos : Pos} {Q : Value → Shared → Prop}
/-- a comprehension's turn ends: what it made is apart from what stood, and holds the item -/
def CtEnd2 (h₀ : Heap) (L : Addr) (m : Str → Option Value) (s₁ : Shared) (I : Addr) (oI : Obj) (C : Addr) (oC : Obj) (D : Addr) (oD : Obj) (nx : Led) (r : Value → Led → Prop) (y : Value) (s₂ : Shared) : Prop :=
  ∃ h' tk t, s₂ = { s₁ with heap := h', toks := tk } ∧ Fr h₀ L h' m ∧ News h₀ L h' ((I, oI) :: (C, oC) :: (D, oD) :: (nx ++ t)) ∧ Up ((I, oI) :: (C, oC) :: (D, oD) :: nx) t ∧ r y t
theorem ctEnd2 {I C D : Addr} {oI oC oD : Obj} {nx t l : Led} {r : Value → Led → Prop} {y : Value} {s₁ : Shared} {h' : Heap} {tk : Nat} (F : Fr h₀ L h' m) (N : News h₀ L h' l) (S : Spl l ((I, oI) :: (C, oC) :: (D, oD) :: nx) t) (U : Up ((I, oI) :: (C, oC) :: (D, oD) :: nx) t) (hr : r y t) :
    CtEnd2 h₀ L m s₁ I oI C oC D oD nx r y { s₁ with heap := h', toks := tk } := ⟨h', tk, t, rfl, F, newsSpl N S, U, hr⟩
theorem comp_fold2 {δ ε : Type} {R : Led → Value → δ → Prop} {R' : Led → Value → ε → Prop} (f : δ → ε) (hR : ∀ n n' v d, R n v d → (∀ p ∈ n, p ∈ n') → R n' v d) (hR' : ∀ n n' v d, R' n v d → (∀ p ∈ n, p ∈ n') → R' n' v d)
    {S : Led → Prop} {P : Nat → Value → Prop} {Fin : List Value → Led → Prop} {n₀ : Led} (keepS : ∀ t, S (n₀ ++ t))
    (turn : ∀ v d I oI C oC D oD m₂ nx h tk E', R nx v d → (∀ p ∈ n₀, p ∈ nx) → LCg.NsObj oC m₂ → m₂ x = some v → Fr h₀ L h m → News h₀ L h ((I, oI) :: (C, oC) :: (D, oD) :: nx) → (∀ p ∈ nx, p.1 ≠ I) → (∀ p ∈ nx, p.1 ≠ C) → (∀ p ∈ nx, p.1 ≠ D) → @Ne Nat I C → @Ne Nat I D → @Ne Nat C D →
      wpAny (model prog w) A (eval elt (compEnvC scope cl C env)) (CtEnd2 h₀ L m { s with heap := h, toks := tk } I oI C oC D oD nx (fun y n' => R' n' y (f d))) E' { s with heap := h, toks := tk }) :
    ∀ (ds : List δ) (vs ys : List Value) (es : List ε) (t : Led) (i : Nat), (∀ j v, P (i + j) v → vs[j]? = some v) → All2 (R (n₀ ++ t)) vs ds → All2 (R' t) ys es → Up n₀ t →
      (∀ ys t, All2 (R' t) ys (es ++ ds.map f) → Up n₀ t → Fin ys (n₀ ++ t)) →
      LCg.CompRest prog w A h₀ L m env elt x scope cl s S P Fin vs.length i ys (n₀ ++ t) := by
  intro ds
  induction ds with
  | nil =>
    intro vs ys es t i _ ha hy U fin
    obtain rfl := ha.nil_inv
    exact LCg.CompRest.zero (fin ys t (by simpa using hy) U)
  | cons d ds ih =>
    intro vs ys es t i hP ha hy U fin
    obtain ⟨v, us, rfl, hv, hu⟩ := All2.cons_inv ha
    refine LCg.CompRest.succ ?_
    intro v' I oI C oC D m₂ h tk E' hPv hC hx F N off ne
    have e : v = v' := by have := hP 0 v' hPv; simpa using this
    subst e
    have o3 := off.mem
    refine wpAny_mono (turn v d I oI C oC D _ m₂ _ h tk E' hv (fun p hp => List.mem_append.mpr (.inl hp)) hC hx F N (fun p hp => (o3 p hp).1) (fun p hp => (o3 p hp).2.1) (fun p hp => (o3 p hp).2.2) ne.1 ne.2.1 ne.2.2) (fun y s₂ hq => ?_) fun _ _ e => e
    obtain ⟨h', tk', t', e, F', N', U', hr⟩ := hq
    have o4 : ∀ p ∈ (n₀ ++ t) ++ t', p.1 ≠ I ∧ p.1 ≠ C ∧ p.1 ≠ D := fun p hp => (List.mem_append.mp hp).elim (o3 p) fun hp => ⟨Ne.symm (U' (I, oI) (.head _) p hp), Ne.symm (U' (C, oC) (.tail _ (.head _)) p hp), Ne.symm (U' (D, LCg.lst ys) (.tail _ (.tail _ (.head _))) p hp)⟩
    refine ⟨h', tk', (n₀ ++ t) ++ t', e, F', N', LCg.Off3.of o4, by rw [List.append_assoc]; exact keepS _, ?_⟩
    have sub : ∀ p ∈ n₀ ++ t, p ∈ n₀ ++ (t ++ t') := fun p hp => by rw [← List.append_assoc]; exact List.mem_append.mpr (.inl hp)
    have := ih us (ys ++ [y]) (es ++ [f d]) (t ++ t') (i + 1) (fun j w hw => by have := hP (j + 1) w (by rw [show i + (j + 1) = i + 1 + j by omega]; exact hw); simpa using this) (hu.imp fun v d h => hR _ _ v d h sub)
      ((hy.imp fun v d h => hR' _ _ v d h fun p hp => List.mem_append.mpr (.inl hp)).append (All2.one (hR' _ _ _ _ hr fun p hp => List.mem_append.mpr (.inr hp)))) (Up.app U fun q hq p hp => U' q (.tail _ (.tail _ (.tail _ (List.mem_append.mpr (.inl hq))))) p hp) (fun ys t h U => fin ys t (by simpa using h) U)
    rw [List.append_assoc]
    exact this
theorem comp_map2 {δ ε : Type} {R : Led → Value → δ → Prop} {R' : Led → Value → ε → Prop} (f : δ → ε) (hR : ∀ n n' v d, R n v d → (∀ p ∈ n, p ∈ n') → R n' v d) (hR' : ∀ n n' v d, R' n v d → (∀ p ∈ n, p ∈ n') → R' n' v d)
    {S : Led → Prop} {Fin : List Value → Led → Prop} {n₀ : Led} {ds : List δ} {vs : List Value} (ha : All2 (R n₀) vs ds) (keepS : ∀ t, S (n₀ ++ t))
    (turn : ∀ v d I oI C oC D oD m₂ nx h tk E', R nx v d → (∀ p ∈ n₀, p ∈ nx) → LCg.NsObj oC m₂ → m₂ x = some v → Fr h₀ L h m → News h₀ L h ((I, oI) :: (C, oC) :: (D, oD) :: nx) → (∀ p ∈ nx, p.1 ≠ I) → (∀ p ∈ nx, p.1 ≠ C) → (∀ p ∈ nx, p.1 ≠ D) → @Ne Nat I C → @Ne Nat I D → @Ne Nat C D →
      wpAny (model prog w) A (eval elt (compEnvC scope cl C env)) (CtEnd2 h₀ L m { s with heap := h, toks := tk } I oI C oC D oD nx (fun y n' => R' n' y (f d))) E' { s with heap := h, toks := tk })
    (fin : ∀ ys t, All2 (R' t) ys (ds.map f) → Up n₀ t → Fin ys (n₀ ++ t)) :
    LCg.CompRest prog w A h₀ L m env elt x scope cl s S (fun i v => vs.toArray[i]? = some v) Fin vs.toArray.size 0 [] n₀ := by
  have := comp_fold2 (P := fun i v => vs.toArray[i]? = some v) (Fin := Fin) f hR hR' keepS turn ds vs [] [] [] 0 (fun j v h => by simpa using h) (by rw [List.append_nil]; exact ha) trivial Up.nil fin
  rw [List.append_nil] at this
  exact this
end
theorem reg_P18_each_0 : True := by
  k_with "M:S cend2" => iterate 777 ((refine' ctEnd2 ?z9e1 ?z9e2 ?z9e3 ?z9e4 ?z9e5; (case z9e1 => k_asm); (case z9e2 => assumption); (case z9e3 => walk_at "S spl"); (case z9e4 => walk_at "S up"); (try simp only [List.nil_append, List.cons_append, List.append_assoc])))
  trivial
def PPathF {ρ : Type} (w : World) (R' : Led → Value → ρ → Prop) (path : PathD ρ) (r : Value) (n : Led) : Prop := PathIn w R' n r path
/-- what a turn makes of a point -/
def PTurn {ρ : Type} (R' : Led → Value → ρ → Prop) (d : ρ) (r : Value) (n : Led) : Prop := R' n r d
structure TurnOk {ρ : Type} (w : World) (n2 : Led) (fa : Addr) (S : Pt → Prop) (R' : Led → Value → ρ → Prop) (f : Pt → ρ) : Prop where
  fn : ∃ oc od fd sl, (fa, (⟨oc, od, .func fd, sl⟩ : Obj)) ∈ n2
  go : ∀ nx v d, PairIn w nx v d → S d → (∀ p ∈ n2, p ∈ nx) → Spec w 30 fa [v] nx (PTurn R' (f d))
theorem TurnOk.spec {ρ : Type} {w : World} {n1 n2 nx : Led} {fa : Addr} {S : Pt → Prop} {R' : Led → Value → ρ → Prop} {f : Pt → ρ} {v : Value} {d : Pt} (h : TurnOk w n2 fa S R' f) (hv : PairIn w n1 v d) (hs : S d) (s1 : ∀ p ∈ n1, p ∈ nx) (s2 : ∀ p ∈ n2, p ∈ nx) : Spec w 30 fa [v] nx (PTurn R' (f d)) := h.go nx v d (hv.mono s1) hs s2
theorem reg_P18_each_1 : True := by
  k_with "M:S spec" => iterate 777 (((refine' TurnOk.spec ?z9a ?z9b ?z9c ?z9d ?z9e); (case z9a => with_reducible assumption); (case z9b => with_reducible assumption); (case z9c => with_reducible assumption); (case z9d => walk_at "S sub"); (case z9e => walk_at "S sub")))
  k_with "M:S post" => iterate 777 ((with_reducible rename PTurn _ _ _ _ => z9hP))
  trivial
theorem below_succ {d : Addr} {l : Led} (h : ∀ q ∈ l, @LT.lt Nat _ q.1 d) : ∀ q ∈ l, @LT.lt Nat _ q.1 (d + 1) := fun q hq => Nat.lt_succ_of_lt (h q hq)
local macro_rules | `(tactic| walk_at "S below") => `(tactic| ((with_reducible refine' below_succ ?h); (case h => walk_at "S below")))
theorem each_spec {w : World} {ρ : Type} {R' : Led → Value → ρ → Prop} (hR' : MonoR R') {S : Pt → Prop} (f : Pt → ρ) {news n1 n2 : Led} {v : Value} {fa : Addr} {path : PathD Pt} (h : PathIn w (PairIn w) n1 v path) (s1 : ∀ p ∈ n1, p ∈ news) (s2 : ∀ p ∈ n2, p ∈ news) (hS : AllP S path)
    (hf : TurnOk w n2 fa S R' f) (ok : Small path) : Spec w 40 386 [v, .ref fa] news (PPathF w R' (mapD f path)) := by
  refine ⟨?_⟩
  intro prog p' loose mean mg mb dp un gd cn cs aa ccd cl outer A₀ base h₀ L m s Q E B F X N T hk hdp hun hret
  obtain ⟨x, dx, kt, pv, k, rfl, m1, m2, q, k', vs, rfl, hm, ha⟩ := PathIn.out h; clear h
  replace m1 := s1 _ m1
  replace m2 := s1 _ m2
  replace hm := s1 _ hm
  refine wpAny_call ?_
  k_dflt k_enter
  k_steps
  rename_i L' h3 tk3 FG B1 X1 T1 l0 oC dC lD h1 l1 h2 lF N1 I aI
  refine items_foldM (R := fun _ v d => PartIn (PairIn w) n1 v d) (fun ds o m n => (∃ vs k pre t', o = lstO vs k ∧ n = (L' + 1, oC) :: (news ++ t') ∧ All2 (PartIn R' t') vs (mapD f pre) ∧ pre ++ ds = path) ∧ (∃ a, ∀ y, m y = if y = Str.ofString "part" then a else if y = Str.ofString "parts" then some (Value.ref lD) else if y = Str.ofString "path" then some (Value.ref x) else none)) (fun _ _ _ _ h _ => h) ?_ ?_ path vs _ _ _ ha ?_ ?_ ?_ ?_ ?_
  · exact Nat.ne_of_lt (aI _ (.head _))
  · rintro v d ds m₁ o nx h tk' oI hv ⟨⟨vs', k2, pre, t', rfl, hnx, hac, heq⟩, ⟨a, hm'⟩⟩ F1 N2 o1 o2
    have hnews : ∀ p ∈ news, p ∈ nx := fun p hp => by rw [hnx]; simp [hp]
    have hcl0 : (L' + 1, oC) ∈ nx := by rw [hnx]; simp
    obtain ⟨q1, k1, ws, rfl, hm1, ha1⟩ := hv
    replace hm1 := hnews _ (s1 _ hm1)
    have F' := Fr_cast F1 hm'
    have hwz := ha1.length
    have z1 : ws.length ≤ 1000 := by
      have := (ok.part d (by rw [← heq]; simp)).1
      omega
    have z2 : vs'.length ≤ 1000 := by
      have e1 := hac.length
      have e2 := congrArg List.length heq
      have e3 := ok.len
      simp only [mapD, List.length_map, List.length_append] at e1 e2
      omega
    have ha2 : All2 (fun v sg => SegIn (PairIn w) n1 v sg ∧ (∀ p ∈ sg.2, S p) ∧ sg.2.length ≤ 3) ws d := by
      have hd : d ∈ path := by rw [← heq]; simp
      exact ha1.imp2 (S := fun sg => (∀ p ∈ sg.2, S p) ∧ sg.2.length ≤ 3) (fun sg hs => ⟨hS d hd sg hs, (ok.part d hd).2 sg hs⟩) fun v d a b => ⟨a, b⟩
    clear F1 hm' lF N1
    k_steps
    refine comp_map2 (R := fun _ v sg => SegIn (PairIn w) n1 v sg ∧ (∀ p ∈ sg.2, S p) ∧ sg.2.length ≤ 3) (R' := SegIn R') (fun sg => (sg.1, sg.2.map f)) (fun _ _ _ _ h _ => h) (SegIn.mono hR') ha2 (fun t => ?_) ?_ ?_
    · exact List.mem_append.mpr (.inl (by walk_at "S mem"))
    · rintro v3 d3 I3 oI3 C3 oC3 D3 oD3 m₃ nx3 h3 tk3 E3 ⟨hv3, hp3, hz3⟩ hs3 hC3 hx3 F3 N3 o3 o4 o5 i1 i2 i3
      obtain ⟨q4, k4, t4, us, rfl, hm4, ha4⟩ := hv3
      have hn3 : ∀ p ∈ news, p ∈ nx3 := fun p hp => hs3 p (by simp [hnews p hp])
      have hn1 : ∀ p ∈ n1, p ∈ nx3 := fun p hp => hn3 p (s1 p hp)
      have hn2 : ∀ p ∈ n2, p ∈ nx3 := fun p hp => hn3 p (s2 p hp)
      have hcl : (L' + 1, oC) ∈ nx3 := hs3 _ (by simp [hcl0])
      replace hm4 := hn1 _ hm4
      have z4 : us.length ≤ 3 := by rw [ha4.length]; exact hz3
      have ha5 : All2 (fun v p => PairIn w n1 v p ∧ S p) us d3.2 := ha4.imp2 hp3 fun v d a b => ⟨a, b⟩
      k_steps
      refine comp_map2 (R := fun _ v p => PairIn w n1 v p ∧ S p) (R' := R') f (fun _ _ _ _ h _ => h) hR' ha5 (fun t => ?_) ?_ ?_
      · exact List.mem_append.mpr (.inl (by walk_at "S mem"))
      · rintro v6 d6 I6 oI6 C6 oC6 D6 oD6 m₆ nx6 h6 tk6 E6 ⟨hv6, hp6⟩ hs6 hC6 hx6 F6 N6 o3 o4 o5 i1 i2 i3
        have hm1' : ∀ p ∈ n1, p ∈ nx6 := fun p hp => hs6 p (by simp [hn1 p hp])
        have hm2' : ∀ p ∈ n2, p ∈ nx6 := fun p hp => hs6 p (by simp [hn2 p hp])
        have hcl6 : (L' + 1, oC) ∈ nx6 := hs6 _ (by simp [hcl])
        obtain ⟨oc9, od9, fd9, sl9, hfn⟩ := hf.fn
        replace hfn := hm2' _ hfn
        k_steps
        k_dflt (refine' callWith_F (FnAt.of N6 (List.mem_cons_of_mem _ (List.mem_cons_of_mem _ (List.mem_cons_of_mem _ hfn)))) ?_)
        k_steps
        walk_at "S cend2"
        assumption
      · intro ys6 t6 hy6 up6
        have z7 := hy6.length
        simp only [List.length_map] at z7
        have z8 : ys6.length ≤ 1000 := by omega
        k_steps
        walk_at "S cend2"
        exact ⟨_, _, _, _, rfl, AddAt.use (by assumption) (by walk_at "S mem") (by walk_at "S mem") (by walk_at "S sub"), hy6.imp fun v d h => hR' _ _ _ _ h (by walk_at "S sub")⟩
    · intro ys t2 hys up2
      have z5 := hys.length
      simp only [List.length_map] at z5
      have z6 : ys.length ≤ 1000 := by rw [z5, ← hwz]; exact z1
      replace up2 : ∀ q ∈ (I, oI) :: (lD, lstO vs' k2) :: nx, ∀ p ∈ t2, @Ne Nat q.1 p.1 := up2
      k_steps
      walk_at "S mturn"
      refine ⟨⟨_, _, pre ++ [d], t' ++ _, rfl, by rw [hnx]; simp; rfl, ?_, by rw [← heq]; simp⟩, ⟨_, by walk_at "S map"⟩⟩
      rw [show mapD f (pre ++ [d]) = mapD f pre ++ [d.map fun sg => (sg.1, sg.2.map f)] by simp [mapD]]
      exact (hac.imp fun v d h => PartIn.mono hR' _ _ _ _ h (by walk_at "S sub")).append (All2.one ⟨_, _, _, rfl, by walk_at "S mem", hys.imp fun v d h => SegIn.mono hR' _ _ _ _ h (by walk_at "S sub")⟩)
  · exact ⟨⟨[], 0, [], [], rfl, by simp, trivial, rfl⟩, ⟨none, fun y => by
      with_unfolding_all show (if y = Str.ofString "parts" then some (Value.ref lD) else if y = Str.ofString "path" then some (Value.ref x) else none) = _
      by_cases h : y = Str.ofString "part"
      · subst h; with_unfolding_all rfl
      · rw [if_neg h]⟩⟩
  · exact ⟨by walk_at "S mem", trivial⟩
  · exact fun p hp => Nat.ne_of_lt (aI p (.tail _ hp))
  · exact ne_consL (c := (_, _)) (Nat.ne_of_lt l1.1) (by walk_at "S off")
  · rintro m' o' t h tk ⟨⟨vs', k2, pre, t', rfl, ht, hac, heq⟩, ⟨a, hm'⟩⟩ F1 N2 o1 U
    obtain rfl : t = t' := by simpa using ht
    have F' := Fr_cast F1 hm'
    have z2 : vs'.length ≤ 1000 := by
      have e1 := hac.length
      have e2 := congrArg List.length heq
      have e3 := ok.len
      simp only [mapD, List.length_map, List.length_append] at e1 e2
      omega
    clear F1 hm' lF N1
    k_steps
    walk_at "S end"
    obtain rfl : pre = path := by simpa using heq
    exact ⟨_, _, _, _, _, rfl, by walk_at "S memf", by walk_at "S memf", _, _, _, rfl, by walk_at "S memf", hac.imp fun v d h => PartIn.mono hR' _ _ _ _ h (by walk_at "S sub")⟩

-- 18b_turn
/-- where a walk is to halt -/
structure Stop (p : Prop) : Prop where
  go : p
theorem reg_P18b_turn_0 : True := by
  k_with "K:kla_enter" => iterate 777 ((refine' kla_code ?z9k1 ?z9k2 ?z9k3 ?z9k4 ?z9k5 ?z9kA ?z9kF ?z9kK ?z9k6 ?z9k7 ?z9k8 ?z9k9 ?z9kB ?_ ?z9c2 ?z9c3 ?z9c4 ?z9c5; (case z9kA => exact rfl); (case z9kF => exact rfl); (case z9kK => first | assumption | exact rfl); (case z9k1 => k_asm); (case z9k2 => k_asm); (case z9k3 => k_asm); (case z9k4 => k_asm); (case z9k5 => k_asm); (case z9k6 => k_mem); (case z9k7 => exact codeRec_news (by k_asm) (by k_mem) (by assumption) (by assumption)); (case z9k8 => k_room); (case z9k9 => exact rfl); (case z9c5 => decide); (case z9kB => exact locs rfl); (case z9c2 => exact rfl); (case z9c3 => exact rfl); (case z9c4 => exact rfl); k_whole; intro z9g' z9L' z9h' z9FG' z9F' z9N' z9B' z9X' z9T'; (try dsimp only); (try k_lift z9B'); (try k_fold)))
  k_with "M:call ref" => iterate 777 ((k_here; (with_reducible show wpAny _ _ (call (Value.ref 386) _) _ _ _); refine Stop.go ?_))
  trivial
/-- a code table: empty, or with the one lambda's code -/
def TabOk (line col : Nat) (qual : Str) (l : Led) (o : Obj) : Prop :=
  o = tabObj #[] ∨ ∃ (c : Addr) (oc : Obj) (vs : Array Value) (t : Tok), o = tabObj #[rawInt line, rawInt col, .ref c] ∧ (c, oc) ∈ l ∧ oc.data = .fields vs ∧ vs[1]? = some (.str qual t)
theorem TabOk.mono {line col : Nat} {qual : Str} {l l' : Led} {o : Obj} (h : TabOk line col qual l o) (hs : ∀ p ∈ l, p ∈ l') : TabOk line col qual l' o := by
  rcases h with h | ⟨c, oc, vs, t, e, m, d, v⟩
  · exact .inl h
  · exact .inr ⟨c, oc, vs, t, e, hs _ m, d, v⟩
theorem ledOf {l : Led} {P : Prop} {h₀ h : Heap} {L : Addr} (_ : News h₀ L h l) (k : ∀ n, n = l → P) : P := k l rfl
theorem mem1 {l n : Led} {a : Addr × Obj} {r : Led} (h : ∀ p ∈ n, p ∈ l) (e : n = a :: r) : a ∈ l := h a (e ▸ List.mem_cons_self)
theorem mem2 {l n : Led} {a b : Addr × Obj} {r : Led} (h : ∀ p ∈ n, p ∈ l) (e : n = a :: b :: r) : a ∈ l ∧ b ∈ l := ⟨h a (e ▸ List.mem_cons_self), h b (e ▸ List.mem_cons_of_mem _ List.mem_cons_self)⟩
theorem mem3 {l n : Led} {a b c : Addr × Obj} {r : Led} (h : ∀ p ∈ n, p ∈ l) (e : n = a :: b :: c :: r) : a ∈ l ∧ b ∈ l ∧ c ∈ l := ⟨h a (e ▸ List.mem_cons_self), h b (e ▸ List.mem_cons_of_mem _ List.mem_cons_self), h c (e ▸ List.mem_cons_of_mem _ (List.mem_cons_of_mem _ List.mem_cons_self))⟩
def PTrans (w : World) (line col : Nat) (qual : Str) (n3 : Led) (path : PathD Pt) (r : Value) (o : Obj) (n : Led) : Prop := PathIn w (PairIn w) n r path ∧ TabOk line col qual (n3 ++ n) o
def PTold (line col : Nat) (qual : Str) (n3 : Led) (path : PathD ((Int × Int) × (Int × Int))) (r : Value) (o : Obj) (n : Led) : Prop := PartsIn TPt n r path ∧ TabOk line col qual (n3 ++ n) o
abbrev qTrans : Str := ((Str.ofString "transformed") ++ ".<locals>.") ++ Str.ofString "<lambda>"
abbrev qTold : Str := ((Str.ofString "told_path") ++ ".<locals>.") ++ Str.ofString "<lambda>"
theorem told_path_spec {w : World} {news n1 n3 : Led} {v : Value} {path : PathD Pt} {o : Obj} (h : PathIn w (PairIn w) n1 v path) (s1 : ∀ p ∈ n1, p ∈ news) (s3 : ∀ p ∈ n3, p ∈ news) (ok : Small path) (ho : TabOk 201 28 qTold n3 o) :
    SpecM w 46 400 [v] (fun h => CodeHd h 399 395) 395 o news (PTold 201 28 qTold n3 (mapD tolP path)) := by
  refine ⟨?_⟩
  intro prog p' loose mean mg mb dp un gd cn cs aa ccd cl outer A₀ base h₀ L m s Q E B F X N off T hC hk hdp hun hret
  replace hC : CodeHd base 399 395 := hC
  have hh := h
  obtain ⟨x, dx, kt, pv, k, rfl, m1, m2, q, k', vs, rfl, hm, ha⟩ := PathIn.out h; clear h
  rcases ho with rfl | ⟨c, oc, vs, t, rfl, mc, dc, vc⟩
  · refine wpAny_call ?_
    k_dflt k_enter
    k_steps
    rename_i f1 c1 oc1 vs1 t1 ct1 h1 tk1 F1 N1 d1 d2 l1 l2
    refine ledOf N1 fun n hn => ?_
    have hT : TurnOk w n f1 (fun _ => True) TPt tolP := by
      refine ⟨⟨_, _, _, _, hn ▸ List.mem_cons_self⟩, fun nx v d hv _ hs => ?_⟩
      obtain ⟨e1, e2⟩ := mem2 hs hn
      clear hret N N1 F1 hn F hs
      refine ⟨?_⟩
      intro prog2 p2 loose2 mean2 mg2 mb2 dp2 un2 gd2 cn2 cs2 aa2 ccd2 cl2 outer2 A2 base2 g2 L2 m2' s2 Q2 E2 B2 F2 X2 N2 T2 hk2 hdp2 hun2 hret2
      obtain ⟨q6, a6, b6, k6, rfl, mq6, ha6, hb6⟩ := hv
      have ha7 := ha6
      have hb7 := hb6
      obtain ⟨_, _, _, _, _, _, _, rfl, _, _⟩ := DecIn.out ha7; clear ha7
      obtain ⟨_, _, _, _, _, _, _, rfl, _, _⟩ := DecIn.out hb7; clear hb7
      refine wpAny_call ?_
      kla_enter
      k_steps
      walk_at "S end"
      exact ⟨_, _, _, _, rfl, by walk_at "S mem", ⟨_, _, _, _, rfl, by dsimp only [tolP, tolD]; walk_at "S memf"⟩, ⟨_, _, _, _, rfl, by dsimp only [tolP, tolD]; walk_at "S memf"⟩⟩
    refine ⟨?_⟩
    k_dflt (refine' Spec.use ?k1 ?k2 ?k3 ?k4 ?k5 ?kK (each_spec (R' := TPt) TPt.mono (S := fun _ => True) tolP hh ?s1 ?s2 (fun _ _ _ _ _ _ => trivial) hT ok) ?kd ?ku ?_; (case k2 => k_asm); (case k3 => k_asm); (case k4 => k_asm); (case k1 => k_asm); (case k5 => k_asm); (case kK => first | exact rfl | assumption); (case kd => ktr_room); (case ku => ktr_units); (case s1 => walk_at "S sub"); (case s2 => exact fun p hp => hn ▸ hp))
    intro r2 tl2 h2 tk2 F2 N2 up2 P2
    obtain ⟨x9, dx9, kt9, pv9, k9, rfl, hm9, hm10, hP9⟩ := P2
    have hP8 := hP9
    obtain ⟨q9, kk9, vs9, rfl, hm11, ha9⟩ := hP8
    (try simp only [List.nil_append, List.cons_append, List.append_assoc] at N2)
    clear N1 F1
    dsimp only
    k_steps
    walk_at "S mend"
    refine ⟨PartsIn.mono TPt.mono _ _ _ _ hP9 (by walk_at "S sub"), ?_⟩
    exact .inr ⟨c1, oc1, vs1, t1, rfl, by walk_at "S mem", d1, d2⟩
  · have mc' := s3 _ mc
    refine wpAny_call ?_
    k_dflt k_enter
    k_steps
    rename_i f1 ct1 h1 tk1 F1 N1 l1
    refine ledOf N1 fun n hn => ?_
    have hT : TurnOk w n f1 (fun _ => True) TPt tolP := by
      refine ⟨⟨_, _, _, _, hn ▸ List.mem_cons_self⟩, fun nx v d hv _ hs => ?_⟩
      have e1 := mem1 hs hn
      have e2 : (c, oc) ∈ nx := hs _ (hn ▸ List.mem_cons_of_mem _ (List.mem_cons_of_mem _ mc'))
      clear hret N N1 F1 hn F hs
      refine ⟨?_⟩
      intro prog2 p2 loose2 mean2 mg2 mb2 dp2 un2 gd2 cn2 cs2 aa2 ccd2 cl2 outer2 A2 base2 g2 L2 m2' s2 Q2 E2 B2 F2 X2 N2 T2 hk2 hdp2 hun2 hret2
      obtain ⟨q6, a6, b6, k6, rfl, mq6, ha6, hb6⟩ := hv
      have ha7 := ha6
      have hb7 := hb6
      obtain ⟨_, _, _, _, _, _, _, rfl, _, _⟩ := DecIn.out ha7; clear ha7
      obtain ⟨_, _, _, _, _, _, _, rfl, _, _⟩ := DecIn.out hb7; clear hb7
      refine wpAny_call ?_
      kla_enter
      k_steps
      walk_at "S end"
      exact ⟨_, _, _, _, rfl, by walk_at "S mem", ⟨_, _, _, _, rfl, by dsimp only [tolP, tolD]; walk_at "S memf"⟩, ⟨_, _, _, _, rfl, by dsimp only [tolP, tolD]; walk_at "S memf"⟩⟩
    refine ⟨?_⟩
    k_dflt (refine' Spec.use ?k1 ?k2 ?k3 ?k4 ?k5 ?kK (each_spec (R' := TPt) TPt.mono (S := fun _ => True) tolP hh ?s1 ?s2 (fun _ _ _ _ _ _ => trivial) hT ok) ?kd ?ku ?_; (case k2 => k_asm); (case k3 => k_asm); (case k4 => k_asm); (case k1 => k_asm); (case k5 => k_asm); (case kK => first | exact rfl | assumption); (case kd => ktr_room); (case ku => ktr_units); (case s1 => walk_at "S sub"); (case s2 => exact fun p hp => hn ▸ hp))
    intro r2 tl2 h2 tk2 F2 N2 up2 P2
    obtain ⟨x9, dx9, kt9, pv9, k9, rfl, hm9, hm10, hP9⟩ := P2
    have hP8 := hP9
    obtain ⟨q9, kk9, vs9, rfl, hm11, ha9⟩ := hP8
    (try simp only [List.nil_append, List.cons_append, List.append_assoc] at N2)
    clear N1 F1
    dsimp only
    k_steps
    walk_at "S mend"
    refine ⟨PartsIn.mono TPt.mono _ _ _ _ hP9 (by walk_at "S sub"), ?_⟩
    exact .inr ⟨c, oc, vs, t, rfl, by walk_at "S mem", dc, vc⟩

-- 18c_trans
theorem transformed_spec {w : World} {news n1 n2 n3 : Led} {v v2 : Value} {M : Mat} {path : PathD Pt} {o : Obj} (h : PathIn w (PairIn w) n1 v path) (s1 : ∀ p ∈ n1, p ∈ news) (h2 : MatIn w n2 v2 M) (s2 : ∀ p ∈ n2, p ∈ news) (s3 : ∀ p ∈ n3, p ∈ news) (ok : Small path) (hS : AllP (fun p => AppOk M p.1 p.2) path) (ho : TabOk 199 28 qTrans n3 o) :
    SpecM w 46 393 [v, v2] (fun h => CodeHd h 392 388) 388 o news (PTrans w 199 28 qTrans n3 (mapD (appD M) path)) := by
  refine ⟨?_⟩
  intro prog p' loose mean mg mb dp un gd cn cs aa ccd cl outer A₀ base h₀ L m s Q E B F X N off T hC hk hdp hun hret
  replace hC : CodeHd base 392 388 := hC
  have hh := h
  have hM := h2
  obtain ⟨x, dx, kt, pv, k, rfl, m1, m2, q, k', vs, rfl, hm, ha⟩ := PathIn.out h; clear h
  obtain ⟨xM, _, _, _, _, _, _, _, _, _, _, _, _, _, _, rfl, _⟩ := h2
  rcases ho with rfl | ⟨c, oc, vs, t, rfl, mc, dc, vc⟩
  · refine wpAny_call ?_
    k_dflt k_enter
    k_steps
    rename_i L' h3 tk3 FG F3 B1 X1 T1 l0 oC dC N3 f1 c1 oc1 vs1 t1 ct1 h1 tk1 F1 N1 d1 d2 l1 l2
    refine ledOf N1 fun n hn => ?_
    have hT : TurnOk w n f1 (fun p => AppOk M p.1 p.2) (PairIn w) (appD M) := by
      refine ⟨⟨_, _, _, _, hn ▸ List.mem_cons_self⟩, fun nx v d hv hsd hs => ?_⟩
      obtain ⟨e1, e2, e3⟩ := mem3 hs hn
      have hM2 := hM.mono fun p hp => hs _ (hn ▸ List.mem_cons_of_mem _ (List.mem_cons_of_mem _ (List.mem_cons_of_mem _ (List.mem_cons_of_mem _ (s2 p hp)))))
      have hok : AppOk M d.1 d.2 := hsd
      clear hret N N1 N3 F1 F3 hn F hs hsd
      refine ⟨?_⟩
      intro prog2 p2 loose2 mean2 mg2 mb2 dp2 un2 gd2 cn2 cs2 aa2 ccd2 cl2 outer2 A2 base2 g2 L2 m2' s2 Q2 E2 B2 F2 X2 N2 T2 hk2 hdp2 hun2 hret2
      obtain ⟨q6, a6, b6, k6, rfl, mq6, ha6, hb6⟩ := hv
      have ha7 := ha6
      have hb7 := hb6
      have hM3 := hM2
      obtain ⟨_, _, _, _, _, _, _, rfl, _, _⟩ := DecIn.out ha7; clear ha7
      obtain ⟨_, _, _, _, _, _, _, rfl, _, _⟩ := DecIn.out hb7; clear hb7
      obtain ⟨_, _, _, _, _, _, _, _, _, _, _, _, _, _, _, hE9, g1, g2', _⟩ := MatIn.out hM3; clear hM3
      cases hE9
      refine wpAny_call ?_
      kla_enter
      k_steps
      walk_at "S end"
      show PairIn w _ _ (appD M (d.1, d.2))
      assumption
    refine ⟨?_⟩
    k_dflt (refine' Spec.use ?k1 ?k2 ?k3 ?k4 ?k5 ?kK (each_spec (R' := PairIn w) pairMono (S := fun p => AppOk M p.1 p.2) (appD M) hh ?s1 ?s2 hS hT ok) ?kd ?ku ?_; (case k2 => k_asm); (case k3 => k_asm); (case k4 => k_asm); (case k1 => k_asm); (case k5 => k_asm); (case kK => first | exact rfl | assumption); (case kd => ktr_room); (case ku => ktr_units); (case s1 => walk_at "S sub"); (case s2 => exact fun p hp => hn ▸ hp))
    intro r2 tl2 h2 tk2 F2 N2 up2 P2
    have hP9 : PathIn w (PairIn w) tl2 r2 (mapD (appD M) path) := P2
    obtain ⟨x9, dx9, kt9, pv9, k9, rfl, hm9, hm10, hP8⟩ := P2
    (try simp only [List.nil_append, List.cons_append, List.append_assoc] at N2)
    clear N1 F1 N3 F3
    dsimp only
    k_steps
    walk_at "S mend"
    refine ⟨PathIn.mono pairMono _ _ _ _ hP9 (by walk_at "S sub"), ?_⟩
    exact .inr ⟨c1, oc1, vs1, t1, rfl, by walk_at "S mem", d1, d2⟩
  · have mc' := s3 _ mc
    refine wpAny_call ?_
    k_dflt k_enter
    k_steps
    rename_i L' h3 tk3 FG F3 B1 X1 T1 l0 oC dC N3 f1 ct1 h1 tk1 F1 N1 l1
    refine ledOf N1 fun n hn => ?_
    have hT : TurnOk w n f1 (fun p => AppOk M p.1 p.2) (PairIn w) (appD M) := by
      refine ⟨⟨_, _, _, _, hn ▸ List.mem_cons_self⟩, fun nx v d hv hsd hs => ?_⟩
      obtain ⟨e1, e3⟩ := mem2 hs hn
      have e2 : (c, oc) ∈ nx := hs _ (hn ▸ List.mem_cons_of_mem _ (List.mem_cons_of_mem _ (List.mem_cons_of_mem _ (mc'))))
      have hM2 := hM.mono fun p hp => hs _ (hn ▸ List.mem_cons_of_mem _ (List.mem_cons_of_mem _ (List.mem_cons_of_mem _ (s2 p hp))))
      have hok : AppOk M d.1 d.2 := hsd
      clear hret N N1 N3 F1 F3 hn F hs hsd
      refine ⟨?_⟩
      intro prog2 p2 loose2 mean2 mg2 mb2 dp2 un2 gd2 cn2 cs2 aa2 ccd2 cl2 outer2 A2 base2 g2 L2 m2' s2 Q2 E2 B2 F2 X2 N2 T2 hk2 hdp2 hun2 hret2
      obtain ⟨q6, a6, b6, k6, rfl, mq6, ha6, hb6⟩ := hv
      have ha7 := ha6
      have hb7 := hb6
      have hM3 := hM2
      obtain ⟨_, _, _, _, _, _, _, rfl, _, _⟩ := DecIn.out ha7; clear ha7
      obtain ⟨_, _, _, _, _, _, _, rfl, _, _⟩ := DecIn.out hb7; clear hb7
      obtain ⟨_, _, _, _, _, _, _, _, _, _, _, _, _, _, _, hE9, g1, g2', _⟩ := MatIn.out hM3; clear hM3
      cases hE9
      refine wpAny_call ?_
      kla_enter
      k_steps
      walk_at "S end"
      show PairIn w _ _ (appD M (d.1, d.2))
      assumption
    refine ⟨?_⟩
    k_dflt (refine' Spec.use ?k1 ?k2 ?k3 ?k4 ?k5 ?kK (each_spec (R' := PairIn w) pairMono (S := fun p => AppOk M p.1 p.2) (appD M) hh ?s1 ?s2 hS hT ok) ?kd ?ku ?_; (case k2 => k_asm); (case k3 => k_asm); (case k4 => k_asm); (case k1 => k_asm); (case k5 => k_asm); (case kK => first | exact rfl | assumption); (case kd => ktr_room); (case ku => ktr_units); (case s1 => walk_at "S sub"); (case s2 => exact fun p hp => hn ▸ hp))
    intro r2 tl2 h2 tk2 F2 N2 up2 P2
    have hP9 : PathIn w (PairIn w) tl2 r2 (mapD (appD M) path) := P2
    obtain ⟨x9, dx9, kt9, pv9, k9, rfl, hm9, hm10, hP8⟩ := P2
    (try simp only [List.nil_append, List.cons_append, List.append_assoc] at N2)
    clear N1 F1 N3 F3
    dsimp only
    k_steps
    walk_at "S mend"
    refine ⟨PathIn.mono pairMono _ _ _ _ hP9 (by walk_at "S sub"), ?_⟩
    exact .inr ⟨c, oc, vs, t, rfl, by walk_at "S mem", dc, vc⟩

-- 20_math
/-- a Decimal's value -/
def qD (d : Dec) : Rat := (d.t : Rat) / (10 : Rat) ^ d.p
def CanD (d : Dec) : Prop := d.p = 0 ∨ d.t % 10 ≠ 0
theorem ten_ne (n : Nat) : (10 : Rat) ^ n ≠ 0 := by
  induction n with
  | zero => decide
  | succ n ih => rw [Rat.pow_succ]; exact fun h => by rcases Rat.mul_eq_zero.mp h with h | h; exact ih h; exact absurd h (by decide)
theorem tpow_add (m n : Nat) : (10 : Rat) ^ (m + n) = (10 : Rat) ^ m * (10 : Rat) ^ n := by
  induction n with
  | zero => rw [Nat.add_zero, Rat.pow_zero, Rat.mul_one]
  | succ n ih => rw [← Nat.add_assoc, Rat.pow_succ, Rat.pow_succ, ih, Rat.mul_assoc]
theorem normN_val : ∀ (p : Nat) (t : Int), qD (normN t p) = (t : Rat) / (10 : Rat) ^ p
  | 0, t => rfl
  | p + 1, t => by
    unfold normN
    split
    · rename_i h
      rw [normN_val p (t / 10)]
      have e : t = (t / 10) * 10 := by omega
      have e2 : (t : Rat) = ((t / 10 : Int) : Rat) * 10 := by
        have := congrArg (fun x : Int => (x : Rat)) e
        simp only [Rat.intCast_mul] at this
        exact this
      rw [e2, Rat.pow_succ]
      have := ten_ne p
      grind
    · rfl
theorem normN_can : ∀ (p : Nat) (t : Int), CanD (normN t p)
  | 0, t => .inl rfl
  | p + 1, t => by
    unfold normN
    split
    · exact normN_can p _
    · exact .inr (by assumption)
theorem can_of {a b : Dec} (hb : CanD b) (n : Nat) (hp : b.p = a.p + n) (h : a.t * 10 ^ n = b.t) : a = b := by
  cases n with
  | zero =>
    cases a; cases b
    simp at hp h
    subst hp; subst h; rfl
  | succ n =>
    rcases hb with hb | hb
    · omega
    · exfalso; apply hb; rw [← h, Int.pow_succ, ← Int.mul_assoc]; exact Int.mul_emod_left _ _
theorem castInj {a b : Int} (h : (a : Rat) = (b : Rat)) : a = b := by exact_mod_cast h
theorem cast_pow (n : Nat) : (((10 : Int) ^ n : Int) : Rat) = (10 : Rat) ^ n := by
  induction n with
  | zero => rfl
  | succ n ih => rw [Int.pow_succ, Rat.pow_succ, Rat.intCast_mul, ih]; rfl
theorem cross {a b : Dec} {n : Nat} (hp : b.p = a.p + n) (h : qD a = qD b) : a.t * 10 ^ n = b.t := by
  apply castInj
  rw [Rat.intCast_mul, cast_pow]
  unfold qD at h
  rw [hp, tpow_add] at h
  have h1 := ten_ne a.p
  have h2 := ten_ne n
  grind
theorem can_ext {a b : Dec} (ha : CanD a) (hb : CanD b) (h : qD a = qD b) : a = b := by
  by_cases hp : a.p ≤ b.p
  · obtain ⟨n, hn⟩ := Nat.exists_eq_add_of_le hp
    exact can_of hb n hn (cross hn h)
  · obtain ⟨n, hn⟩ := Nat.exists_eq_add_of_le (Nat.le_of_lt (Nat.lt_of_not_le hp))
    exact (can_of ha n hn (cross hn h.symm)).symm
theorem mulD_val (a b : Dec) : qD (mulD a b) = qD a * qD b := by
  unfold mulD
  rw [normN_val]
  have e : ((a.p : Int) + (b.p : Int)).toNat = a.p + b.p := by omega
  rw [e, tpow_add, Rat.intCast_mul]
  unfold qD
  have h1 := ten_ne a.p
  have h2 := ten_ne b.p
  grind
theorem scaled_val (d : Dec) (m : Int) (h : 0 ≤ m - d.p) : ((d.t * 10 ^ (m - d.p).toNat : Int) : Rat) / (10 : Rat) ^ m.toNat = qD d := by
  obtain ⟨n, hn⟩ : ∃ n : Nat, m = d.p + n := ⟨(m - d.p).toNat, by omega⟩
  subst hn
  have e1 : ((d.p : Int) + n - d.p).toNat = n := by omega
  have e2 : ((d.p : Int) + n).toNat = d.p + n := by omega
  rw [e1, e2, tpow_add, Rat.intCast_mul, cast_pow]
  unfold qD
  have h1 := ten_ne d.p
  have h2 := ten_ne n
  grind
theorem plusD_val (a b : Dec) : qD (plusD a b) = qD a + qD b := by
  unfold plusD
  obtain ⟨f1, f2, _, _⟩ := max_facts a b
  rw [normN_val, Rat.intCast_add, Rat.div_def, Rat.add_mul, ← Rat.div_def, ← Rat.div_def, scaled_val a _ f1, scaled_val b _ f2]
theorem minusD_val (a b : Dec) : qD (minusD a b) = qD a - qD b := by
  unfold minusD
  obtain ⟨f1, f2, _, _⟩ := max_facts a b
  have e1 := scaled_val a _ f1
  have e2 := scaled_val b _ f2
  have := ten_ne (maxP a b).toNat
  rw [normN_val, Rat.intCast_sub]
  grind
theorem ten_pos (n : Nat) : (0 : Rat) < (10 : Rat) ^ n := by
  induction n with
  | zero => decide
  | succ n ih => rw [Rat.pow_succ]; exact Rat.mul_pos ih (by decide)
theorem diff_val (a b : Dec) : ((oneS a b - twoS a b : Int) : Rat) = (qD a - qD b) * (10 : Rat) ^ (maxP a b).toNat := by
  obtain ⟨f1, f2, _, _⟩ := max_facts a b
  have e1 := scaled_val a _ f1
  have e2 := scaled_val b _ f2
  have := ten_ne (maxP a b).toNat
  rw [Rat.intCast_sub]
  grind
theorem cmp_pos (a b : Dec) : cmpD a b > 0 ↔ qD b < qD a := by
  have e := diff_val a b
  have hp := ten_pos (maxP a b).toNat
  unfold cmpD
  generalize oneS a b - twoS a b = x at e
  have : (0 : Int) < x ↔ qD b < qD a := by
    rw [← Rat.intCast_pos, e]
    constructor
    · intro h
      apply Classical.byContradiction
      intro h'
      have h3 : qD a - qD b ≤ 0 := by grind
      have h4 := Rat.mul_nonneg (a := - (qD a - qD b)) (b := (10 : Rat) ^ (maxP a b).toNat) (by grind) (Rat.le_of_lt hp)
      grind
    · intro h
      exact Rat.mul_pos (by grind) hp
  rw [← this]
  split
  · omega
  · split <;> omega
theorem cmp_neg (a b : Dec) : cmpD a b < 0 ↔ qD a < qD b := by
  have e := diff_val a b
  have hp := ten_pos (maxP a b).toNat
  unfold cmpD
  generalize oneS a b - twoS a b = x at e
  have : x < (0 : Int) ↔ qD a < qD b := by
    have : x < 0 ↔ 0 < -x := by omega
    rw [this, ← Rat.intCast_pos, Rat.intCast_neg, e]
    constructor
    · intro h
      apply Classical.byContradiction
      intro h'
      have h4 := Rat.mul_nonneg (a := (qD a - qD b)) (b := (10 : Rat) ^ (maxP a b).toNat) (by grind) (Rat.le_of_lt hp)
      grind
    · intro h
      have := Rat.mul_pos (a := qD b - qD a) (b := (10 : Rat) ^ (maxP a b).toNat) (by grind) hp
      grind
  rw [← this]
  split
  · omega
  · split <;> omega
theorem mulD_can (a b : Dec) : CanD (mulD a b) := normN_can _ _
theorem plusD_can (a b : Dec) : CanD (plusD a b) := normN_can _ _
theorem minusD_can (a b : Dec) : CanD (minusD a b) := normN_can _ _
theorem dI_can (i : Int) : CanD (dI i) := .inl rfl
theorem dI_val (i : Int) : qD (dI i) = (i : Rat) := by
  show (i : Rat) / (10 : Rat) ^ 0 = i
  grind
def CanP (p : Pt) : Prop := CanD p.1 ∧ CanD p.2
theorem appD_can (M : Mat) (p : Pt) : CanP (appD M p) := ⟨plusD_can _ _, plusD_can _ _⟩
theorem canP_ext {a b : Pt} (ha : CanP a) (hb : CanP b) (h1 : qD a.1 = qD b.1) (h2 : qD a.2 = qD b.2) : a = b := Prod.ext (can_ext ha.1 hb.1 h1) (can_ext ha.2 hb.2 h2)
theorem appD_val (M : Mat) (p : Pt) : qD (appD M p).1 = qD M.a * qD p.1 + qD M.c * qD p.2 + qD M.e ∧ qD (appD M p).2 = qD M.b * qD p.1 + qD M.d * qD p.2 + qD M.f := by
  unfold appD
  simp only [plusD_val, mulD_val]
  exact ⟨trivial, trivial⟩
/-- moved by one and then by the other: moved by the product -/
theorem appD_mul (M N : Mat) (p : Pt) : appD N (appD M p) = appD (mulM M N) p := by
  have h1 := appD_val M p
  have h2 := appD_val N (appD M p)
  have h3 := appD_val (mulM M N) p
  have h4 := appD_val N (M.e, M.f)
  refine canP_ext (appD_can _ _) (appD_can _ _) ?_ ?_
  · rw [h2.1, h3.1, h1.1, h1.2]
    unfold mulM
    simp only [plusD_val, mulD_val, h4.1]
    grind
  · rw [h2.2, h3.2, h1.1, h1.2]
    unfold mulM
    simp only [plusD_val, mulD_val, h4.2]
    grind
abbrev idM : Mat := ⟨dI 1, dI 0, dI 0, dI 1, dI 0, dI 0⟩
abbrev qtM : Mat := ⟨dI 0, dI 1, dI (-1), dI 0, dI 0, dI 0⟩
theorem appD_id {p : Pt} (h : CanP p) : appD idM p = p := by
  have h1 := appD_val idM p
  refine canP_ext (appD_can _ _) h ?_ ?_
  · rw [h1.1]; simp only [dI_val]; grind
  · rw [h1.2]; simp only [dI_val]; grind
theorem appD_qt4 {p : Pt} (h : CanP p) : appD qtM (appD qtM (appD qtM (appD qtM p))) = p := by
  have h1 := appD_val qtM p
  have h2 := appD_val qtM (appD qtM p)
  have h3 := appD_val qtM (appD qtM (appD qtM p))
  have h4 := appD_val qtM (appD qtM (appD qtM (appD qtM p)))
  simp only [dI_val] at h1 h2 h3 h4
  refine canP_ext (appD_can _ _) h ?_ ?_
  · rw [h4.1, h3.1, h3.2, h2.1, h2.2, h1.1, h1.2]; grind
  · rw [h4.2, h3.1, h3.2, h2.1, h2.2, h1.1, h1.2]; grind
abbrev trM : Mat := ⟨dI 1, dI 0, dI 0, dI 1, dI (-5), dI 7⟩
abbrev scM : Mat := ⟨dI 2, dI 0, dI 0, dI 3, dI 0, dI 0⟩
def dueX (x : Dec) : Dec := minusD (mulD x (dI 2)) (dI 5)
def dueY (y : Dec) : Dec := plusD (mulD y (dI 3)) (dI 7)
theorem appD_box (p : Pt) : appD trM (appD scM p) = (dueX p.1, dueY p.2) := by
  have h1 := appD_val scM p
  have h2 := appD_val trM (appD scM p)
  simp only [dI_val] at h1 h2
  refine canP_ext (appD_can _ _) ⟨minusD_can _ _, plusD_can _ _⟩ ?_ ?_
  · rw [h2.1, h1.1, h1.2]
    simp only [dueX, minusD_val, mulD_val, dI_val]
    grind
  · rw [h2.2, h1.1, h1.2]
    simp only [dueY, plusD_val, mulD_val, dI_val]
    grind
theorem dueX_val (x : Dec) : qD (dueX x) = qD x * 2 - 5 := by
  simp only [dueX, minusD_val, mulD_val, dI_val]; rfl
theorem dueY_val (x : Dec) : qD (dueY x) = qD x * 3 + 7 := by
  simp only [dueY, plusD_val, mulD_val, dI_val]; rfl

-- 21_bounds
theorem normN_bd {k q : Nat} : ∀ (p : Nat) (t : Int), t.natAbs < 2 ^ k → p ≤ q → Bd k q (normN t p)
  | 0, t, h, hp => ⟨h, hp⟩
  | p + 1, t, h, hp => by
    unfold normN
    split
    · exact normN_bd p _ (by omega) (by omega)
    · exact ⟨h, hp⟩
theorem mulD_bd {i j p q : Nat} {a b : Dec} (ha : Bd i p a) (hb : Bd j q b) : Bd (i + j) (p + q) (mulD a b) := by
  refine normN_bd _ _ ?_ ?_
  · rw [Int.natAbs_mul, Nat.pow_add]
    exact Nat.mul_lt_mul'' ha.1 hb.1
  · have := ha.2; have := hb.2; omega
theorem scaled_bd {k q n : Nat} {t : Int} (h : t.natAbs < 2 ^ k) (hn : n ≤ q) : (t * 10 ^ n).natAbs < 2 ^ (k + 4 * q + 1) := by
  have h2 := Nat.lt_of_lt_of_le (pow_bits n) (Nat.pow_le_pow_right (by decide) (show 4 * n + 1 ≤ 4 * q + 1 by omega))
  rw [Int.natAbs_mul, Nat.add_assoc, Nat.pow_add]
  exact Nat.mul_lt_mul'' h h2
theorem plusD_bd {k q : Nat} {a b : Dec} (ha : Bd k q a) (hb : Bd k q b) : Bd (k + 4 * q + 2) q (plusD a b) := by
  obtain ⟨f1, f2, f3, f4⟩ := max_facts a b
  have g1 := ha.2
  have g2 := hb.2
  have e1 := scaled_bd (q := q) ha.1 (n := (maxP a b - a.p).toNat) (by omega)
  have e2 := scaled_bd (q := q) hb.1 (n := (maxP a b - b.p).toNat) (by omega)
  refine normN_bd _ _ ?_ (by omega)
  have e3 : 2 ^ (k + 4 * q + 2) = 2 ^ (k + 4 * q + 1) * 2 := Nat.pow_succ _ _
  have e4 : (oneS a b).natAbs < 2 ^ (k + 4 * q + 1) := e1
  have e5 : (twoS a b).natAbs < 2 ^ (k + 4 * q + 1) := e2
  generalize oneS a b = x at *
  generalize twoS a b = y at *
  omega
theorem minusD_bd {k q : Nat} {a b : Dec} (ha : Bd k q a) (hb : Bd k q b) : Bd (k + 4 * q + 2) q (minusD a b) := by
  obtain ⟨f1, f2, f3, f4⟩ := max_facts a b
  have g1 := ha.2
  have g2 := hb.2
  have e1 := scaled_bd (q := q) ha.1 (n := (maxP a b - a.p).toNat) (by omega)
  have e2 := scaled_bd (q := q) hb.1 (n := (maxP a b - b.p).toNat) (by omega)
  refine normN_bd _ _ ?_ (by omega)
  have e3 : 2 ^ (k + 4 * q + 2) = 2 ^ (k + 4 * q + 1) * 2 := Nat.pow_succ _ _
  have e4 : (oneS a b).natAbs < 2 ^ (k + 4 * q + 1) := e1
  have e5 : (twoS a b).natAbs < 2 ^ (k + 4 * q + 1) := e2
  generalize oneS a b = x at *
  generalize twoS a b = y at *
  omega
def BdP (k q : Nat) (p : Pt) : Prop := Bd k q p.1 ∧ Bd k q p.2
def BdA (k q : Nat) (M : Mat) : Prop := Bd k q M.a ∧ Bd k q M.b ∧ Bd k q M.c ∧ Bd k q M.d ∧ Bd k q M.e ∧ Bd k q M.f
theorem BdP.mono {k q k' q' : Nat} {p : Pt} (h : BdP k q p) (hk : k ≤ k') (hq : q ≤ q') : BdP k' q' p := ⟨h.1.mono hk hq, h.2.mono hk hq⟩
section
variable {k q K Q : Nat} {M : Mat} {p : Pt}
theorem lin_bd {a x c y e : Dec} (ha : Bd K Q a) (hx : Bd k q x) (hc : Bd K Q c) (hy : Bd k q y) (he : Bd K Q e) :
    Bd (K + k) (Q + q) (mulD a x) ∧ Bd (K + k) (Q + q) (mulD c y) ∧ Bd (K + k + 4 * (Q + q) + 2) (Q + q) (plusD (mulD a x) (mulD c y)) ∧ Bd (K + k + 8 * (Q + q) + 4) (Q + q) (plusD (plusD (mulD a x) (mulD c y)) e) := by
  have h1 := mulD_bd ha hx
  have h2 := mulD_bd hc hy
  have h3 := plusD_bd h1 h2
  exact ⟨h1, h2, h3, (plusD_bd h3 (he.mono (by omega) (by omega))).mono (by omega) (by omega)⟩
theorem appD_bd (hM : BdA K Q M) (hp : BdP k q p) : BdP (K + k + 8 * (Q + q) + 4) (Q + q) (appD M p) :=
  ⟨(lin_bd hM.1 hp.1 hM.2.2.1 hp.2 hM.2.2.2.2.1).2.2.2, (lin_bd hM.2.1 hp.1 hM.2.2.2.1 hp.2 hM.2.2.2.2.2).2.2.2⟩
theorem appOk_of (hM : BdA K Q M) (hp : BdP k q p) (h1 : K + k + 8 * (Q + q) + 4 ≤ 1000000) (h2 : Q + q ≤ 100000) : AppOk M p.1 p.2 := by
  obtain ⟨a, b, c, d, e, f⟩ := hM
  obtain ⟨x, y⟩ := hp
  obtain ⟨x1, x2, x3, x4⟩ := lin_bd a x c y e
  obtain ⟨y1, y2, y3, y4⟩ := lin_bd b x d y f
  constructor
  · exact x.mono (by omega) (by omega)
  · exact y.mono (by omega) (by omega)
  · exact a.mono (by omega) (by omega)
  · exact b.mono (by omega) (by omega)
  · exact c.mono (by omega) (by omega)
  · exact d.mono (by omega) (by omega)
  · exact e.mono (by omega) (by omega)
  · exact f.mono (by omega) (by omega)
  · exact x1.mono (by omega) (by omega)
  · exact x2.mono (by omega) (by omega)
  · exact x3.mono (by omega) (by omega)
  · exact y1.mono (by omega) (by omega)
  · exact y2.mono (by omega) (by omega)
  · exact y3.mono (by omega) (by omega)
theorem mulOk_of {N : Mat} (hM : BdA K Q M) (hN : BdA K Q N) (h1 : 2 * K + 16 * Q + 4 ≤ 1000000) (h2 : 2 * Q ≤ 100000) : MulOk M N := by
  have ap := appOk_of (p := (M.e, M.f)) hN ⟨hM.2.2.2.2.1, hM.2.2.2.2.2⟩ (by omega) (by omega)
  obtain ⟨a, b, c, d, e, f⟩ := hM
  obtain ⟨a', b', c', d', e', f'⟩ := hN
  constructor
  · exact ap
  · exact a.mono (by omega) (by omega)
  · exact b.mono (by omega) (by omega)
  · exact c.mono (by omega) (by omega)
  · exact d.mono (by omega) (by omega)
  · exact (mulD_bd a a').mono (by omega) (by omega)
  · exact (mulD_bd b c').mono (by omega) (by omega)
  · exact (mulD_bd a b').mono (by omega) (by omega)
  · exact (mulD_bd b d').mono (by omega) (by omega)
  · exact (mulD_bd c a').mono (by omega) (by omega)
  · exact (mulD_bd d c').mono (by omega) (by omega)
  · exact (mulD_bd c b').mono (by omega) (by omega)
  · exact (mulD_bd d d').mono (by omega) (by omega)
theorem mulM_bd {N : Mat} (hM : BdA K Q M) (hN : BdA K Q N) : BdA (2 * K + 16 * Q + 4) (2 * Q) (mulM M N) := by
  have ap := appD_bd (p := (M.e, M.f)) hN ⟨hM.2.2.2.2.1, hM.2.2.2.2.2⟩
  obtain ⟨a, b, c, d, e, f⟩ := hM
  obtain ⟨a', b', c', d', e', f'⟩ := hN
  refine ⟨?_, ?_, ?_, ?_, ap.1.mono (by omega) (by omega), ap.2.mono (by omega) (by omega)⟩
  · exact (plusD_bd (mulD_bd a a') (mulD_bd b c')).mono (by omega) (by omega)
  · exact (plusD_bd (mulD_bd a b') (mulD_bd b d')).mono (by omega) (by omega)
  · exact (plusD_bd (mulD_bd c a') (mulD_bd d c')).mono (by omega) (by omega)
  · exact (plusD_bd (mulD_bd c b') (mulD_bd d d')).mono (by omega) (by omega)
end
theorem dI_bd {i : Int} {k q : Nat} (h : i.natAbs < 2 ^ k) : Bd k q (dI i) := ⟨h, Nat.zero_le _⟩

-- 22_pathm
theorem PathOk.mono {N N' : Nat} {path : PathD Pt} (h : PathOk N path) (hn : N ≤ N') : PathOk N' path :=
  ⟨h.ne, Nat.le_trans h.len hn, fun pt hp => ⟨(h.part pt hp).1, Nat.le_trans (h.part pt hp).2.1 hn, (h.part pt hp).2.2⟩⟩
theorem drawnD_sub {π : Type} {path : PathD π} : ∀ pt ∈ drawnD path, pt ∈ path := by
  intro pt hp
  unfold drawnD at hp
  split at hp
  · split at hp
    · exact List.dropLast_subset _ hp
    · exact hp
  · exact hp
theorem drawnD_len {π : Type} {path : PathD π} : (drawnD path).length ≤ path.length := by
  unfold drawnD
  split
  · split
    · rw [List.length_dropLast]; omega
    · omega
  · omega
theorem move_part (p : Pt) : curD [(sMove, [p])] = some p ∧ firstD [(sMove, [p])] = some p := ⟨rfl, rfl⟩
theorem moveD_ok {N : Nat} {path : PathD Pt} {p : Pt} (h : PathOk N path) : PathOk (N + 1) (moveD path p) := by
  have hl := h.len
  have hd := @drawnD_len _ path
  refine ⟨by unfold moveD; simp, by unfold moveD; simp; omega, fun pt hp => ?_⟩
  rcases List.mem_append.mp hp with hp | hp
  · obtain ⟨a, b, c⟩ := h.part pt (drawnD_sub _ hp)
    exact ⟨a, by omega, c⟩
  · obtain rfl := List.mem_singleton.mp hp
    exact ⟨by simp, by simp, ⟨p, rfl⟩, ⟨p, rfl⟩, by simp⟩
theorem PathOk.last2 {N : Nat} {path : PathD Pt} (h : PathOk N path) : ∃ pt, path.getLast? = some pt ∧ pt ∈ path ∧ path = path.dropLast ++ [pt] := by
  refine ⟨_, List.getLast?_eq_some_getLast h.ne, List.getLast_mem h.ne, (List.dropLast_concat_getLast h.ne).symm⟩
theorem firstD_append {π : Type} {pt : PartD π} {sg : SegD π} {p : π} (h : firstD pt = some p) : firstD (pt ++ [sg]) = some p := by
  cases pt with
  | nil => exact absurd h (by simp [firstD])
  | cons a r => exact h
/-- a part one longer stands in the last one's place -/
theorem setLast_ok {N : Nat} {path : PathD Pt} {pt : PartD Pt} {sg : SegD Pt} (h : PathOk N path) (hm : pt ∈ path) (hs : sg.2.length ≤ 3) (hc : ∃ p, curD (pt ++ [sg]) = some p) : PathOk (N + 1) (path.dropLast ++ [pt ++ [sg]]) := by
  have hl := h.len
  refine ⟨by simp, by simp only [List.length_append, List.length_dropLast, List.length_singleton]; omega, fun q hq => ?_⟩
  rcases List.mem_append.mp hq with hq | hq
  · obtain ⟨a, b, c⟩ := h.part q (List.dropLast_subset _ hq)
    exact ⟨a, by omega, c⟩
  · obtain rfl := List.mem_singleton.mp hq
    obtain ⟨a, b, c, ⟨p, d⟩, e⟩ := h.part pt hm
    refine ⟨by simp, by simp; omega, hc, ⟨p, firstD_append d⟩, fun s hs' => ?_⟩
    rcases List.mem_append.mp hs' with hs' | hs'
    · exact e s hs'
    · rw [List.mem_singleton.mp hs']; exact hs
theorem withD_ok {N : Nat} {path : PathD Pt} {sg : SegD Pt} {p : Pt} (h : PathOk N path) (hN : 1 ≤ N) (hs : sg.2.length ≤ 3) (he : sg.2.getLast? = some p) (hk : (sg.1 == sClose) = false) : PathOk (N + 1) (withD path sg) := by
  obtain ⟨pt, hl, hm, hpath⟩ := h.last2
  have hlen := h.len
  obtain ⟨a, b, c, ⟨p1, d⟩, e⟩ := h.part pt hm
  unfold withD
  rw [hl]
  dsimp only
  split
  · rw [d]
    dsimp only
    refine ⟨by simp, by simp; omega, fun q hq => ?_⟩
    rcases List.mem_append.mp hq with hq | hq
    · obtain ⟨a, b, c⟩ := h.part q hq
      exact ⟨a, by omega, c⟩
    · obtain rfl := List.mem_singleton.mp hq
      refine ⟨by simp, by simp; omega, ⟨p, ?_⟩, ⟨p1, rfl⟩, fun s hs' => ?_⟩
      · simp [curD, isShutD, endD, hk, he]
      · rcases List.mem_cons.mp hs' with rfl | hs'
        · simp
        · rw [List.mem_singleton.mp hs']; exact hs
  · refine setLast_ok h hm hs ⟨p, ?_⟩
    simp [curD, isShutD, endD, hk, he]
theorem closeD_ok {N : Nat} {path : PathD Pt} (h : PathOk N path) : PathOk (N + 1) (closeD path) := by
  obtain ⟨pt, hl, hm, hpath⟩ := h.last2
  obtain ⟨a, b, c, ⟨p1, d⟩, e⟩ := h.part pt hm
  unfold closeD
  rw [hl]
  dsimp only
  split
  · exact h.mono (by omega)
  · refine setLast_ok h hm (by simp) ⟨p1, ?_⟩
    have := firstD_append (sg := (sClose, [])) d
    simp [curD, isShutD, this]
section
variable {S : Pt → Prop} {path : PathD Pt}
theorem AllP.mono {S' : Pt → Prop} (h : AllP S path) (k : ∀ p, S p → S' p) : AllP S' path := fun pt hp sg hs p hq => k p (h pt hp sg hs p hq)
theorem moveD_all {p : Pt} (h : AllP S path) (hp : S p) : AllP S (moveD path p) := by
  intro pt hpt sg hsg q hq
  rcases List.mem_append.mp hpt with hpt | hpt
  · exact h pt (drawnD_sub _ hpt) sg hsg q hq
  · obtain rfl := List.mem_singleton.mp hpt
    obtain rfl := List.mem_singleton.mp hsg
    obtain rfl := List.mem_singleton.mp hq
    exact hp
theorem getLast_mem' {α : Type} {l : List α} {a : α} (h : l.getLast? = some a) : a ∈ l := List.mem_of_getLast? h
theorem firstD_all {pt : PartD Pt} {p : Pt} (h : ∀ sg ∈ pt, ∀ p ∈ sg.2, S p) (hf : firstD pt = some p) : S p := by
  unfold firstD at hf
  split at hf
  · exact h _ (List.mem_of_getElem? (by assumption)) p (List.mem_of_getElem? hf)
  · exact nomatch hf
theorem setLast_all {pt : PartD Pt} {sg : SegD Pt} (h : AllP S path) (hm : pt ∈ path) (hs : ∀ p ∈ sg.2, S p) : AllP S (path.dropLast ++ [pt ++ [sg]]) := by
  intro q hq s hs' p hp
  rcases List.mem_append.mp hq with hq | hq
  · exact h q (List.dropLast_subset _ hq) s hs' p hp
  · obtain rfl := List.mem_singleton.mp hq
    rcases List.mem_append.mp hs' with hs' | hs'
    · exact h pt hm s hs' p hp
    · obtain rfl := List.mem_singleton.mp hs'
      exact hs p hp
theorem withD_all {sg : SegD Pt} (h : AllP S path) (hs : ∀ p ∈ sg.2, S p) : AllP S (withD path sg) := by
  unfold withD
  split
  · rename_i pt hl
    have hm := getLast_mem' hl
    split
    · split
      · rename_i p1 hf
        intro q hq s hs' p hp
        rcases List.mem_append.mp hq with hq | hq
        · exact h q hq s hs' p hp
        · obtain rfl := List.mem_singleton.mp hq
          rcases List.mem_cons.mp hs' with rfl | hs'
          · obtain rfl := List.mem_singleton.mp hp
            exact firstD_all (h pt hm) hf
          · obtain rfl := List.mem_singleton.mp hs'
            exact hs p hp
      · exact h
    · exact setLast_all h hm hs
  · exact h
theorem closeD_all (h : AllP S path) : AllP S (closeD path) := by
  unfold closeD
  split
  · rename_i pt hl
    split
    · exact h
    · exact setLast_all h (getLast_mem' hl) (by simp)
  · exact h
theorem rectD_all {x y : Dec} {a b : Int} (h : AllP S path) (h1 : S (x, y)) (h2 : S (plusD x (dI a), y)) (h3 : S (plusD x (dI a), plusD y (dI b))) (h4 : S (x, plusD y (dI b))) : AllP S (rectD path x y a b) :=
  closeD_all (withD_all (withD_all (withD_all (moveD_all h h1) (by simpa using h2)) (by simpa using h3)) (by simpa using h4))
end
/-- each point turned -/
theorem mapD_mapD {π ρ σ : Type} (f : π → ρ) (g : ρ → σ) (path : PathD π) : mapD g (mapD f path) = mapD (fun p => g (f p)) path := by
  simp [mapD, Function.comp_def]
theorem mapD_congr {σ : Type} {f g : Pt → σ} {S : Pt → Prop} {path : PathD Pt} (h : AllP S path) (e : ∀ p, S p → f p = g p) : mapD f path = mapD g path :=
  List.map_congr_left fun pt hp => List.map_congr_left fun sg hs => by rw [List.map_congr_left fun p hq => e p (h pt hp sg hs p hq)]
theorem mapD_id {path : PathD Pt} : mapD (fun p => p) path = path := by simp [mapD]
def namesD {π : Type} (path : PathD π) : List (List Str) := path.map fun pt => pt.map fun sg => sg.1
theorem names_mapD {π ρ : Type} (f : π → ρ) (path : PathD π) : namesD (mapD f path) = namesD path := by
  simp [namesD, mapD, Function.comp_def]
theorem mapD_all {f : Pt → Pt} {S S' : Pt → Prop} {path : PathD Pt} (h : AllP S path) (k : ∀ p, S p → S' (f p)) : AllP S' (mapD f path) := by
  intro pt hp sg hs p hq
  obtain ⟨pt, hp', rfl⟩ := List.mem_map.mp hp
  obtain ⟨sg, hs', rfl⟩ := List.mem_map.mp hs
  obtain ⟨p, hq', rfl⟩ := List.mem_map.mp hq
  exact k p (h pt hp' sg hs' p hq')
/-- the points in their order -/
theorem pts_mapD {π ρ : Type} (f : π → ρ) (path : PathD π) : ptsD (mapD f path) = (ptsD path).map f := by
  simp [ptsD, mapD, List.flatMap_map, List.map_flatMap]
theorem pts_all {S : Pt → Prop} {path : PathD Pt} (h : AllP S path) : ∀ p ∈ ptsD path, S p := by
  intro p hp
  obtain ⟨pt, h1, h2⟩ := List.mem_flatMap.mp hp
  obtain ⟨sg, h3, h4⟩ := List.mem_flatMap.mp h2
  exact h pt h1 sg h3 p h4
theorem pts_ne {N : Nat} {path : PathD Pt} (h : PathOk N path) : ptsD path ≠ [] := by
  obtain ⟨pt, _, hm, _⟩ := h.last2
  obtain ⟨a, b, c, ⟨p, d⟩, e⟩ := h.part pt hm
  unfold firstD at d
  split at d
  · rename_i sg hg
    exact List.ne_nil_of_mem (List.mem_flatMap.mpr ⟨pt, hm, List.mem_flatMap.mpr ⟨sg, List.mem_of_getElem? hg, List.mem_of_getElem? d⟩⟩)
  · exact nomatch d
theorem flat_len {α β : Type} {f : α → List β} {N : Nat} : ∀ {l : List α}, (∀ a ∈ l, (f a).length ≤ N) → (l.flatMap f).length ≤ l.length * N
  | [], _ => by simp
  | a :: l, h => by
    have h1 := h a (.head _)
    have h2 := flat_len (l := l) fun b hb => h b (.tail _ hb)
    rw [List.flatMap_cons, List.length_append, List.length_cons, Nat.add_mul, Nat.one_mul]
    omega
theorem mapD_ok {N : Nat} {f : Pt → Pt} {path : PathD Pt} (h : PathOk N path) : PathOk N (mapD f path) := by
  refine ⟨by simpa [mapD] using h.ne, by simpa [mapD] using h.len, fun pt hp => ?_⟩
  obtain ⟨pt, hp', rfl⟩ := List.mem_map.mp hp
  obtain ⟨a, b, ⟨p, c⟩, ⟨q, d⟩, e⟩ := h.part pt hp'
  have hf : firstD (pt.map fun sg => (sg.1, sg.2.map f)) = some (f q) := by
    unfold firstD at d ⊢
    rw [List.getElem?_map]
    split at d
    · rename_i sg hg
      simp [hg, d]
    · exact nomatch d
  refine ⟨by simpa using a, by simpa using b, ?_, ⟨_, hf⟩, fun sg hs => ?_⟩
  · unfold curD
    split
    · exact ⟨_, hf⟩
    · rename_i hs
      refine ⟨f p, ?_⟩
      have e1 : isShutD pt = false := by
        unfold isShutD at hs ⊢
        rw [List.getLast?_map] at hs
        cases hq : pt.getLast? with
        | none => rfl
        | some sg => simpa [hq] using hs
      unfold curD at c
      rw [e1] at c
      simp only [Bool.false_eq_true, if_false] at c
      unfold endD at c ⊢
      rw [List.getLast?_map]
      cases hq : pt.getLast? with
      | none => rw [hq] at c; exact nomatch c
      | some sg => rw [hq] at c; simp [c]
  · obtain ⟨sg, hs', rfl⟩ := List.mem_map.mp hs
    simpa using e sg hs'

-- 19_pool
abbrev poolO (ca : Addr) (g st pl : Int) (t1 t2 t3 : Tok) (k : Nat) : Obj := lstO [.ref ca, .int g t1, .int st t2, .int pl t3] k
def IntIs (v : Value) (i : Int) : Prop := ∃ t, v = .int i t
/-- the pool: its cells stand in the ledger, its counts are small -/
def PoolOk (n : Nat) (l : Led) (o : Obj) : Prop := ∃ (ca : Addr) (g st pl : Int) (t1 t2 t3 : Tok) (k kc : Nat) (cs : List Value) (is : List Int), o = poolO ca g st pl t1 t2 t3 k ∧ (ca, lstO cs kc) ∈ l ∧ All2 IntIs cs is ∧ cs.length ≤ 100 ∧
  0 ≤ g ∧ g.natAbs < 2 ^ 700 ∧ 0 ≤ st ∧ st < 2147483647 ∧ 0 ≤ pl ∧ pl ≤ n
theorem PoolOk.mono {n n' : Nat} {l l' : Led} {o : Obj} (h : PoolOk n l o) (hn : n ≤ n') (hs : ∀ p ∈ l, p ∈ l') : PoolOk n' l' o := by
  obtain ⟨ca, g, st, pl, t1, t2, t3, k, kc, cs, is, e, m, a, b, c1, c2, c3, c4, c5, c6⟩ := h
  exact ⟨ca, g, st, pl, t1, t2, t3, k, kc, cs, is, e, hs _ m, a, b, c1, c2, c3, c4, c5, by omega⟩
def PDraw (n : Nat) (l : Led) (most : Int) (r : Value) (o : Obj) (_ : Led) : Prop := (∃ i t, r = .int i t ∧ 0 ≤ i ∧ i < most) ∧ PoolOk n l o
theorem PDraw.mk {n : Nat} {l n' : Led} {most i : Int} {t : Tok} {o : Obj} (h0 : 0 ≤ i) (h1 : i < most) (h : PoolOk n l o) : PDraw n l most (.int i t) o n' := ⟨⟨i, t, rfl, h0, h1⟩, h⟩
theorem item_ints {prog : Program} {w : World} {A : Around} {E : Value → Shared → Prop} {s : Shared} {h₀ : Heap} {L q : Addr} {news : Led} {vs : List Value} {k : Nat} {value slice : PySem.Expr} {u : Tok} {i : Int} {is : List Int} {Q : Value → Shared → Prop} (N : News h₀ L s.heap news) (hm : (q, lstO vs k) ∈ news) (ha : All2 IntIs vs is) (h0 : 0 ≤ i) (h1 : i < vs.length) (h2 : i < 2 ^ 63) (h : ∀ x t, Q (.int x t) s)
    (hs : subscripted slice false (.ref q) (.int i u) = operate [.ref q, .int i u] (getItem (.ref q) (.int i u)) := by with_unfolding_all rfl) :
    wpAny (model prog w) A (subscriptTail value slice (.ref q) (.int i u)) Q E s := by
  have hl : i.toNat < is.length := by rw [← ha.length]; omega
  obtain ⟨v, hv, tk, hE⟩ := ha.get (i := i.toNat) (List.getElem?_eq_getElem hl)
  subst hE
  exact tail_any (isL N hm).typeIs slot_list_getitem.lookup (wpAny_getItem_list (isL N hm) h0 h2 (by simpa using hv) (h _ _)) hs
theorem reg_P19_pool_0 : True := by
  k_with "M:subscriptTail" => iterate 777 ((k_here; k_dflt (
  (with_reducible show wpAny _ _ (subscriptTail _ _ (Value.ref _) (Value.int _ _)) _ _ _); (refine' item_ints ?z9a ?z9b ?z9c ?z9d ?z9e ?z9f ?_ ?z9g; (case z9c => with_reducible assumption); (case z9a => k_asm); (case z9b => k_mem); (case z9d => omega); (case z9e => omega); (case z9f => omega); (case z9g => with_unfolding_all rfl); (intro z9x' z9t'; (try dsimp only))))))
  trivial
theorem fdiv_small {g most : Int} (g0 : 0 ≤ g) (g1 : g.natAbs < 2 ^ 700) (h0 : 0 < most) : 0 ≤ g.fdiv most ∧ (g.fdiv most).natAbs < 2 ^ 700 := by
  rw [Int.fdiv_eq_ediv_of_nonneg _ (by omega)]
  have h1 : 0 ≤ g / most := Int.ediv_nonneg g0 (by omega)
  have h2 : g / most ≤ g := Int.ediv_le_self _ g0
  exact ⟨h1, by omega⟩
theorem fmod_small (x : Int) {most : Int} (h0 : 0 < most) : 0 ≤ x.fmod most ∧ x.fmod most < most := ⟨Int.fmod_nonneg_of_pos _ h0, Int.fmod_lt_of_pos _ h0⟩
theorem draw_spec {w : World} {news n0 : Led} {q : Addr} {n : Nat} {most : Int} {t : Tok} {o : Obj} (ok : PoolOk n n0 o) (s0 : ∀ p ∈ n0, p ∈ news) (hn : n ≤ 100000) (h0 : 0 < most) (h1 : most ≤ 1000) :
    SpecM w 4 419 [.ref q, .int most t] (fun _ => True) q o news (PDraw (n + 1) n0 most) := by
  refine ⟨?_⟩
  intro prog p' loose mean mg mb dp un gd cn cs' aa ccd cl outer A₀ base h₀ L m s Q E B F X N off T _ hk hdp hun hret
  obtain ⟨ca, g, st, pl, t1, t2, t3, k, kc, cs, is, rfl, hc0, hi, hz, g0, g1, st0, st1, p0, p1⟩ := ok
  have hc := s0 _ hc0
  refine wpAny_call ?_
  k_dflt ktr_enter
  obtain ⟨d0, d1⟩ := fdiv_small g0 g1 h0
  have m1 := fmod_small g h0
  k_steps
  · walk_at "S mend"
    exact PDraw.mk m1.1 m1.2 ⟨_, _, _, _, _, _, _, _, _, _, _, rfl, hc0, hi, hz, d0, d1, st0, st1, by omega, by omega⟩
  · have m3 := fmod_small (st * 16807 + pl * pl + 5) (most := 2147483647) (by decide)
    walk_at "S mend"
    exact PDraw.mk (fmod_small _ h0).1 (fmod_small _ h0).2 ⟨_, _, _, _, _, _, _, _, _, _, _, rfl, hc0, hi, hz, g0, g1, m3.1, m3.2, by omega, by omega⟩
  · have m2 := fmod_small (((st * 16807 + pl * pl + 5).fmod 2147483647).fdiv 5) h0
    have m3 := fmod_small (st * 16807 + pl * pl + 5) (most := 2147483647) (by decide)
    walk_at "S mend"
    exact PDraw.mk m2.1 m2.2 ⟨_, _, _, _, _, _, _, _, _, _, _, rfl, hc0, hi, hz, g0, g1, m3.1, m3.2, by omega, by omega⟩
theorem reg_P19_pool_1 : True := by
  k_with "M:call ref" => iterate 777 ((k_here; (with_reducible show wpAny _ _ (call (Value.ref 419) _) _ _ _); k_dflt (refine' SpecM.use (S := draw_spec ?z9s1 ?z9s2 ?z9s3 ?z9s4 ?z9s5) ?z9k1 ?z9k2 ?z9k3 ?z9k4 ?z9kP ?z9k5 ?z9kH ?z9kK ?z9kd ?z9ku ?_; (case z9k2 => k_asm); (case z9k3 => k_asm); (case z9k4 => k_asm); (case z9kP => walk_at "S pick"); (case z9k1 => k_asm); (case z9k5 => k_asm); (case z9kH => first | exact True.intro | with_reducible assumption | exact CodeHd.keeps (by with_reducible assumption) (Below.stays (by assumption))); (case z9kK => first | exact rfl | assumption); (case z9kd => ktr_room); (case z9ku => ktr_units); (case z9s1 => with_reducible assumption); (case z9s2 => walk_at "S sub"); (case z9s3 => omega); (case z9s4 => decide); (case z9s5 => decide); intro z9r' z9o' z9tl' z9h' z9tk' z9F' z9N' z9off' z9up' z9P'; (try simp only [List.nil_append, List.cons_append, List.append_assoc] at z9N' z9P'); walk_at "S post"; (try k_sweep); (try dsimp only); (try k_fold))))
  k_with "M:S post" => iterate 777 (((with_reducible rename PDraw _ _ _ _ _ _ => z9hP); (obtain ⟨⟨_, _, z9hE, _, _⟩, _⟩ := z9hP); subst z9hE))
  trivial
def NumG (d : Dec) : Prop := CanD d ∧ Bd 7 1 d
def PNum (w : World) (n : Nat) (l : Led) (r : Value) (o : Obj) (tl : Led) : Prop := ∃ d, NumIn w tl r d ∧ NumG d ∧ PoolOk n l o
theorem numG_int {i : Int} (h : i.natAbs < 2 ^ 7) : NumG ⟨i, 0⟩ := ⟨.inl rfl, h, Nat.zero_le _⟩
theorem numG_dec {i : Int} (h : i.natAbs < 2 ^ 7) : NumG (normN i 1) := ⟨normN_can _ _, normN_bd 1 i h (Nat.le_refl _)⟩
theorem number_spec {w : World} {news n0 : Led} {q : Addr} {n : Nat} {o : Obj} (ok : PoolOk n n0 o) (s0 : ∀ p ∈ n0, p ∈ news) (hn : n ≤ 90000) :
    SpecM w 10 426 [.ref q] (fun _ => True) q o news (PNum w (n + 2) n0) := by
  refine ⟨?_⟩
  intro prog p' loose mean mg mb dp un gd cn cs' aa ccd cl outer A₀ base h₀ L m s Q E B F X N off T _ hk hdp hun hret
  refine wpAny_call ?_
  k_dflt ktr_enter
  k_steps
  · walk_at "S mend"
    refine ⟨_, NumIn.int, numG_int ?_, PoolOk.mono (by with_reducible assumption) (by omega) fun _ h => h⟩
    rw [Int.fdiv_eq_ediv_of_nonneg _ (by omega)]
    omega
  · walk_at "S mend"
    exact ⟨_, NumIn.dec (by walk_at "S dec"), numG_dec (by omega), PoolOk.mono (by with_reducible assumption) (by omega) fun _ h => h⟩
  · walk_at "S mend"
    exact ⟨_, NumIn.dec (by walk_at "S dec"), numG_dec (by omega), PoolOk.mono (by with_reducible assumption) (by omega) fun _ h => h⟩
theorem reg_P19_pool_2 : True := by
  k_with "M:call ref" => iterate 777 ((k_here; (with_reducible show wpAny _ _ (call (Value.ref 426) _) _ _ _); k_dflt (refine' SpecM.use (S := number_spec ?z9s1 ?z9s2 ?z9s3) ?z9k1 ?z9k2 ?z9k3 ?z9k4 ?z9kP ?z9k5 ?z9kH ?z9kK ?z9kd ?z9ku ?_; (case z9k2 => k_asm); (case z9k3 => k_asm); (case z9k4 => k_asm); (case z9kP => walk_at "S pick"); (case z9k1 => k_asm); (case z9k5 => k_asm); (case z9kH => first | exact True.intro | with_reducible assumption | exact CodeHd.keeps (by with_reducible assumption) (Below.stays (by assumption))); (case z9kK => first | exact rfl | assumption); (case z9kd => ktr_room); (case z9ku => ktr_units); (case z9s1 => with_reducible assumption); (case z9s2 => walk_at "S sub"); (case z9s3 => omega); intro z9r' z9o' z9tl' z9h' z9tk' z9F' z9N' z9off' z9up' z9P'; (try simp only [List.nil_append, List.cons_append, List.append_assoc] at z9N' z9P'); walk_at "S post"; (try k_sweep); (try dsimp only); (try k_fold))))
  k_with "M:S post" => iterate 777 (((with_reducible rename PNum _ _ _ _ _ _ => z9hP); (obtain ⟨_, _, _, _⟩ := z9hP)))
  trivial
def PPtG (w : World) (n : Nat) (l : Led) (r : Value) (o : Obj) (tl : Led) : Prop := ∃ x y, (∃ (q : Addr) (a b : Value) (k : Nat), r = .ref q ∧ (q, tupO [a, b] k) ∈ tl ∧ NumIn w tl a x ∧ NumIn w tl b y) ∧ NumG x ∧ NumG y ∧ PoolOk n l o
theorem pairp_spec {w : World} {news n0 : Led} {q : Addr} {n : Nat} {o : Obj} (ok : PoolOk n n0 o) (s0 : ∀ p ∈ n0, p ∈ news) (hn : n ≤ 80000) :
    SpecM w 14 433 [.ref q] (fun _ => True) q o news (PPtG w (n + 4) n0) := by
  refine ⟨?_⟩
  intro prog p' loose mean mg mb dp un gd cn cs' aa ccd cl outer A₀ base h₀ L m s Q E B F X N off T _ hk hdp hun hret
  refine wpAny_call ?_
  k_dflt ktr_enter
  k_steps
  walk_at "S mend"
  exact ⟨_, _, ⟨_, _, _, _, rfl, by walk_at "S mem", by walk_at "S num", by walk_at "S num"⟩, by with_reducible assumption, by with_reducible assumption, PoolOk.mono (by with_reducible assumption) (by omega) fun _ h => h⟩
theorem reg_P19_pool_3 : True := by
  k_with "M:call ref" => iterate 777 ((k_here; (with_reducible show wpAny _ _ (call (Value.ref 433) _) _ _ _); k_dflt (refine' SpecM.use (S := pairp_spec ?z9s1 ?z9s2 ?z9s3) ?z9k1 ?z9k2 ?z9k3 ?z9k4 ?z9kP ?z9k5 ?z9kH ?z9kK ?z9kd ?z9ku ?_; (case z9k2 => k_asm); (case z9k3 => k_asm); (case z9k4 => k_asm); (case z9kP => walk_at "S pick"); (case z9k1 => k_asm); (case z9k5 => k_asm); (case z9kH => first | exact True.intro | with_reducible assumption | exact CodeHd.keeps (by with_reducible assumption) (Below.stays (by assumption))); (case z9kK => first | exact rfl | assumption); (case z9kd => ktr_room); (case z9ku => ktr_units); (case z9s1 => with_reducible assumption); (case z9s2 => walk_at "S sub"); (case z9s3 => omega); intro z9r' z9o' z9tl' z9h' z9tk' z9F' z9N' z9off' z9up' z9P'; (try simp only [List.nil_append, List.cons_append, List.append_assoc] at z9N' z9P'); walk_at "S post"; (try k_sweep); (try dsimp only); (try k_fold))))
  k_with "M:S post" => iterate 777 (((with_reducible rename PPtG _ _ _ _ _ _ => z9hP); (obtain ⟨_, _, z9hR, _, _, _⟩ := z9hP); (have z9hQ : NPairIn _ _ _ (_, _) := z9hR); (obtain ⟨_, _, _, _, z9hE, _, _, _⟩ := z9hR); subst z9hE))
  trivial
def PMatG (w : World) (n : Nat) (l : Led) (r : Value) (o : Obj) (tl : Led) : Prop := ∃ M, MatIn w tl r M ∧ BdA 7 1 M ∧ PoolOk n l o
theorem bdA_of {a b c d e f : Dec} (h1 : NumG a) (h2 : NumG b) (h3 : NumG c) (h4 : NumG d) (h5 : NumG e) (h6 : NumG f) : BdA 7 1 ⟨a, b, c, d, e, f⟩ := ⟨h1.2, h2.2, h3.2, h4.2, h5.2, h6.2⟩
theorem matp_spec {w : World} {news n0 : Led} {q : Addr} {n : Nat} {o : Obj} (ok : PoolOk n n0 o) (s0 : ∀ p ∈ n0, p ∈ news) (hn : n ≤ 80000) :
    SpecM w 18 447 [.ref q] (fun _ => True) q o news (PMatG w (n + 12) n0) := by
  refine ⟨?_⟩
  intro prog p' loose mean mg mb dp un gd cn cs' aa ccd cl outer A₀ base h₀ L m s Q E B F X N off T _ hk hdp hun hret
  refine wpAny_call ?_
  k_dflt ktr_enter
  k_steps
  walk_at "S mend"
  exact ⟨_, by walk_at "S mat", bdA_of (by with_reducible assumption) (by with_reducible assumption) (by with_reducible assumption) (by with_reducible assumption) (by with_reducible assumption) (by with_reducible assumption), PoolOk.mono (by with_reducible assumption) (by omega) fun _ h => h⟩
theorem reg_P19_pool_4 : True := by
  k_with "M:call ref" => iterate 777 ((k_here; (with_reducible show wpAny _ _ (call (Value.ref 447) _) _ _ _); k_dflt (refine' SpecM.use (S := matp_spec ?z9s1 ?z9s2 ?z9s3) ?z9k1 ?z9k2 ?z9k3 ?z9k4 ?z9kP ?z9k5 ?z9kH ?z9kK ?z9kd ?z9ku ?_; (case z9k2 => k_asm); (case z9k3 => k_asm); (case z9k4 => k_asm); (case z9kP => walk_at "S pick"); (case z9k1 => k_asm); (case z9k5 => k_asm); (case z9kH => first | exact True.intro | with_reducible assumption | exact CodeHd.keeps (by with_reducible assumption) (Below.stays (by assumption))); (case z9kK => first | exact rfl | assumption); (case z9kd => ktr_room); (case z9ku => ktr_units); (case z9s1 => with_reducible assumption); (case z9s2 => walk_at "S sub"); (case z9s3 => omega); intro z9r' z9o' z9tl' z9h' z9tk' z9F' z9N' z9off' z9up' z9P'; (try simp only [List.nil_append, List.cons_append, List.append_assoc] at z9N' z9P'); walk_at "S post"; (try k_sweep); (try dsimp only); (try k_fold))))
  k_with "M:S post" => iterate 777 (((with_reducible rename PMatG _ _ _ _ _ _ => z9hP); (obtain ⟨_, z9hQ, z9hB, z9hO⟩ := z9hP)))
  trivial

-- 23_eq
/-- equal by ==, with so much room -/
def Eqv (k : Nat) (s : Shared) (v u : Value) : Prop := ∀ A : Around, A.units + k < cLine → PySem.SeqAt.EqAt A s v u true
theorem Eqv.mono {k k' : Nat} {s : Shared} {v u : Value} (h : Eqv k s v u) (hk : k ≤ k') : Eqv k' s v u := fun A hA => h A (by omega)
theorem eqAt_of_rc {A : Around} {s : Shared} {l b : Addr} (h : PySem.SeqAt.RcAt A s (.ref l) (.ref b) true) : PySem.SeqAt.EqAt A s (.ref l) (.ref b) true := fun prog w E Q hq => by
  unfold eqBool
  refine wpAny_holding ?_
  refine wpAny_ite_split (fun _ => wpAny_bind (wpAny_rule (wpAny_pure hq))) (fun _ => ?_)
  exact wpAny_bind (h prog w E _ (wpAny_truthy_bool hq))
theorem eqAt_of_int {A : Around} {s : Shared} {a b : Int} {t u : Tok} (h : PySem.SeqAt.RcAt A s (.int a t) (.int b u) true) : PySem.SeqAt.EqAt A s (.int a t) (.int b u) true := fun prog w E Q hq => by
  unfold eqBool
  refine wpAny_holding ?_
  refine wpAny_ite_split (fun _ => wpAny_bind (wpAny_rule (wpAny_pure hq))) (fun _ => ?_)
  exact wpAny_bind (h prog w E _ (wpAny_truthy_bool hq))
theorem eqAt_of_str {A : Around} {s : Shared} {a b : Str} {t u : Tok} (h : PySem.SeqAt.RcAt A s (.str a t) (.str b u) true) : PySem.SeqAt.EqAt A s (.str a t) (.str b u) true := fun prog w E Q hq => by
  unfold eqBool
  refine wpAny_holding ?_
  refine wpAny_ite_split (fun _ => wpAny_bind (wpAny_rule (wpAny_pure hq))) (fun _ => ?_)
  exact wpAny_bind (h prog w E _ (wpAny_truthy_bool hq))
theorem Eqv.int {s : Shared} {a : Int} {t u : Tok} : Eqv 0 s (.int a t) (.int a u) := fun A _ => eqAt_of_int (by have := PySem.SeqAt.RcAt.int_int (A := A) (s := s) a t a u; rwa [beq_self_eq_true] at this)
theorem Eqv.str {s : Shared} {a : Str} {t u : Tok} : Eqv 0 s (.str a t) (.str a u) := fun A _ => eqAt_of_str (by have := PySem.SeqAt.RcAt.str_str (A := A) (s := s) a t a u; rwa [beq_self_eq_true] at this)
section
variable {h₀ : Heap} {L q q' : Addr} {s : Shared} {news : Led} {vs ws : List Value} {k n n' : Nat}
theorem all_true (n : Nat) : (List.range n).all (fun _ => true) = true := by simp
theorem rc_tup (N : News h₀ L s.heap news) (m1 : (q, tupO vs n) ∈ news) (m2 : (q', tupO ws n') ∈ news) (hl : vs.length = ws.length) (he : ∀ j (h1 : j < vs.length) (h2 : j < ws.length), Eqv k s vs[j] ws[j]) :
    ∀ A : Around, A.units + (k + 1) < cLine → PySem.SeqAt.RcAt A s (.ref q) (.ref q') true := fun A hA => by
  have := PySem.SeqAt.RcAt.tuples (A := A) (e := fun _ => true) (isTuple N m1) (isTuple N m2) (by omega) (fun j h1 h2 => by
    have h1' : j < vs.length := by simpa using h1
    have h2' : j < ws.length := by simpa using h2
    have := he j h1' h2' A.in1 (by rw [units_in1]; omega)
    simpa using this)
  rw [all_true] at this
  simpa [hl] using this
theorem rne_tup (N : News h₀ L s.heap news) (m1 : (q, tupO vs n) ∈ news) (m2 : (q', tupO ws n') ∈ news) (hl : vs.length = ws.length) (he : ∀ j (h1 : j < vs.length) (h2 : j < ws.length), Eqv k s vs[j] ws[j]) :
    ∀ A : Around, A.units + (k + 1) < cLine → PySem.SeqAt.RcNeAt A s (.ref q) (.ref q') false := fun A hA => by
  have := PySem.SeqAt.RcNeAt.tuples (A := A) (e := fun _ => true) (isTuple N m1) (isTuple N m2) (by omega) (fun j h1 h2 => by
    have h1' : j < vs.length := by simpa using h1
    have h2' : j < ws.length := by simpa using h2
    have := he j h1' h2' A.in1 (by rw [units_in1]; omega)
    simpa using this)
  rw [all_true] at this
  simpa [hl] using this
theorem rc_lst (N : News h₀ L s.heap news) (m1 : (q, lstO vs n) ∈ news) (m2 : (q', lstO ws n') ∈ news) (hl : vs.length = ws.length) (he : ∀ j (h1 : j < vs.length) (h2 : j < ws.length), Eqv k s vs[j] ws[j]) :
    ∀ A : Around, A.units + (k + 1) < cLine → PySem.SeqAt.RcAt A s (.ref q) (.ref q') true := fun A hA => by
  have := PySem.SeqAt.RcAt.lists (A := A) (e := fun _ => true) (isL N m1) (isL N m2) (by simpa using hl) (by omega) (fun j h1 h2 => by
    have h1' : j < vs.length := by simpa using h1
    have h2' : j < ws.length := by simpa using h2
    have := he j h1' h2' A.in1 (by rw [units_in1]; omega)
    simpa using this)
  rw [all_true] at this
  exact this
theorem rne_lst (N : News h₀ L s.heap news) (m1 : (q, lstO vs n) ∈ news) (m2 : (q', lstO ws n') ∈ news) (hl : vs.length = ws.length) (he : ∀ j (h1 : j < vs.length) (h2 : j < ws.length), Eqv k s vs[j] ws[j]) :
    ∀ A : Around, A.units + (k + 1) < cLine → PySem.SeqAt.RcNeAt A s (.ref q) (.ref q') false := fun A hA => by
  have := PySem.SeqAt.RcNeAt.lists (A := A) (e := fun _ => true) (isL N m1) (isL N m2) (by simpa using hl) (by omega) (fun j h1 h2 => by
    have h1' : j < vs.length := by simpa using h1
    have h2' : j < ws.length := by simpa using h2
    have := he j h1' h2' A.in1 (by rw [units_in1]; omega)
    simpa using this)
  rw [all_true] at this
  exact this
theorem Eqv.tup (N : News h₀ L s.heap news) (m1 : (q, tupO vs n) ∈ news) (m2 : (q', tupO ws n') ∈ news) (hl : vs.length = ws.length) (he : ∀ j (h1 : j < vs.length) (h2 : j < ws.length), Eqv k s vs[j] ws[j]) : Eqv (k + 1) s (.ref q) (.ref q') :=
  fun A hA => eqAt_of_rc (rc_tup N m1 m2 hl he A hA)
theorem Eqv.lst (N : News h₀ L s.heap news) (m1 : (q, lstO vs n) ∈ news) (m2 : (q', lstO ws n') ∈ news) (hl : vs.length = ws.length) (he : ∀ j (h1 : j < vs.length) (h2 : j < ws.length), Eqv k s vs[j] ws[j]) : Eqv (k + 1) s (.ref q) (.ref q') :=
  fun A hA => eqAt_of_rc (rc_lst N m1 m2 hl he A hA)
end
theorem eq_all2 {δ : Type} {P P' : Value → δ → Prop} {k : Nat} {s : Shared} (f : ∀ v u d, P v d → P' u d → Eqv k s v u) : ∀ {vs ws : List Value} {ds : List δ}, All2 P vs ds → All2 P' ws ds → vs.length = ws.length ∧ ∀ j (h1 : j < vs.length) (h2 : j < ws.length), Eqv k s vs[j] ws[j]
  | [], [], [], _, _ => ⟨rfl, fun j h1 => absurd h1 (Nat.not_lt_zero _)⟩
  | v :: vs, u :: ws, d :: ds, x, y => by
    obtain ⟨e, r⟩ := eq_all2 f x.2 y.2
    refine ⟨by simp [e], fun j h1 h2 => ?_⟩
    cases j with
    | zero => exact f _ _ _ x.1 y.1
    | succ j => exact r j (by simpa using h1) (by simpa using h2)
  | [], _ :: _, [], _, y => y.elim
  | [], _, _ :: _, x, _ => x.elim
  | _ :: _, _, [], x, _ => x.elim
  | _ :: _, [], _ :: _, _, y => y.elim
section
variable {h₀ : Heap} {L : Addr} {s : Shared} {n1 n2 news : Led}
theorem eq_pair {q q' : Addr} {a b a' b' : Value} {k n n' : Nat} (N : News h₀ L s.heap news) (m1 : (q, tupO [a, b] n) ∈ news) (m2 : (q', tupO [a', b'] n') ∈ news) (ha : Eqv k s a a') (hb : Eqv k s b b') : Eqv (k + 1) s (.ref q) (.ref q') :=
  Eqv.tup N m1 m2 rfl fun j h1 h2 => by
    match j, h1 with
    | 0, _ => exact ha
    | 1, _ => exact hb
theorem IPr.eqv (N : News h₀ L s.heap news) (s1 : ∀ p ∈ n1, p ∈ news) (s2 : ∀ p ∈ n2, p ∈ news) (v u : Value) (d : Int × Int) (h1 : IPr n1 v d) (h2 : IPr n2 u d) : Eqv 1 s v u := by
  obtain ⟨q, t1, t2, k, rfl, m1⟩ := h1
  obtain ⟨q', t1', t2', k', rfl, m2⟩ := h2
  exact eq_pair N (s1 _ m1) (s2 _ m2) Eqv.int Eqv.int
theorem TPt.eqv (N : News h₀ L s.heap news) (s1 : ∀ p ∈ n1, p ∈ news) (s2 : ∀ p ∈ n2, p ∈ news) (v u : Value) (d : (Int × Int) × (Int × Int)) (h1 : TPt n1 v d) (h2 : TPt n2 u d) : Eqv 2 s v u := by
  obtain ⟨q, a, b, k, rfl, m1, ha, hb⟩ := h1
  obtain ⟨q', a', b', k', rfl, m2, ha', hb'⟩ := h2
  exact eq_pair N (s1 _ m1) (s2 _ m2) (IPr.eqv N s1 s2 _ _ _ ha ha') (IPr.eqv N s1 s2 _ _ _ hb hb')
variable {δ : Type} {R : Led → Value → δ → Prop} {k : Nat}
theorem TupIn.eqv (N : News h₀ L s.heap news) (s1 : ∀ p ∈ n1, p ∈ news) (s2 : ∀ p ∈ n2, p ∈ news) (f : ∀ v u d, R n1 v d → R n2 u d → Eqv k s v u) (v u : Value) (ds : List δ) (h1 : TupIn R n1 v ds) (h2 : TupIn R n2 u ds) : Eqv (k + 1) s v u := by
  obtain ⟨q, n, vs, rfl, m1, ha⟩ := h1
  obtain ⟨q', n', ws, rfl, m2, hb⟩ := h2
  obtain ⟨e, r⟩ := eq_all2 f ha hb
  exact Eqv.tup N (s1 _ m1) (s2 _ m2) e r
theorem SegIn.eqv (N : News h₀ L s.heap news) (s1 : ∀ p ∈ n1, p ∈ news) (s2 : ∀ p ∈ n2, p ∈ news) (f : ∀ v u d, R n1 v d → R n2 u d → Eqv k s v u) (v u : Value) (ds : SegD δ) (h1 : SegIn R n1 v ds) (h2 : SegIn R n2 u ds) : Eqv (k + 1) s v u := by
  obtain ⟨q, n, t, vs, rfl, m1, ha⟩ := h1
  obtain ⟨q', n', t', ws, rfl, m2, hb⟩ := h2
  obtain ⟨e, r⟩ := eq_all2 f ha hb
  refine Eqv.tup N (s1 _ m1) (s2 _ m2) (by simp [e]) fun j h1 h2 => ?_
  cases j with
  | zero => exact Eqv.mono Eqv.str (Nat.zero_le _)
  | succ j => exact r j (by simpa using h1) (by simpa using h2)
theorem PartsIn.eqv (N : News h₀ L s.heap news) (s1 : ∀ p ∈ n1, p ∈ news) (s2 : ∀ p ∈ n2, p ∈ news) (f : ∀ v u d, R n1 v d → R n2 u d → Eqv k s v u) (v u : Value) (ds : PathD δ) (h1 : PartsIn R n1 v ds) (h2 : PartsIn R n2 u ds) : Eqv (k + 3) s v u :=
  TupIn.eqv N s1 s2 (fun v u d => TupIn.eqv N s1 s2 (fun v u d => SegIn.eqv N s1 s2 f v u d) v u d) v u ds h1 h2
end
/-- two told paths of the same data are not unequal -/
theorem told_ne {prog : Program} {w : World} {A : Around} {E : Value → Shared → Prop} {s : Shared} {h₀ : Heap} {L : Addr} {news n1 n2 : Led} {v u : Value} {ds : PathD ((Int × Int) × (Int × Int))} {Q : Value → Shared → Prop} (N : News h₀ L s.heap news) (s1 : ∀ p ∈ n1, p ∈ news) (s2 : ∀ p ∈ n2, p ∈ news)
    (h1 : PartsIn TPt n1 v ds) (h2 : PartsIn TPt n2 u ds) (hA : A.units + 20 < cLine) (h : Q (.bool false) s) : wpAny (model prog w) A (compareOp .NotEq v u) Q E s := by
  obtain ⟨q, n, vs, rfl, m1, ha⟩ := h1
  obtain ⟨q', n', ws, rfl, m2, hb⟩ := h2
  obtain ⟨e, r⟩ := eq_all2 (fun v u d => TupIn.eqv N s1 s2 (fun v u d => SegIn.eqv N s1 s2 (TPt.eqv N s1 s2) v u d) v u d) ha hb
  exact rne_tup N (s1 _ m1) (s2 _ m2) e r A (by omega) prog w E Q h

-- 24_lawmath
/-- a drawn number; a drawn point's bounds; a drawn matrix -/
structure PtG (p : Pt) : Prop where
  can : CanP p
  bd : BdP 40 4 p
structure PathG (N : Nat) (path : PathD Pt) : Prop where
  ok : PathOk N path
  all : AllP PtG path
def MatG (M : Mat) : Prop := BdA 7 1 M
theorem NumG.pt {x y : Dec} (hx : NumG x) (hy : NumG y) : PtG (x, y) := ⟨⟨hx.1, hy.1⟩, ⟨hx.2.mono (by omega) (by omega), hy.2.mono (by omega) (by omega)⟩⟩
theorem plus_bd2 {x : Dec} {i : Int} (hx : Bd 7 1 x) (hi : i.natAbs < 2 ^ 7) : Bd 40 4 (plusD x (dI i)) := (plusD_bd hx (dI_bd hi)).mono (by omega) (by omega)
theorem NumG.plus {x : Dec} {i : Int} (hx : NumG x) (hi : i.natAbs < 2 ^ 7) : CanD (plusD x (dI i)) ∧ Bd 40 4 (plusD x (dI i)) := ⟨plusD_can _ _, plus_bd2 hx.2 hi⟩
theorem PathG.mono {N N' : Nat} {path : PathD Pt} (h : PathG N path) (hn : N ≤ N') : PathG N' path := ⟨h.ok.mono hn, h.all⟩
theorem moveG {N : Nat} {path : PathD Pt} {p : Pt} (h : PathG N path) (hp : PtG p) : PathG (N + 1) (moveD path p) := ⟨moveD_ok h.ok, moveD_all h.all hp⟩
theorem lineG {N : Nat} {path : PathD Pt} {p : Pt} (h : PathG N path) (hN : 1 ≤ N) (hp : PtG p) : PathG (N + 1) (withD path (sLine, [p])) :=
  ⟨withD_ok h.ok hN (by simp) rfl (show (sLine == sClose) = false by decide), withD_all h.all (by simpa using hp)⟩
theorem curveG {N : Nat} {path : PathD Pt} {p q r : Pt} (h : PathG N path) (hN : 1 ≤ N) (hp : PtG p) (hq : PtG q) (hr : PtG r) : PathG (N + 1) (curveD path p q r) :=
  ⟨withD_ok h.ok hN (by simp) rfl (show (sCurve == sClose) = false by decide), withD_all h.all (fun x hx => by
    rcases List.mem_cons.mp hx with rfl | hx
    · exact hp
    · rcases List.mem_cons.mp hx with rfl | hx
      · exact hq
      · rw [List.mem_singleton.mp hx]; exact hr)⟩
theorem closeG {N : Nat} {path : PathD Pt} (h : PathG N path) : PathG (N + 1) (closeD path) := ⟨closeD_ok h.ok, closeD_all h.all⟩
structure RectG (N : Nat) (path : PathD Pt) (x y : Dec) (i j : Int) : Prop where
  o0 : PathG (N + 1) (moveD path (x, y))
  o1 : PathG (N + 2) (withD (moveD path (x, y)) (sLine, [(plusD x (dI i), y)]))
  o2 : PathG (N + 3) (withD (withD (moveD path (x, y)) (sLine, [(plusD x (dI i), y)])) (sLine, [(plusD x (dI i), plusD y (dI j))]))
  o3 : PathG (N + 4) (withD (withD (withD (moveD path (x, y)) (sLine, [(plusD x (dI i), y)])) (sLine, [(plusD x (dI i), plusD y (dI j))])) (sLine, [(x, plusD y (dI j))]))
  o4 : PathG (N + 5) (rectD path x y i j)
theorem rectG {N : Nat} {path : PathD Pt} {x y : Dec} {i j : Int} (h : PathG N path) (hx : NumG x) (hy : NumG y) (hi : i.natAbs < 2 ^ 7) (hj : j.natAbs < 2 ^ 7) : RectG N path x y i j := by
  obtain ⟨c1, b1⟩ := hx.plus hi
  obtain ⟨c2, b2⟩ := hy.plus hj
  have bx : Bd 40 4 x := hx.2.mono (by omega) (by omega)
  have bY : Bd 40 4 y := hy.2.mono (by omega) (by omega)
  have o0 := moveG h (hx.pt hy)
  have o1 := lineG (p := (plusD x (dI i), y)) o0 (by omega) ⟨⟨c1, hy.1⟩, b1, bY⟩
  have o2 := lineG (p := (plusD x (dI i), plusD y (dI j))) o1 (by omega) ⟨⟨c1, c2⟩, b1, b2⟩
  have o3 := lineG (p := (x, plusD y (dI j))) o2 (by omega) ⟨⟨hx.1, c2⟩, bx, b2⟩
  exact ⟨o0, o1, o2, o3, closeG o3⟩
theorem Small.of {N : Nat} {path : PathD Pt} (h : PathOk N path) (hn : N ≤ 300) : Small path := ⟨Nat.le_trans h.len hn, fun pt hp => by
  obtain ⟨a, b, c, d, e⟩ := h.part pt hp
  exact ⟨Nat.le_trans b hn, e⟩⟩
theorem Small.map {π ρ : Type} {f : π → ρ} {path : PathD π} (h : Small path) : Small (mapD f path) := ⟨by simpa [mapD] using h.len, fun pt hp => by
  obtain ⟨pt, hp', rfl⟩ := List.mem_map.mp hp
  obtain ⟨a, b⟩ := h.part pt hp'
  refine ⟨by simpa using a, fun sg hs => ?_⟩
  obtain ⟨sg, hs', rfl⟩ := List.mem_map.mp hs
  simpa using b sg hs'⟩
abbrev OkAt (M : Mat) (path : PathD Pt) : Prop := AllP (fun p => AppOk M p.1 p.2) path
theorem okAt {k q K Q : Nat} {M : Mat} {path : PathD Pt} (hM : BdA K Q M) (h : AllP (BdP k q) path) (h1 : K + k + 8 * (Q + q) + 4 ≤ 1000000) (h2 : Q + q ≤ 100000) : OkAt M path := h.mono fun _ hp => appOk_of hM hp h1 h2
theorem mapBd {k q K Q : Nat} {M : Mat} {path : PathD Pt} (hM : BdA K Q M) (h : AllP (BdP k q) path) : AllP (BdP (K + k + 8 * (Q + q) + 4) (Q + q)) (mapD (appD M) path) := mapD_all h fun _ hp => appD_bd hM hp
theorem bdI {a b c d e f : Int} (h : a.natAbs < 8 ∧ b.natAbs < 8 ∧ c.natAbs < 8 ∧ d.natAbs < 8 ∧ e.natAbs < 8 ∧ f.natAbs < 8) : BdA 3 0 ⟨dI a, dI b, dI c, dI d, dI e, dI f⟩ := by
  obtain ⟨a, b, c, d, e, f⟩ := h
  exact ⟨dI_bd a, dI_bd b, dI_bd c, dI_bd d, dI_bd e, dI_bd f⟩
/-- all that the law's walk asks of its data -/
structure LawG (D : PathD Pt) (M N : Mat) : Prop where
  s0 : Small D
  a1 : OkAt M D
  a2 : OkAt N (mapD (appD M) D)
  mm : MulOk M N
  a3 : OkAt (mulM M N) D
  q1 : OkAt qtM D
  q2 : OkAt qtM (mapD (appD qtM) D)
  q3 : OkAt qtM (mapD (appD qtM) (mapD (appD qtM) D))
  q4 : OkAt qtM (mapD (appD qtM) (mapD (appD qtM) (mapD (appD qtM) D)))
  i1 : OkAt idM D
  c1 : OkAt scM D
  c2 : OkAt trM (mapD (appD scM) D)
  e1 : mapD tolP (mapD (appD N) (mapD (appD M) D)) = mapD tolP (mapD (appD (mulM M N)) D)
  e2 : mapD tolP (mapD (appD qtM) (mapD (appD qtM) (mapD (appD qtM) (mapD (appD qtM) D)))) = mapD tolP D
  e3 : mapD tolP (mapD (appD idM) D) = mapD tolP D
  e4 : namesD (mapD (appD N) (mapD (appD M) D)) = namesD D
  e5 : (ptsD (mapD (appD N) (mapD (appD M) D))).length = (ptsD D).length
theorem lawG {Z : Nat} {D : PathD Pt} {M N : Mat} (h : PathG Z D) (hZ : Z ≤ 300) (hM : MatG M) (hN : MatG N) : LawG D M N := by
  have b0 : AllP (BdP 40 4) D := h.all.mono fun _ hp => hp.bd
  have cc : AllP CanP D := h.all.mono fun _ hp => hp.can
  have hq : BdA 3 0 qtM := bdI (by decide)
  have hi : BdA 3 0 idM := bdI (by decide)
  have hs : BdA 3 0 scM := bdI (by decide)
  have ht : BdA 3 0 trM := bdI (by decide)
  have q1 := mapBd hq b0
  have q2 := mapBd hq q1
  have q3 := mapBd hq q2
  constructor
  · exact Small.of h.ok hZ
  · exact okAt hM b0 (by omega) (by omega)
  · exact okAt hN (mapBd hM b0) (by omega) (by omega)
  · exact mulOk_of hM hN (by omega) (by omega)
  · exact okAt (mulM_bd hM hN) b0 (by omega) (by omega)
  · exact okAt hq b0 (by omega) (by omega)
  · exact okAt hq q1 (by omega) (by omega)
  · exact okAt hq q2 (by omega) (by omega)
  · exact okAt hq q3 (by omega) (by omega)
  · exact okAt hi b0 (by omega) (by omega)
  · exact okAt hs b0 (by omega) (by omega)
  · exact okAt ht (mapBd hs b0) (by omega) (by omega)
  · rw [show mapD (appD N) (mapD (appD M) D) = mapD (appD (mulM M N)) D from by rw [mapD_mapD]; exact mapD_congr cc fun p _ => appD_mul M N p]
  · rw [mapD_mapD, mapD_mapD, mapD_mapD, mapD_mapD]
    exact mapD_congr cc fun p hp => by rw [appD_qt4 hp]
  · rw [mapD_mapD]
    exact mapD_congr cc fun p hp => by rw [appD_id hp]
  · rw [names_mapD, names_mapD]
  · rw [pts_mapD, pts_mapD, List.length_map, List.length_map]
/-- the box -/
theorem leastD_map {f : Dec → Dec} (hf : ∀ a b, cmpD (f a) (f b) > 0 ↔ cmpD a b > 0) : ∀ (ds : List Dec) (d : Dec), leastD (f d) (ds.map f) = f (leastD d ds)
  | [], d => rfl
  | e :: ds, d => by
    have := leastD_map hf ds (if cmpD d e > 0 then e else d)
    simp only [List.map_cons, leastD]
    rw [← this]
    congr 1
    by_cases h : cmpD d e > 0
    · rw [if_pos h, if_pos ((hf _ _).mpr h)]
    · rw [if_neg h, if_neg fun k => h ((hf _ _).mp k)]
theorem greatD_map {f : Dec → Dec} (hf : ∀ a b, cmpD (f a) (f b) < 0 ↔ cmpD a b < 0) : ∀ (ds : List Dec) (d : Dec), greatD (f d) (ds.map f) = f (greatD d ds)
  | [], d => rfl
  | e :: ds, d => by
    have := greatD_map hf ds (if cmpD d e < 0 then e else d)
    simp only [List.map_cons, greatD]
    rw [← this]
    congr 1
    by_cases h : cmpD d e < 0
    · rw [if_pos h, if_pos ((hf _ _).mpr h)]
    · rw [if_neg h, if_neg fun k => h ((hf _ _).mp k)]
theorem leastD_mem : ∀ (ds : List Dec) (d : Dec), leastD d ds ∈ d :: ds
  | [], d => .head _
  | e :: ds, d => by
    have := leastD_mem ds (if cmpD d e > 0 then e else d)
    unfold leastD
    rcases List.mem_cons.mp this with h | h
    · rw [h]; split
      · exact .tail _ (.head _)
      · exact .head _
    · exact .tail _ (.tail _ h)
theorem greatD_mem : ∀ (ds : List Dec) (d : Dec), greatD d ds ∈ d :: ds
  | [], d => .head _
  | e :: ds, d => by
    have := greatD_mem ds (if cmpD d e < 0 then e else d)
    unfold greatD
    rcases List.mem_cons.mp this with h | h
    · rw [h]; split
      · exact .tail _ (.head _)
      · exact .head _
    · exact .tail _ (.tail _ h)
theorem dueX_pos (a b : Dec) : cmpD (dueX a) (dueX b) > 0 ↔ cmpD a b > 0 := by rw [cmp_pos, cmp_pos, dueX_val, dueX_val]; grind
theorem dueX_neg (a b : Dec) : cmpD (dueX a) (dueX b) < 0 ↔ cmpD a b < 0 := by rw [cmp_neg, cmp_neg, dueX_val, dueX_val]; grind
theorem dueY_pos (a b : Dec) : cmpD (dueY a) (dueY b) > 0 ↔ cmpD a b > 0 := by rw [cmp_pos, cmp_pos, dueY_val, dueY_val]; grind
theorem dueY_neg (a b : Dec) : cmpD (dueY a) (dueY b) < 0 ↔ cmpD a b < 0 := by rw [cmp_neg, cmp_neg, dueY_val, dueY_val]; grind
abbrev boxA (p : Pt) (ps : List Pt) : Dec := leastD p.1 (ps.map Prod.fst)
abbrev boxB (p : Pt) (ps : List Pt) : Dec := leastD p.2 (ps.map Prod.snd)
abbrev boxC (p : Pt) (ps : List Pt) : Dec := greatD p.1 (ps.map Prod.fst)
abbrev boxD (p : Pt) (ps : List Pt) : Dec := greatD p.2 (ps.map Prod.snd)
structure BoxG (D : PathD Pt) (p : Pt) (ps : List Pt) (p' : Pt) (ps' : List Pt) : Prop where
  e : ptsD D = p :: ps
  e' : ptsD (mapD (appD trM) (mapD (appD scM) D)) = p' :: ps'
  b : ∀ e ∈ p :: ps, BdM e.1 ∧ BdM e.2
  b' : ∀ e ∈ p' :: ps', BdM e.1 ∧ BdM e.2
  z : ps.length ≤ 20000
  z' : ps'.length ≤ 20000
  x1 : boxA p' ps' = dueX (boxA p ps)
  x2 : boxB p' ps' = dueY (boxB p ps)
  x3 : boxC p' ps' = dueX (boxC p ps)
  x4 : boxD p' ps' = dueY (boxD p ps)
  b1 : BdM (boxA p ps)
  b2 : BdM (boxB p ps)
  b3 : BdM (boxC p ps)
  b4 : BdM (boxD p ps)
  m1 : BdM (mulD (boxA p ps) (dI 2))
  m2 : BdM (mulD (boxB p ps) (dI 3))
  m3 : BdM (mulD (boxC p ps) (dI 2))
  m4 : BdM (mulD (boxD p ps) (dI 3))
theorem pts_le {D : PathD Pt} (h : PathOk 60 D) : (ptsD D).length ≤ 20000 := by
  have h1 : ∀ pt ∈ D, (pt.flatMap fun sg => sg.2).length ≤ 180 := fun pt hp => by
    obtain ⟨a, b, c, d, e⟩ := h.part pt hp
    have := flat_le (f := fun sg : SegD Pt => sg.2) (N := 3) (l := pt) e
    omega
  have h2 := flat_le (f := fun pt : PartD Pt => pt.flatMap fun sg => sg.2) (N := 180) (l := D) h1
  have h3 := h.len
  unfold ptsD
  omega
theorem boxG {Z : Nat} {D : PathD Pt} (h : PathG Z D) (hz : (ptsD D).length ≤ 20000) : ∃ p ps p' ps', BoxG D p ps p' ps' := by
  have b0 : AllP (BdP 40 4) D := h.all.mono fun _ hp => hp.bd
  have hs : BdA 3 0 scM := bdI (by decide)
  have ht : BdA 3 0 trM := bdI (by decide)
  have b2 := mapBd ht (mapBd hs b0)
  have hne := pts_ne h.ok
  obtain ⟨p, ps, e⟩ : ∃ p ps, ptsD D = p :: ps := by
    cases hq : ptsD D with
    | nil => exact absurd hq hne
    | cons p ps => exact ⟨p, ps, rfl⟩
  have e' : ptsD (mapD (appD trM) (mapD (appD scM) D)) = (dueX p.1, dueY p.2) :: ps.map fun p => (dueX p.1, dueY p.2) := by
    rw [mapD_mapD, pts_mapD, e]
    simp only [appD_box, List.map_cons]
  have q0 : ∀ x ∈ p :: ps, BdP 40 4 x := by rw [← e]; exact pts_all b0
  have q2 := pts_all b2
  rw [e'] at q2
  have zz : ps.length ≤ 20000 := by rw [e] at hz; simp at hz; omega
  have hm : ∀ d, d ∈ p.1 :: ps.map Prod.fst ∨ d ∈ p.2 :: ps.map Prod.snd → Bd 40 4 d := by
    rintro d (hd | hd)
    · rcases List.mem_cons.mp hd with rfl | hd
      · exact (q0 p (.head _)).1
      · obtain ⟨x, hx, rfl⟩ := List.mem_map.mp hd; exact (q0 x (.tail _ hx)).1
    · rcases List.mem_cons.mp hd with rfl | hd
      · exact (q0 p (.head _)).2
      · obtain ⟨x, hx, rfl⟩ := List.mem_map.mp hd; exact (q0 x (.tail _ hx)).2
  have g1 : Bd 40 4 (boxA p ps) := hm _ (.inl (leastD_mem _ _))
  have g2 : Bd 40 4 (boxB p ps) := hm _ (.inr (leastD_mem _ _))
  have g3 : Bd 40 4 (boxC p ps) := hm _ (.inl (greatD_mem _ _))
  have g4 : Bd 40 4 (boxD p ps) := hm _ (.inr (greatD_mem _ _))
  have d2 : Bd 3 0 (dI 2) := dI_bd (by decide)
  have d3 : Bd 3 0 (dI 3) := dI_bd (by decide)
  refine ⟨p, ps, _, _, e, e', fun x hx => ?_, fun x hx => ?_, zz, by simpa using zz, ?_, ?_, ?_, ?_, g1.mono (by omega) (by omega), g2.mono (by omega) (by omega), g3.mono (by omega) (by omega), g4.mono (by omega) (by omega),
    (mulD_bd g1 d2).mono (by omega) (by omega), (mulD_bd g2 d3).mono (by omega) (by omega), (mulD_bd g3 d2).mono (by omega) (by omega), (mulD_bd g4 d3).mono (by omega) (by omega)⟩
  · exact ⟨(q0 x hx).1.mono (by omega) (by omega), (q0 x hx).2.mono (by omega) (by omega)⟩
  · exact ⟨(q2 x hx).1.mono (by omega) (by omega), (q2 x hx).2.mono (by omega) (by omega)⟩
  · rw [← leastD_map dueX_pos]; simp [boxA, Function.comp_def]
  · rw [← leastD_map dueY_pos]; simp [boxB, Function.comp_def]
  · rw [← greatD_map dueX_neg]; simp [boxC, Function.comp_def]
  · rw [← greatD_map dueY_neg]; simp [boxD, Function.comp_def]

-- 25_boxes
def PPts1 (w : World) (n₀ : Led) (p : Pt) (ps : List Pt) (r : Value) (n : Led) : Prop := ∃ (q : Addr) (k : Nat) (v : Value) (us : List Value), r = .ref q ∧ (q, lstO (v :: us) k) ∈ n ∧ All2 (PairIn w n₀) (v :: us) (p :: ps)
theorem points_spec1 {w : World} {news n1 : Led} {v : Value} {path : PathD Pt} {p : Pt} {ps : List Pt} (h : PathIn w (PairIn w) n1 v path) (s1 : ∀ p ∈ n1, p ∈ news) (ok : Small path) (e : ptsD path = p :: ps) : Spec w 10 381 [v] news (PPts1 w n1 p ps) :=
  (points_spec h s1 ok).weaken fun r n hP => by
    obtain ⟨q, k, vs, rfl, hm, ha⟩ := hP
    rw [e] at ha
    obtain ⟨v, us, rfl, h1, h2⟩ := All2.cons_inv ha
    exact ⟨q, k, v, us, rfl, hm, h1, h2⟩
def PLen {π : Type} (ds : List π) (r : Value) (n : Led) : Prop := ∃ (q : Addr) (k : Nat) (vs : List Value), r = .ref q ∧ (q, lstO vs k) ∈ n ∧ vs.length = ds.length
theorem reg_P25_boxes_0 : True := by
  k_with "M:S spec" => iterate 777 (first
  | ((with_reducible show Spec _ _ 381 _ _ _); refine' points_spec1 ?z9a ?z9b ?z9c ?z9d; (case z9a => with_reducible assumption); (case z9d => with_reducible assumption); (case z9c => with_reducible assumption); (case z9b => walk_at "S sub"))
  | ((with_reducible show Spec _ _ 281 _ _ _); refine' box_spec ?z9a ?z9b ?z9c ?z9d ?z9e; (case z9a => k_mem); (case z9c => with_reducible assumption); (case z9d => with_reducible assumption); (case z9e => with_reducible assumption); (case z9b => walk_at "S sub"))
  | fail "S spec")
  k_with "M:S post" => iterate 777 (first
  | ((with_reducible rename PPts1 _ _ _ _ _ _ => z9hP); (obtain ⟨_, _, _, _, z9hE, z9hM, z9hA⟩ := z9hP); subst z9hE)
  | ((with_reducible rename PBox _ _ _ _ _ _ _ _ => z9hP); (have z9hQ := z9hP); (obtain ⟨_, _, _, _, _, _, z9hE, z9hM, z9hA, z9hB, z9hC, z9hD⟩ := z9hP); subst z9hE; (have z9hA2 := z9hA); (have z9hB2 := z9hB); (have z9hC2 := z9hC); (have z9hD2 := z9hD); (obtain ⟨_, _, _, _, _, _, _, z9hE, _, _⟩ := DecIn.out z9hA2; clear z9hA2); subst z9hE; (obtain ⟨_, _, _, _, _, _, _, z9hE, _, _⟩ := DecIn.out z9hB2; clear z9hB2); subst z9hE; (obtain ⟨_, _, _, _, _, _, _, z9hE, _, _⟩ := DecIn.out z9hC2; clear z9hC2); subst z9hE; (obtain ⟨_, _, _, _, _, _, _, z9hE, _, _⟩ := DecIn.out z9hD2; clear z9hD2); subst z9hE))
  trivial
theorem pathbox_spec {w : World} {news n1 : Led} {v : Value} {path : PathD Pt} {p : Pt} {ps : List Pt} (h : PathIn w (PairIn w) n1 v path) (s1 : ∀ p ∈ n1, p ∈ news) (ok : Small path) (e : ptsD path = p :: ps) (B1 : ∀ e ∈ p :: ps, BdM e.1 ∧ BdM e.2) (hz : ps.length ≤ 20000) :
    Spec w 36 407 [v] news (PBox w n1 (boxA p ps) (boxB p ps) (boxC p ps) (boxD p ps)) := by
  refine ⟨?_⟩
  intro prog p' loose mean mg mb dp un gd cn cs aa ccd cl outer A₀ base h₀ L m s Q E B F X N T hk hdp hun hret
  have hh := h
  obtain ⟨_, _, _, _, _, rfl, _⟩ := PathIn.out h; clear h
  refine wpAny_call ?_
  k_dflt ktr_enter
  k_steps
  walk_at "S end"
  exact ⟨_, _, _, _, _, _, rfl, by walk_at "S memf", by with_reducible assumption, by with_reducible assumption, by with_reducible assumption, by with_reducible assumption⟩
theorem reg_P25_boxes_1 : True := by
  k_with "M:S spec" => iterate 777 (((with_reducible show Spec _ _ 407 _ _ _); refine' pathbox_spec ?z9a ?z9b ?z9c ?z9d ?z9e ?z9f; (case z9a => with_reducible assumption); (case z9d => with_reducible assumption); (case z9c => with_reducible assumption); (case z9e => with_reducible assumption); (case z9f => with_reducible assumption); (case z9b => walk_at "S sub")))
  trivial
theorem reg_P25_boxes_2 : True := by
  k_with "M:CompRest" => iterate 777 (refine Stop.go ?_)
  trivial
def PTold4 (a b c d : Dec) (r : Value) (n : Led) : Prop := TupIn IPr n r [tolD a, tolD b, tolD c, tolD d]
theorem boxtold_spec {w : World} {news n1 : Led} {v : Value} {path : PathD Pt} {p : Pt} {ps : List Pt} (h : PathIn w (PairIn w) n1 v path) (s1 : ∀ p ∈ n1, p ∈ news) (ok : Small path) (e : ptsD path = p :: ps) (B1 : ∀ e ∈ p :: ps, BdM e.1 ∧ BdM e.2) (hz : ps.length ≤ 20000) :
    Spec w 42 452 [v] news (PTold4 (boxA p ps) (boxB p ps) (boxC p ps) (boxD p ps)) := by
  refine ⟨?_⟩
  intro prog p' loose mean mg mb dp un gd cn cs aa ccd cl outer A₀ base h₀ L m s Q E B F X N T hk hdp hun hret
  have hh := h
  obtain ⟨_, _, _, _, _, rfl, _⟩ := PathIn.out h; clear h
  refine wpAny_call ?_
  k_dflt ktr_enter
  k_steps
  refine ⟨?_⟩
  refine comp_map2 (R := fun _ v d => DecIn w n1 v d) (R' := IPr) tolD (fun _ _ _ _ h _ => h) IPr.mono (ds := [boxA p ps, boxB p ps, boxC p ps, boxD p ps]) (All2.cons (by with_reducible assumption) (All2.cons (by with_reducible assumption) (All2.cons (by with_reducible assumption) (All2.one (by with_reducible assumption))))) (fun t => ?_) ?_ ?_
  · exact List.mem_append.mpr (.inl (by walk_at "S memf"))
  · rintro v6 d6 I6 oI6 C6 oC6 D6 oD6 m₆ nx6 h6 tk6 E6 hv6 hs6 hC6 hx6 F6 N6 o3 o4 o5 i1 i2 i3
    have hm1' : ∀ p ∈ n1, p ∈ nx6 := fun p hp => hs6 p (by simp [s1 p hp])
    have hv7 := hv6
    obtain ⟨_, _, _, _, _, _, _, rfl, _, _⟩ := DecIn.out hv7; clear hv7
    k_steps
    walk_at "S cend2"
    exact ⟨_, _, _, _, rfl, by dsimp only [tolD]; walk_at "S memf"⟩
  · intro ys6 t6 hy6 up6
    have z7 := hy6.length
    have z8 : ys6.length ≤ 1000 := by rw [z7]; simp
    k_steps
    walk_at "S end"
    exact ⟨_, _, _, rfl, by walk_at "S mem", hy6.imp fun v d h => IPr.mono _ _ _ _ h (by walk_at "S sub")⟩

-- 26_path
theorem path_new0 {w : World} {news : Led} : Spec w 6 300 [] news (PPathN w (.ref 289)) := by
  refine ⟨?_⟩
  intro prog p loose mean mg mb dp un gd cn cs aa ccd cl outer A₀ base h₀ L m s Q E B F X N T hk hdp hun hret
  walk1
  k_steps
  walk_at "S end"
  exact ⟨_, _, _, _, rfl, by k_mem, by k_mem⟩
theorem nil289 {w : World} {h₀ h : Heap} {L : Addr} {m : Str → Option Value} (X : (hd.heap_39 w.params).In h₀) (F : Fr h₀ L h m) : IsTup h 289 ([] : List Value).toArray := by
  have e : ∃ n, (hd.heap_39 w.params).lookup 289 = some { cls := .type "tuple", data := .seq #[] n } := ⟨_, rfl⟩
  obtain ⟨n, e⟩ := e
  exact ⟨_, F.keep _ _ (X _ _ e), rfl, n, rfl⟩
theorem neNil289 {prog : Program} {w : World} {A : Around} {E : Value → Shared → Prop} {s : Shared} {h₀ : Heap} {L b : Addr} {m : Str → Option Value} {news : Led} {k2 : Nat} {Q : Value → Shared → Prop} (X : (hd.heap_39 w.params).In h₀) (F : Fr h₀ L s.heap m) (N : News h₀ L s.heap news) (hb : (b, tupO [] k2) ∈ news) (hu : A.units < cLine) (h : Q (.bool false) s) :
    wpAny (model prog w) A (compareOp .NotEq (.ref 289) (.ref b)) Q E s := by
  have e : s.heap.IsTuple 289 #[] := nil289 X F
  exact PySem.SeqAt.RcNeAt.tuples (e := fun _ => true) e (isTuple N hb) hu (fun j _ h2 => by simp at h2) _ _ _ _ (by simpa using h)
theorem addNil289 {prog : Program} {w : World} {A : Around} {E : Value → Shared → Prop} {s : Shared} {h₀ : Heap} {L b : Addr} {m : Str → Option Value} {news : Led} {k2 : Nat} {ws : List Value} {Q : Value → Shared → Prop} (X : (hd.heap_39 w.params).In h₀) (F : Fr h₀ L s.heap m) (N : News h₀ L s.heap news) (hb : (b, tupO ws k2) ∈ news) (hz : ws.length ≤ 1000) (h : Q (.ref b) s) :
    wpAny (model prog w) A (binaryOp .Add (.ref 289) (.ref b)) Q E s :=
  add_tuples (vs := []) F N (nil289 X F) (isTp N hb) (fun _ => h) (fun e => absurd rfl e) (fun e => absurd rfl e) (by rw [sizeLine_eq]; simp; omega)
theorem reg_P26_path_0 : True := by
  k_with "M:compareOp NotEq ref ref" => iterate 777 ((k_here; (with_reducible show wpAny _ _ (compareOp CmpOp.NotEq (Value.ref 289) (Value.ref _)) _ _ _); k_dflt (refine' neNil289 ?z9x ?z9f ?z9a ?z9b ?z9d ?_; (case z9x => k_asm); (case z9f => k_asm); (case z9a => k_asm); (case z9b => k_mem); (case z9d => walk_at "S units"); k_whole)))
  k_with "M:binaryOp Add ref ref" => iterate 777 ((k_here; (with_reducible show wpAny _ _ (binaryOp _ (Value.ref 289) (Value.ref _)) _ _ _); k_dflt (refine' addNil289 ?z9x ?z9f ?z9a ?z9b ?z9d ?_; (case z9x => k_asm); (case z9f => k_asm); (case z9a => k_asm); (case z9b => k_mem); (case z9d => walk_at "S size"); k_whole)))
  trivial
theorem rect_spec2 {w : World} {news n1 n2 : Led} {v v2 v3 : Value} {path : PathD Pt} {x y : Dec} {i j : Int} {t1 t2 : Tok} (h : PathIn w (PairIn w) n1 v path) (s1 : ∀ p ∈ n1, p ∈ news) (h2 : NumIn w n2 v2 x) (h3 : NumIn w n2 v3 y) (s2 : ∀ p ∈ n2, p ∈ news)
    (g : PathG 800 path) (hx : NumG x) (hy : NumG y) (hi : i.natAbs < 2 ^ 7) (hj : j.natAbs < 2 ^ 7) : Spec w 30 374 [v, v2, v3, .int i t1, .int j t2] news (PPathW w (n1 ++ n2) (rectD path x y i j)) := by
  obtain ⟨o0, o1, o2, o3, o4⟩ := rectG g hx hy hi hj
  exact rect_spec h s1 h2 h3 s2 (g.ok.mono (by omega)) (o0.ok.mono (by omega)) (o1.ok.mono (by omega)) (o2.ok.mono (by omega)) (o3.ok.mono (by omega)) (hx.2.mono (by omega) (by omega)) (hy.2.mono (by omega) (by omega)) (dI_bd (Nat.lt_of_lt_of_le hi (Nat.pow_le_pow_right (by decide) (by omega)))) (dI_bd (Nat.lt_of_lt_of_le hj (Nat.pow_le_pow_right (by decide) (by omega))))
theorem range_iter {prog : Program} {w : World} {A : Around} {E : Value → Shared → Prop} {s : Shared} {env : Env} {h₀ : Heap} {x : Str} {body : List Stmt} {Q : Flow → Shared → Prop} {m : Str → Option Value} {news : Led} {n : Int} {t : Tok}
    (hh : A.handled = none) (F : Fr h₀ env.locals s.heap m) (N : News h₀ env.locals s.heap news) (h0 : 0 ≤ n) (h1 : n ≤ 1000) (rest : ∀ (I : Addr) h' tk', (∀ p ∈ news, p.1 < I) → RangeRest prog w A E h₀ env x body Q { s with heap := h', toks := tk' } I 0 n.toNat n.toNat 0 m news) :
    wpAny (model prog w) A (call (.type "range") [.int n t]) (fun xv s₁ => wpAny (model prog w) A (pyIter xv) (fun it s₂ => LoopAtV prog w A h₀ env x body Q E it s₂) E s₁) E s := by
  refine range1_rows F N fun h' tk t₁ u₁ v₁ hr F' N' up => ?_
  refine iter_rangeUnr (n := n.toNat) hh hr (small_one (by decide) (by decide) (by omega) (by omega)) (by rw [rangeSize_nat]; congr 1; omega) F' N' fun I hI => ?_
  exact rest I _ _ hI
theorem move0_spec {w : World} {news n1 n2 n3 : Led} {v v2 v3 : Value} {x y : Dec} (h : PPathN w (.ref 289) v n1) (s1 : ∀ p ∈ n1, p ∈ news) (h2 : NumIn w n2 v2 x) (s2 : ∀ p ∈ n2, p ∈ news) (h3 : NumIn w n3 v3 y) (s3 : ∀ p ∈ n3, p ∈ news) :
    Spec w 16 339 [v, v2, v3] news (PPathW w (n2 ++ n3) [[(sMove, [(x, y)])]]) := by
  refine ⟨?_⟩
  intro prog p' loose mean mg mb dp un gd cn cs aa ccd cl outer A₀ base h₀ L m s Q E B F X N T hk hdp hun hret
  obtain ⟨_, _, _, _, rfl, _, _⟩ := h
  have g2 : NumIn w (n2 ++ n3) v2 x := h2.mono fun p hp => List.mem_append.mpr (.inl hp)
  have g3 : NumIn w (n2 ++ n3) v3 y := h3.mono fun p hp => List.mem_append.mpr (.inr hp)
  clear h2 h3
  refine wpAny_call ?_
  k_dflt ktr_enter
  k_steps
  walk_at "S end"
  exact ⟨_, _, _, _, _, rfl, by walk_at "S memf", by walk_at "S memf", _, _, _, rfl, by walk_at "S memf", All2.one ⟨_, _, _, rfl, by walk_at "S mem", All2.one ⟨_, _, _, _, rfl, by walk_at "S mem", All2.one (by walk_at "S pair")⟩⟩⟩
theorem reg_P26_path_1 : True := by
  k_with "M:S spec" => iterate 777 (first
  | ((with_reducible show Spec _ _ 300 _ _ _); exact path_new0)
  | ((with_reducible show Spec _ _ 339 _ _ _); refine' move0_spec ?z9a ?z9b ?z9c ?z9d ?z9e ?z9f; (case z9a => with_reducible assumption); (case z9c => walk_at "S num0"); (case z9e => walk_at "S num0"); (case z9b => walk_at "S sub"); (case z9d => walk_at "S sub"); (case z9f => walk_at "S sub"))
  | ((with_reducible show Spec _ _ 374 _ _ _); refine' rect_spec2 ?z9a ?z9b ?z9c ?z9d ?z9e ?z9f ?z9g ?z9h ?z9i ?z9j; (case z9a => with_reducible assumption); (case z9f => with_reducible assumption); (case z9c => walk_at "S num0"); (case z9d => walk_at "S num0"); (case z9b => walk_at "S sub"); (case z9e => walk_at "S sub"); (case z9g => with_reducible assumption); (case z9h => with_reducible assumption); (case z9i => decide); (case z9j => decide))
  | ((with_reducible show Spec _ _ 360 _ _ _); refine' curve_spec ?z9a ?z9b ?z9c ?z9d ?z9e ?z9f ?z9g ?z9h ?z9i; (case z9a => with_reducible assumption); (case z9i => with_reducible assumption); (case z9c => with_reducible assumption); (case z9e => with_reducible assumption); (case z9g => with_reducible assumption); (case z9b => walk_at "S sub"); (case z9d => walk_at "S sub"); (case z9f => walk_at "S sub"); (case z9h => walk_at "S sub"))
  | fail "S spec")
  k_with "M:call type:range" => iterate 777 ((k_here; (with_reducible show wpAny _ _ (call (Value.type _) [Value.int _ _]) (fun xv s₁ => wpAny _ _ (pyIter xv) (fun it s₂ => LoopAtV _ _ _ _ _ _ _ _ _ it s₂) _ s₁) _ _); k_dflt (refine' range_iter ?z9a ?z9b ?z9c ?z9d ?z9e ?_; (case z9a => exact rfl); (case z9b => k_asm); (case z9c => k_asm); (case z9d => omega); (case z9e => omega)); refine Stop.go ?_))
  trivial
theorem range_foldM {prog : Program} {w : World} {A : Around} {E : Value → Shared → Prop} {s : Shared} {env : Env} {h₀ : Heap} {x : Str} {body : List Stmt} {Q : Flow → Shared → Prop} {I q : Addr} {a : Int} {nN : Nat} (Inv : Nat → Obj → (Str → Option Value) → Led → Prop) (hqI : @Ne Nat q I)
    (turn : ∀ k i m o nx h tk t oI, Inv (k + 1) o m nx → Fr h₀ env.locals h (fun y => if y = x then some (.int i t) else m y) → News h₀ env.locals h ((I, oI) :: (q, o) :: nx) → (∀ p ∈ nx, p.1 ≠ I) → (∀ p ∈ nx, p.1 ≠ q) →
      wpAny (model prog w) A (execs body env) (MuPost h₀ env.locals I oI q nx { s with heap := h, toks := tk } (Inv k) Q) E { s with heap := h, toks := tk }) :
    ∀ (k i : Nat) (m : Str → Option Value) (o : Obj) (nx : Led), Inv k o m nx → (∀ p ∈ nx, p.1 ≠ I) → (∀ p ∈ nx, p.1 ≠ q) →
      (∀ m' o' t h tk, Inv 0 o' m' (nx ++ t) → Fr h₀ env.locals h m' → News h₀ env.locals h ((q, o') :: (nx ++ t)) → (∀ p ∈ t, p.1 ≠ q) → Up nx t → Q .next { s with heap := h, toks := tk }) →
      RangeRest prog w A E h₀ env x body Q s I a nN k i m ((q, o) :: nx) := by
  intro k
  induction k with
  | zero =>
    intro i m o nx hi _ _ hd
    exact RangeRest.zero fun h tk F N => hd m o [] h tk (by rw [List.append_nil]; exact hi) F (by rw [List.append_nil]; exact N) (fun _ h => nomatch h) Up.nil
  | succ k ih =>
    intro i m o nx hi hne hnq hd
    refine RangeRest.succ fun t h tk F N => ?_
    refine wpAny_mono (turn k _ m o nx h tk t _ hi F N hne hnq) (fun f s₃ hp => ?_) fun _ _ e => e
    have fin : ∀ {oI : Obj}, MuEnd h₀ env.locals I oI q nx { s with heap := h, toks := tk } (Inv k) s₃ → UnrEnd h₀ env.locals { s with heap := h, toks := tk } I oI (RangeRest prog w A E h₀ env x body Q s I a nN k (i + 1)) s₃ := by
      rintro oI ⟨h', tk', m', t, o', rfl, F', N', u1, u2, U, hi'⟩
      have hne' : ∀ p ∈ nx ++ t, p.1 ≠ I := ne_app hne u1
      have hnq' : ∀ p ∈ nx ++ t, p.1 ≠ q := ne_app hnq u2
      refine ⟨h', tk', m', (q, o') :: (nx ++ t), rfl, F', N', ne_consL (c := (q, o')) hqI hne', ?_⟩
      exact ih (i + 1) m' o' (nx ++ t) hi' hne' hnq' fun m'' o2 t2 h2 tk2 i2 F2 N2 q2 U2 => hd m'' o2 (t ++ t2) h2 tk2 (by rw [← List.append_assoc]; exact i2) F2 (by rw [← List.append_assoc]; exact N2)
          (ne_app u2 q2) (Up.app U fun a ha => U2 a (List.mem_append.mpr (.inl ha)))
    cases f with
    | ret v => exact hp
    | brk => exact hp
    | next => exact fin hp
    | cont => exact fin hp
theorem path0G {p : Pt} (h : PtG p) : PathG 1 [[(sMove, [p])]] := by
  refine ⟨⟨by simp, by simp, fun pt hp => ?_⟩, fun pt hp sg hs x hx => ?_⟩
  · obtain rfl := List.mem_singleton.mp hp
    exact ⟨by simp, by simp, ⟨p, rfl⟩, ⟨p, rfl⟩, by simp⟩
  · obtain rfl := List.mem_singleton.mp hp
    obtain rfl := List.mem_singleton.mp hs
    obtain rfl := List.mem_singleton.mp hx
    exact h
/-- a drawn path -/
def PPathP (w : World) (n : Nat) (l : Led) (r : Value) (o : Obj) (tl : Led) : Prop := ∃ path, PathIn w (PairIn w) tl r path ∧ PathG 60 path ∧ PoolOk n l o
def PathInv (w : World) (news n0 : Led) (n : Nat) (q : Addr) (k : Nat) (o : Obj) (m : Str → Option Value) (nx : Led) : Prop :=
  ∃ (tp : Led) (vp v0 : Value) (path : PathD Pt) (a b c : Option Value), nx = news ++ tp ∧ PathIn w (PairIn w) tp vp path ∧ PathG (60 - 5 * k) path ∧ PoolOk (n + 200 - 13 * k) n0 o ∧ k ≤ 8 ∧
    ∀ y, m y = if y = Str.ofString "spot" then a else if y = Str.ofString "way" then b else if y = Str.ofString "turn" then c else if y = Str.ofString "path" then some vp else if y = Str.ofString "start" then some v0 else ([(Str.ofString "pool", Value.ref q)] : List (Str × Value)).lookup y
theorem lawpath_spec {w : World} {news n0 : Led} {q : Addr} {n : Nat} {o : Obj} (ok : PoolOk n n0 o) (s0 : ∀ p ∈ n0, p ∈ news) (hn : n ≤ 1000) :
    SpecM w 40 440 [.ref q] (fun _ => True) q o news (PPathP w (n + 200) n0) := by
  refine ⟨?_⟩
  intro prog p' loose mean mg mb dp un gd cn cs' aa ccd cl outer A₀ base h₀ L m s Q E B F X N off T _ hk hdp hun hret
  refine wpAny_call ?_
  k_dflt ktr_enter
  k_steps
  refine ⟨?_⟩
  intro I h9 tk9 aI
  refine range_foldM (PathInv w news n0 n q) ?_ ?_ _ _ _ _ _ ?_ ?_ ?_ ?_
  · exact Nat.ne_of_lt (aI _ (.head _))
  · rintro k i m1 o1 nx h tk t oI ⟨tp, vp, v0, path, a, b, c, hnx, hP, hG, hok, hk8, hm⟩ F1 N' oI1 oq1
    obtain rfl := funext hm
    have F' := F1
    dsimp only at F'
    have hn0 : ∀ p ∈ n0, p ∈ nx := fun p hp => by rw [hnx]; simp [s0 p hp]
    have htp : ∀ p ∈ tp, p ∈ nx := fun p hp => by rw [hnx]; simp [hp]
    have hok9 : PathOk 900 path := hG.ok.mono (by omega)
    have hG8 : PathG 800 path := hG.mono (by omega)
    have hP2 := hP
    obtain ⟨_, _, _, _, _, rfl, _⟩ := PathIn.out hP2; clear hP2
    have hqI : q ≠ I := Nat.ne_of_lt (aI _ (.head _))
    clear F1 hm hret
    k_steps
    all_goals
      walk_at "S mturn"
      refine ⟨tp ++ _, _, _, _, _, _, _, by rw [hnx, List.append_assoc], PathIn.mono pairMono _ _ _ _ (by with_reducible assumption) (by walk_at "S sub"), ?_, PoolOk.mono (by with_reducible assumption) (by omega) (fun _ h => h), by omega, by walk_at "S map"⟩
    · exact (moveG hG (NumG.pt (by with_reducible assumption) (by with_reducible assumption))).mono (by omega)
    · exact (closeG hG).mono (by omega)
    · exact (rectG hG (by with_reducible assumption) (by with_reducible assumption) (by decide) (by decide)).o4.mono (by omega)
    · exact (curveG hG (by omega) (NumG.pt (by with_reducible assumption) (by with_reducible assumption)) (NumG.pt (by with_reducible assumption) (by with_reducible assumption)) (NumG.pt (by with_reducible assumption) (by with_reducible assumption))).mono (by omega)
    · exact (lineG hG (by omega) (NumG.pt (by with_reducible assumption) (by with_reducible assumption))).mono (by omega)
  · refine ⟨_, _, _, _, none, none, none, rfl, PathIn.mono pairMono _ _ _ _ (by with_reducible assumption) (by walk_at "S sub"), (path0G (NumG.pt (by with_reducible assumption) (by with_reducible assumption))).mono (by omega), PoolOk.mono (by with_reducible assumption) (by omega) (fun _ h => h), by omega, by walk_at "S map"⟩
  · exact fun p hp => Nat.ne_of_lt (aI p (.tail _ hp))
  · walk_at "S off"
  · rintro m1 o1 t h tk ⟨tp, vp, v0, path, a, b, c, hnx, hP, hG, hok, hk8, hm⟩ F1 N1 o1 U
    obtain rfl := funext hm
    have F' := F1
    rw [List.append_assoc] at hnx
    have hnx2 := List.append_cancel_left hnx
    subst hnx2
    (try simp only [List.append_assoc] at N1)
    have hP2 := hP
    obtain ⟨_, _, _, _, _, rfl, _⟩ := PathIn.out hP2; clear hP2
    clear F1 hm
    k_steps
    walk_at "S mend"
    exact ⟨path, PathIn.mono pairMono _ _ _ _ hP (by walk_at "S sub"), hG.mono (by omega), hok.mono (by omega) fun _ h => h⟩

-- 27_lawbox
/-- the contract of a call that hands out a new entry, to be turned later -/
structure SpecN (w : World) (D : Nat) (f : Addr) (args : List Value) (H : Heap → Prop) (news : Led) (Post : Obj → Led → Prop) : Prop where
  go : ∀ (prog p : Program) (loose : List Str) (mean : ExcName → Option Value) (mg mb : Str → Option Value) (dp un : Nat) (gd : Option (List Code)) (cn : Str) (cs : Scope) (a : Addr) (ccd : Value) (cl : List (Str × Addr)) (outer : List Env) (A₀ : Around) (base h₀ : Heap) (L : Addr) (m : Str → Option Value) (s : Shared) (Q E : Value → Shared → Prop),
    Below A₀ base outer h₀ → Fr h₀ L s.heap m → (hd.heap_39 w.params).In h₀ → News h₀ L s.heap news → Top p loose mean mg mb h₀ → H base → cs.kind = .function → dp + D < recursionLimit → un + 8 * D < cLine →
    (∀ q o tl h' tk', Fr h₀ L h' m → News h₀ L h' ((q, o) :: (news ++ tl)) → (∀ p ∈ news ++ tl, p.1 ≠ q) → (∀ q ∈ news, ∀ p ∈ tl, @Ne Nat q.1 p.1) → Post o tl → Q (.ref q) { s with heap := h', toks := tk' }) →
    wpAny (model prog w) (ktrTop dp un gd cn cs L a ccd cl outer) (call (.ref f) args) Q E s
theorem SpecN.use {w : World} {D : Nat} {f : Addr} {args : List Value} {H : Heap → Prop} {news : Led} {Post : Obj → Led → Prop} {prog p : Program} {loose : List Str} {mean : ExcName → Option Value} {mg mb : Str → Option Value} {dp un : Nat} {gd : Option (List Code)} {cn : Str} {cs : Scope} {a : Addr} {ccd : Value} {cl : List (Str × Addr)} {outer : List Env} {A₀ : Around} {base h₀ : Heap} {L : Addr} {m : Str → Option Value} {s : Shared} {Q E : Value → Shared → Prop}
    (S : SpecN w D f args H news Post) (B : Below A₀ base outer h₀) (F : Fr h₀ L s.heap m) (X : (hd.heap_39 w.params).In h₀) (N : News h₀ L s.heap news) (T : Top p loose mean mg mb h₀) (hH : H base) (hk : cs.kind = .function) (hd : dp + D < recursionLimit) (hu : un + 8 * D < cLine)
    (ret : ∀ q o tl h' tk', Fr h₀ L h' m → News h₀ L h' ((q, o) :: (news ++ tl)) → (∀ p ∈ news ++ tl, p.1 ≠ q) → (∀ q ∈ news, ∀ p ∈ tl, @Ne Nat q.1 p.1) → Post o tl → Q (.ref q) { s with heap := h', toks := tk' }) :
    wpAny (model prog w) (ktrTop dp un gd cn cs L a ccd cl outer) (call (.ref f) args) Q E s := S.go _ _ _ _ _ _ _ _ _ _ _ _ _ _ _ _ _ _ _ _ _ _ _ B F X N T hH hk hd hu ret
theorem SpecN.end {q : Addr} {o : Obj} {news l r t : Led} {Post : Obj → Led → Prop} {h₀ : Heap} {L : Addr} {m : Str → Option Value} {s : Shared} {Q : Value → Shared → Prop}
    (ret : ∀ q o tl h' tk', Fr h₀ L h' m → News h₀ L h' ((q, o) :: (news ++ tl)) → (∀ p ∈ news ++ tl, p.1 ≠ q) → (∀ q ∈ news, ∀ p ∈ tl, @Ne Nat q.1 p.1) → Post o tl → Q (.ref q) { s with heap := h', toks := tk' })
    {h : Heap} {tk : Nat} (F : Fr h₀ L h m) (N : News h₀ L h l) (P : Pick q o l r) (S : Spl r news t) (U : Up news t) (hP : Post o t) : Q (.ref q) { s with heap := h, toks := tk } :=
  ret q o t h tk F (fun p hp => (List.mem_cons.mp hp).elim (fun e => e ▸ N _ P.mem) fun hp => N p (P.sub p (S.sub p hp))) (fun p hp => P.off p (S.sub p hp)) U hP
theorem reg_P27_lawbox_0 : True := by
  k_with "M:S nend" => iterate 777 ((refine' SpecN.end (by assumption) ?z9e1 ?z9e2 ?z9e3 ?z9e4 ?z9e5 ?z9e6; (case z9e1 => k_asm); (case z9e2 => assumption); (case z9e3 => walk_at "S pick"); (case z9e4 => walk_at "S spl"); (case z9e5 => walk_at "S up"); (try simp only [List.nil_append, List.cons_append, List.append_assoc])))
  trivial
def BoxInv (sc ca : Addr) (_ : Unit) (m : Str → Option Value) (_ : Led) : Prop :=
  ∃ (st g : Int) (tk tg : Tok) (cv : Option Value), 0 ≤ st ∧ st < 2147483647 ∧ 0 ≤ g ∧ g.natAbs < 2 ^ 700 ∧
    ∀ y, m y = if y = Str.ofString "state" then some (.int st tk) else if y = Str.ofString "cell" then cv else if y = Str.ofString "great" then some (.int g tg) else if y = Str.ofString "cells" then some (.ref ca) else ([(Str.ofString "script", Value.ref sc)] : List (Str × Value)).lookup y
theorem abs_nn (i : Int) : 0 ≤ if i < 0 then -i else i := by split <;> omega
theorem great_small {x : Int} (h : 0 ≤ x) : 0 ≤ (x.fdiv 2).fmod (10 ^ 200) ∧ ((x.fdiv 2).fmod (10 ^ 200)).natAbs < 2 ^ 700 := by
  have h0 : (0 : Int) < 10 ^ 200 := by decide
  have h1 := Int.fmod_nonneg_of_pos (x.fdiv 2) h0
  have h2 := Int.fmod_lt_of_pos (x.fdiv 2) h0
  refine ⟨h1, ?_⟩
  have h3 : (10 : Int) ^ 200 < 2 ^ 700 := by decide
  have h4 : ((2 ^ 700 : Nat) : Int) = (2 : Int) ^ 700 := by norm_cast
  omega
theorem take_pick (vs : List Value) : kms_pick vs.toArray.toList none (some 40) = vs.take 40 := by
  have h1 : ¬ ((40 : Int) < 0) := by omega
  simp only [kms_pick, kms_lo, kms_hi, h1, if_false, Nat.sub_zero, List.drop_zero]
  rw [show (40 : Int).toNat = 40 from rfl, Nat.min_comm, ← List.take_take]
  exact List.take_of_length_le (by rw [List.length_take]; omega)
theorem reg_P27_lawbox_1 : True := by
  k_with "M:subscriptTail Name Slice ref ref" => iterate 777 ((k_here; (with_reducible show wpAny _ _ (subscriptTail _ (PySem.Expr.Slice none _ none _) (Value.ref _) (Value.ref _)) _ _ _); k_dflt (refine' kms_slice_lit ?z9F ?z9N ?z9l ?z9p ?z9q ?z9e ?_ ?z9s ?z9t ?z9z; (case z9F => k_asm); (case z9N => k_asm); (case z9l => kmk_list); (case z9p => kmk_part); (case z9q => kmk_part); (case z9e => exact take_pick _); (case z9s => with_unfolding_all rfl); (case z9t => kmk_pure); (case z9z => (simp only [List.size_toArray, sizeLine_eq]; omega)); intro z9D' z9h' z9F' z9N' z9l1; (try k_lt z9l1); (try k_sweep))))
  trivial
theorem intIs_take {vs : List Value} {ns : List Int} (h : IntsAre vs ns) : ∀ n, All2 IntIs (vs.take n) (ns.take n) := by
  induction h with
  | nil => intro n; cases n <;> exact True.intro
  | cons i t h ih =>
    intro n
    cases n with
    | zero => exact True.intro
    | succ n => exact ⟨⟨_, rfl⟩, ih n⟩
theorem lawbox_spec {w : World} {news : Led} {sc : Addr} {vs : List Value} {ns : List Int} (hI : IntsAre vs ns) (hz : ns.length ≤ 63) :
    SpecN w 10 412 [.ref sc] (fun h => h.IsList sc vs.toArray) news (fun o tl => PoolOk 0 tl o) := by
  refine ⟨?_⟩
  intro prog p' loose mean mg mb dp un gd cn cs' aa ccd cl outer A₀ base h₀ L m s Q E B F X N T hSL hk hdp hun hret
  replace hSL : base.IsList sc vs.toArray := hSL
  have hL0 : h₀.IsList sc vs.toArray := stays_list (Below.stays B) hSL
  have hvz : vs.length ≤ 63 := by rw [hI.length]; exact hz
  have hT := intIs_take hI 40
  have htz : (vs.take 40).length ≤ 40 := by rw [List.length_take]; omega
  refine wpAny_call ?_
  k_dflt k_enter
  k_steps
  refine ⟨?_⟩
  refine comp_map2 (R := fun _ v i => IntIs v i) (R' := fun _ v i => IntIs v i) (fun i => i) (fun _ _ _ _ h _ => h) (fun _ _ _ _ h _ => h) hT (fun t => ?_) ?_ ?_
  · exact Or.inr ⟨_, List.mem_append.mpr (.inl (by walk_at "S mem")), rfl, _, rfl⟩
  · rintro v6 d6 I6 oI6 C6 oC6 D6 oD6 m₆ nx6 h6 tk6 E6 ⟨tv, hv6⟩ hs6 hC6 hx6 F6 N6 o3 o4 o5 i1 i2 i3
    subst hv6
    k_steps
    walk_at "S cend2"
    exact ⟨_, rfl⟩
  · intro ys t6 hy6 up6
    have z7 := hy6.length
    simp only [List.map_id', List.length_take] at z7
    rw [List.map_id'] at hy6
    have z8 : ys.length ≤ 40 := by omega
    unfold LCg.FinA
    intro ca h9 tk9 F9 N9 o9
    replace o9 := off1 o9
    (try simp only [List.nil_append, List.cons_append, List.append_assoc] at N9)
    (try dsimp only)
    cases ys with
    | nil =>
      k_steps
      walk_at "S nend"
      exact ⟨_, _, _, _, _, _, _, _, _, _, _, rfl, by walk_at "S mem", hy6, by decide, by decide, by decide, by decide, by decide, by decide, by decide⟩
    | cons y ys =>
      cases hns : (ns.take 40) with
      | nil => rw [hns] at hy6; exact hy6.elim
      | cons i is =>
        rw [hns] at hy6
        obtain ⟨⟨ty, hy⟩, hys⟩ := hy6
        subst hy
        k_steps
        all_goals
          refine items_fold (R := fun _ v i => IntIs v i) (BoxInv sc ca) (fun c _ => c) (fun _ _ _ _ h _ => h) ?_ is ys () _ _ hys ?_ ?_ ?_ ?_
          · rintro v d c m' nx h tk oI ⟨tv, hv⟩ ⟨st, g, tk9, tg, cv, st0, st1, g0, g1, hm⟩ F1 N1 o1
            subst hv
            obtain rfl := funext hm
            have F' := F1
            have m3 := fmod_small (st * 48271 + d.fmod 2147483647 + 11) (most := 2147483647) (by decide)
            clear F1 hm
            k_steps
            walk_at "S turn"
            exact ⟨_, _, _, _, _, m3.1, m3.2, g0, g1, by walk_at "S map"⟩
          · have m3 := fmod_small (7 * 48271 + i.fmod 2147483647 + 11) (most := 2147483647) (by decide)
            first
              | (refine ⟨_, _, _, _, _, m3.1, m3.2, ?_, ?_, by walk_at "S map"⟩ <;> decide)
              | (refine ⟨_, _, _, _, _, m3.1, m3.2, ?g1, ?g2, by walk_at "S map"⟩; (case g1 => exact (great_small (abs_nn i)).1); (case g2 => exact (great_small (abs_nn i)).2))
          · exact ⟨by walk_at "S mem", trivial⟩
          · walk_at "S off"
          · rintro c' m' t h tk _ ⟨st, g, tk9, tg, cv, st0, st1, g0, g1, hm⟩ F1 N1 U
            obtain rfl := funext hm
            have F' := F1
            (try simp only [List.nil_append, List.cons_append, List.append_assoc] at N1)
            clear F1 hm
            k_steps
            walk_at "S nend"
            exact ⟨_, _, _, _, _, _, _, _, _, _, _, rfl, by walk_at "S mem", (show All2 IntIs (Value.int i ty :: ys) (i :: is) from ⟨⟨_, rfl⟩, hys⟩), by simp at z8 ⊢; omega, g0, g1, st0, st1, by decide, by decide⟩

-- 28_lawrows
theorem reg_P28_lawrows_0 : True := by
  k_with "M:S small" => iterate 777 (first | with_reducible assumption | ((with_reducible refine Small.map ?_); walk_at "S small"))
  k_with "M:call ref" => iterate 777 ((k_here; (with_reducible show wpAny _ _ (call (Value.ref 412) _) _ _ _); k_dflt (refine' SpecN.use (S := lawbox_spec ?z9s1 ?z9s2) ?z9k1 ?z9k2 ?z9k3 ?z9k4 ?z9k5 ?z9kH ?z9kK ?z9kd ?z9ku ?_; (case z9k2 => k_asm); (case z9k3 => k_asm); (case z9k4 => k_asm); (case z9k1 => k_asm); (case z9k5 => k_asm); (case z9kH => with_reducible assumption); (case z9kK => first | exact rfl | assumption); (case z9kd => ktr_room); (case z9ku => ktr_units); (case z9s1 => with_reducible assumption); (case z9s2 => with_reducible assumption); intro z9q' z9o' z9tl' z9h' z9tk' z9F' z9N' z9off' z9up' z9P'; (try simp only [List.nil_append, List.cons_append, List.append_assoc] at z9N' z9P'); (try simp only [List.nil_append, List.cons_append, List.forall_mem_cons] at z9off'); (try (obtain ⟨z9on1, z9on2, z9on3⟩ := z9off'; (replace z9on1 : @Ne Nat _ _ := z9on1); (replace z9on2 : @Ne Nat _ _ := z9on2))); (try k_sweep); (try dsimp only); (try k_fold))))
  k_with "M:call ref" => iterate 777 ((k_here; (with_reducible show wpAny _ _ (call (Value.ref 440) _) _ _ _); k_dflt (refine' SpecM.use (S := lawpath_spec ?z9s1 ?z9s2 ?z9s3) ?z9k1 ?z9k2 ?z9k3 ?z9k4 ?z9kP ?z9k5 ?z9kH ?z9kK ?z9kd ?z9ku ?_; (case z9k2 => k_asm); (case z9k3 => k_asm); (case z9k4 => k_asm); (case z9kP => walk_at "S pick"); (case z9k1 => k_asm); (case z9k5 => k_asm); (case z9kH => first | exact True.intro | with_reducible assumption | exact CodeHd.keeps (by with_reducible assumption) (Below.stays (by assumption))); (case z9kK => first | exact rfl | assumption); (case z9kd => ktr_room); (case z9ku => ktr_units); (case z9s1 => with_reducible assumption); (case z9s2 => walk_at "S sub"); (case z9s3 => decide); intro z9r' z9o' z9tl' z9h' z9tk' z9F' z9N' z9off' z9up' z9P'; (try simp only [List.nil_append, List.cons_append, List.append_assoc] at z9N' z9P'); walk_at "S post"; (try k_sweep); (try dsimp only); (try k_fold))))
  k_with "M:call ref" => iterate 777 ((k_here; (with_reducible show wpAny _ _ (call (Value.ref 400) _) _ _ _); k_dflt (refine' SpecM.use (S := told_path_spec ?z9s1 ?z9s2 ?z9s3 ?z9s4 ?z9s5) ?z9k1 ?z9k2 ?z9k3 ?z9k4 ?z9kP ?z9k5 ?z9kH ?z9kK ?z9kd ?z9ku ?_; (case z9k2 => k_asm); (case z9k3 => k_asm); (case z9k4 => k_asm); (case z9kP => walk_at "S pick"); (case z9k1 => k_asm); (case z9k5 => k_asm); (case z9kH => first | exact True.intro | with_reducible assumption | exact CodeHd.keeps (by with_reducible assumption) (Below.stays (by assumption))); (case z9kK => first | exact rfl | assumption); (case z9kd => ktr_room); (case z9ku => ktr_units); (case z9s1 => with_reducible assumption); (case z9s5 => with_reducible assumption); (case z9s2 => walk_at "S sub"); (case z9s3 => walk_at "S sub"); (case z9s4 => walk_at "S small"); intro z9r' z9o' z9tl' z9h' z9tk' z9F' z9N' z9off' z9up' z9P'; (try simp only [List.nil_append, List.cons_append, List.append_assoc] at z9N' z9P'); walk_at "S post"; (try k_sweep); (try dsimp only); (try k_fold))))
  k_with "M:call ref" => iterate 777 ((k_here; (with_reducible show wpAny _ _ (call (Value.ref 393) _) _ _ _); refine Stop.go ?_))
  k_with "M:call ref" => iterate 777 ((k_here; (with_reducible show wpAny _ _ (call (Value.ref 393) _) _ _ _); (with_reducible rename LawG _ _ _ => z9hLG); k_dflt (refine' SpecM.use (S := transformed_spec ?z9s1 ?z9s2 ?z9s3 ?z9s4 ?z9s5 ?z9s6 ?z9s7 ?z9s8) ?z9k1 ?z9k2 ?z9k3 ?z9k4 ?z9kP ?z9k5 ?z9kH ?z9kK ?z9kd ?z9ku ?_; (case z9k2 => k_asm); (case z9k3 => k_asm); (case z9k4 => k_asm); (case z9kP => walk_at "S pick"); (case z9k1 => k_asm); (case z9k5 => k_asm); (case z9kH => first | exact True.intro | with_reducible assumption | exact CodeHd.keeps (by with_reducible assumption) (Below.stays (by assumption))); (case z9kK => first | exact rfl | assumption); (case z9kd => ktr_room); (case z9ku => ktr_units); (case z9s1 => with_reducible assumption); (case z9s3 => with_reducible assumption); (case z9s8 => with_reducible assumption); (case z9s2 => walk_at "S sub"); (case z9s4 => walk_at "S sub"); (case z9s5 => walk_at "S sub"); (case z9s6 => walk_at "S small"); (case z9s7 => with_reducible assumption); intro z9r' z9o' z9tl' z9h' z9tk' z9F' z9N' z9off' z9up' z9P'; (try simp only [List.nil_append, List.cons_append, List.append_assoc] at z9N' z9P'); walk_at "S post"; (try k_sweep); (try dsimp only); (try k_fold))))
  k_with "M:S spec" => iterate 777 (first
  | ((with_reducible show Spec _ _ 215 _ _ _); exact mul_spec (by walk_at "S mat") (by walk_at "S mat") (by with_reducible assumption))
  | ((with_reducible show Spec _ _ 381 _ _ _); refine' points_spec ?z9a ?z9b ?z9c; (case z9a => with_reducible assumption); (case z9c => walk_at "S small"); (case z9b => walk_at "S sub"))
  | ((with_reducible show Spec _ _ 255 _ _ _); exact identity_spec)
  | ((with_reducible show Spec _ _ 262 _ _ _); exact translation_spec)
  | ((with_reducible show Spec _ _ 269 _ _ _); exact scaling_spec)
  | ((with_reducible show Spec _ _ 276 _ _ _); exact quarter_spec)
  | ((with_reducible show Spec _ _ 452 _ _ _); refine' boxtold_spec ?z9a ?z9b ?z9c ?z9d ?z9e ?z9f; (case z9a => with_reducible assumption); (case z9d => with_reducible assumption); (case z9c => walk_at "S small"); (case z9e => with_reducible assumption); (case z9f => with_reducible assumption); (case z9b => walk_at "S sub"))
  | fail "S spec")
  k_with "M:S post" => iterate 777 (first
  | ((with_reducible rename PPathP _ _ _ _ _ _ => z9hP); (obtain ⟨_, z9hQ, z9hG, _⟩ := z9hP); (have z9hS := Small.of (PathG.ok z9hG) (by decide)))
  | ((with_reducible rename PTrans _ _ _ _ _ _ _ _ _ => z9hP); (obtain ⟨z9hQ, z9hT⟩ := z9hP))
  | ((with_reducible rename PTold _ _ _ _ _ _ _ _ => z9hP); (obtain ⟨z9hQ, z9hT⟩ := z9hP))
  | ((with_reducible rename PTold4 _ _ _ _ _ _ => z9hP); (have z9hQ : TupIn IPr _ _ _ := z9hP); (obtain ⟨_, _, _, z9hE, _, _⟩ := z9hP); subst z9hE)
  | ((with_reducible rename PPts _ _ _ _ _ => z9hP); (obtain ⟨_, _, _, z9hE, z9hM, z9hA⟩ := z9hP); subst z9hE; (have z9hZ := All2.length z9hA)))
  trivial
theorem told_ne2 {prog : Program} {w : World} {A : Around} {E : Value → Shared → Prop} {s : Shared} {h₀ : Heap} {L : Addr} {news n1 n2 : Led} {v u : Value} {ds es : PathD ((Int × Int) × (Int × Int))} {Q : Value → Shared → Prop} (N : News h₀ L s.heap news) (h1 : PartsIn TPt n1 v ds) (s1 : ∀ p ∈ n1, p ∈ news) (h2 : PartsIn TPt n2 u es) (s2 : ∀ p ∈ n2, p ∈ news)
    (e : ds = es) (hA : A.units + 20 < cLine) (h : Q (.bool false) s) : wpAny (model prog w) A (compareOp .NotEq v u) Q E s := told_ne N s1 s2 h1 (e ▸ h2) hA h
theorem reg_P28_lawrows_1 : True := by
  k_with "M:compareOp NotEq" => iterate 777 ((k_here; (with_reducible show wpAny _ _ (compareOp CmpOp.NotEq _ _) _ _ _); k_dflt (refine' told_ne2 ?z9a ?z9h1 ?z9s1 ?z9h2 ?z9s2 ?z9e ?z9u ?_; (case z9a => k_asm); (case z9h1 => with_reducible assumption); (case z9h2 => with_reducible assumption); (case z9s1 => walk_at "S sub"); (case z9s2 => walk_at "S sub"); (case z9e => first | with_reducible rfl | with_reducible assumption); (case z9u => walk_at "S units"); k_whole)))
  trivial
def StrIs (v : Value) (d : Str) : Prop := ∃ t, v = .str d t
def NmIn (n : Led) (v : Value) (ds : List Str) : Prop := ∃ (q : Addr) (k : Nat) (vs : List Value), v = .ref q ∧ (q, lstO vs k) ∈ n ∧ All2 StrIs vs ds
theorem NmIn.mono : MonoR NmIn := by
  rintro n n' v ds ⟨q, k, vs, e, hm, ha⟩ hs
  exact ⟨q, k, vs, e, hs _ hm, ha⟩
theorem NmIn.eqv {h₀ : Heap} {L : Addr} {s : Shared} {n1 n2 news : Led} (N : News h₀ L s.heap news) (s1 : ∀ p ∈ n1, p ∈ news) (s2 : ∀ p ∈ n2, p ∈ news) (v u : Value) (ds : List Str) (h1 : NmIn n1 v ds) (h2 : NmIn n2 u ds) : Eqv 1 s v u := by
  obtain ⟨q, k, vs, rfl, m1, ha⟩ := h1
  obtain ⟨q', k', ws, rfl, m2, hb⟩ := h2
  obtain ⟨e, r⟩ := eq_all2 (k := 0) (s := s) (fun v u d (x : StrIs v d) (y : StrIs u d) => by
    obtain ⟨t, rfl⟩ := x
    obtain ⟨t', rfl⟩ := y
    exact Eqv.str) ha hb
  exact Eqv.lst N (s1 _ m1) (s2 _ m2) e r
abbrev nmF {π : Type} (pt : PartD π) : List Str := pt.map fun sg => sg.1
theorem nm_ne {prog : Program} {w : World} {A : Around} {E : Value → Shared → Prop} {s : Shared} {h₀ : Heap} {L q q' : Addr} {news n1 n2 : Led} {vs ws : List Value} {k k' : Nat} {D1 D2 : PathD Pt} {Q : Value → Shared → Prop} (N : News h₀ L s.heap news) (m1 : (q, lstO vs k) ∈ news) (m2 : (q', lstO ws k') ∈ news) (h1 : All2 (NmIn n1) vs (D1.map nmF)) (s1 : ∀ p ∈ n1, p ∈ news) (h2 : All2 (NmIn n2) ws (D2.map nmF)) (s2 : ∀ p ∈ n2, p ∈ news)
    (e : namesD D1 = namesD D2) (hA : A.units + 20 < cLine) (h : Q (.bool false) s) : wpAny (model prog w) A (compareOp .NotEq (.ref q) (.ref q')) Q E s := by
  have e' : D1.map nmF = D2.map nmF := e
  rw [← e'] at h2
  obtain ⟨e2, r⟩ := eq_all2 (NmIn.eqv N s1 s2) h1 h2
  exact rne_lst N m1 m2 e2 r A (by omega) prog w E Q h
theorem rangeRest_sub {prog : Program} {w : World} {A : Around} {E : Value → Shared → Prop} {s : Shared} {env : Env} {h₀ : Heap} {x : Str} {body : List Stmt} {Q : Flow → Shared → Prop} {I : Addr} {a : Int} {n : Nat} {l l' : Led} {m : Str → Option Value} (hs : ∀ p ∈ l', p ∈ l) : ∀ {k i : Nat}, RangeRest prog w A E h₀ env x body Q s I a n k i m l' → RangeRest prog w A E h₀ env x body Q s I a n k i m l
  | 0, _, h => fun g tk F N => h g tk F fun p hp => N p (hs p hp)
  | _ + 1, _, h => fun t g tk F N => h t g tk F fun p hp => (List.mem_cons.mp hp).elim (fun e => N p (e ▸ .head _)) fun hp => N p (.tail _ (hs p hp))
theorem spin_intro {P : (Str → Option Value) → Prop} {m0 : Str → Option Value} {v : Option Value} (k : ∀ m1, m1 = m0 → P (fun y => if y = Str.ofString "spun" then v else m1 y)) : P (fun y => if y = Str.ofString "spun" then v else m0 y) := k m0 rfl
def spinD : Nat → PathD Pt → PathD Pt
  | 0, D => D
  | j + 1, D => mapD (appD qtM) (spinD j D)
theorem spinD_small {D : PathD Pt} (h : Small D) : ∀ j, Small (spinD j D)
  | 0 => h
  | j + 1 => (spinD_small h j).map
def SpinInv (w : World) (base nP nT : Led) (D : PathD Pt) (m1 : Str → Option Value) (k : Nat) (o : Obj) (m : Str → Option Value) (nx : Led) : Prop :=
  ∃ (tp : Led) (vS : Value) (c : Option Value), nx = base ++ tp ∧ PathIn w (PairIn w) (nP ++ tp) vS (spinD (4 - k) D) ∧ TabOk 199 28 qTrans (nT ++ tp) o ∧ k ≤ 4 ∧ ∀ y, m y = if y = Str.ofString "spun" then some vS else if y = Str.ofString "turn" then c else m1 y
theorem subOf {a b : Led} {P : Led → Prop} (h : P a) (s : ∀ p ∈ a, p ∈ b) : ∃ n, (∀ p ∈ n, p ∈ b) ∧ (∀ p ∈ n, p ∈ a) ∧ P n := ⟨a, s, fun _ h => h, h⟩
theorem rangeRest_pick {prog : Program} {w : World} {A : Around} {E : Value → Shared → Prop} {s : Shared} {env : Env} {h₀ : Heap} {x : Str} {body : List Stmt} {Q : Flow → Shared → Prop} {I q : Addr} {a : Int} {n k i : Nat} {l r : Led} {o : Obj} {m : Str → Option Value} (P : Pick q o l r) (h : RangeRest prog w A E h₀ env x body Q s I a n k i m ((q, o) :: r)) : RangeRest prog w A E h₀ env x body Q s I a n k i m l :=
  rangeRest_sub (fun p hp => (List.mem_cons.mp hp).elim (fun e => e ▸ P.mem) (P.sub p)) h
theorem reg_P28_lawrows_2 : True := by
  k_with "M:compareOp NotEq ref ref" => iterate 777 ((k_here; (with_reducible show wpAny _ _ (compareOp CmpOp.NotEq (Value.ref _) (Value.ref _)) _ _ _); k_dflt (refine' nm_ne ?z9a ?z9m1 ?z9m2 ?z9h1 ?z9s1 ?z9h2 ?z9s2 ?z9e ?z9u ?_; (case z9a => k_asm); (case z9m1 => k_mem); (case z9m2 => k_mem); (case z9h1 => with_reducible assumption); (case z9h2 => with_reducible assumption); (case z9s1 => walk_at "S sub"); (case z9s2 => walk_at "S sub"); (case z9e => with_reducible assumption); (case z9u => walk_at "S units"); k_whole)))
  trivial

-- 29_segs
noncomputable def lawFn : List Stmt × Scope := match PySem.Challenge.pw_og0164_01.main.body.getLast? with
  | some (.FunctionDef _ _ b _ _ _ sc _ _ _) => (b, sc)
  | _ => ([], { kind := .function, names := [], isGenerator := false, isCoroutine := false })
noncomputable def lawScopeP : {s : Scope // s = lawFn.2} := by
  refine ⟨?x, ?h⟩
  case h =>
    conv => rhs; whnf
noncomputable def lawScope : Scope := lawScopeP.1
noncomputable def lsgP0 : {l : List Stmt // l = (lawFn.1.drop 0).take 4} := by
  refine ⟨?x, ?h⟩
  case h =>
    conv => rhs; (whnf; arg 2; whnf; arg 2; whnf; arg 2; whnf; arg 2; whnf)
noncomputable def lsg0 : List Stmt := lsgP0.1
noncomputable def lsgP1 : {l : List Stmt // l = (lawFn.1.drop 4).take 2} := by
  refine ⟨?x, ?h⟩
  case h =>
    conv => rhs; (whnf; arg 2; whnf; arg 2; whnf)
noncomputable def lsg1 : List Stmt := lsgP1.1
noncomputable def lsgP2 : {l : List Stmt // l = (lawFn.1.drop 6).take 1} := by
  refine ⟨?x, ?h⟩
  case h =>
    conv => rhs; (whnf; arg 2; whnf)
noncomputable def lsg2 : List Stmt := lsgP2.1
noncomputable def lsgP3 : {l : List Stmt // l = (lawFn.1.drop 7).take 2} := by
  refine ⟨?x, ?h⟩
  case h =>
    conv => rhs; (whnf; arg 2; whnf; arg 2; whnf)
noncomputable def lsg3 : List Stmt := lsgP3.1
noncomputable def lsgP4 : {l : List Stmt // l = (lawFn.1.drop 9).take 1} := by
  refine ⟨?x, ?h⟩
  case h =>
    conv => rhs; (whnf; arg 2; whnf)
noncomputable def lsg4 : List Stmt := lsgP4.1
noncomputable def lsgP5 : {l : List Stmt // l = (lawFn.1.drop 10).take 2} := by
  refine ⟨?x, ?h⟩
  case h =>
    conv => rhs; (whnf; arg 2; whnf; arg 2; whnf)
noncomputable def lsg5 : List Stmt := lsgP5.1
noncomputable def lsgP6 : {l : List Stmt // l = (lawFn.1.drop 12).take 2} := by
  refine ⟨?x, ?h⟩
  case h =>
    conv => rhs; (whnf; arg 2; whnf; arg 2; whnf)
noncomputable def lsg6 : List Stmt := lsgP6.1
theorem law_segs : lawFn.1 = lsg0 ++ (lsg1 ++ (lsg2 ++ (lsg3 ++ (lsg4 ++ (lsg5 ++ lsg6))))) := rfl
def nextQ (K : Shared → Prop) (Q : Flow → Shared → Prop) (f : Flow) (s : Shared) : Prop := match f with
  | .next => K s
  | f => Q f s
theorem wp_execs_split {M : Model} {A : Around} {E : Value → Shared → Prop} {env : Env} {Q : Flow → Shared → Prop} {l2 : List Stmt} {Γ : Ctx} (hΓ : Γ.In A) : ∀ {l1 : List Stmt} {p : Pos} {s : Shared},
    Sem.wp M Γ (execs l1 env) (fun f _ s' => nextQ (fun s' => wpAny M A (execs l2 env) Q E s') Q f s') (fun e _ s' => E e s') p s → Sem.wp M Γ (execs (l1 ++ l2) env) (fun f _ s' => Q f s') (fun e _ s' => E e s') p s
  | [], p, s, h => h Γ p hΓ
  | st :: rest, p, s, h => by
    rw [execs_cons, Sem.wp_bind'] at h
    rw [List.cons_append, execs_cons, Sem.wp_bind']
    refine Sem.wp_mono M Γ _ (fun f p' s' h2 => ?_) (fun _ _ _ h2 => h2) _ _ h
    cases f with
    | next => exact wp_execs_split hΓ h2
    | _ => exact h2
theorem execs_split {M : Model} {A : Around} {E : Value → Shared → Prop} {env : Env} {Q : Flow → Shared → Prop} {l1 l2 : List Stmt} {s : Shared}
    (h : wpAny M A (execs l1 env) (nextQ (fun s' => wpAny M A (execs l2 env) Q E s') Q) E s) : wpAny M A (execs (l1 ++ l2) env) Q E s := fun Γ p hΓ => wp_execs_split hΓ (h Γ p hΓ)
/-- what stands about the law's frame; the ledger at a cut, its two code tables at the head -/
structure LCtx (w : World) (pp : Program) (loose : List Str) (mean : ExcName → Option Value) (mg mb : Str → Option Value) (h₀ : Heap) : Prop where
  B : Below callerA h₀ [] h₀
  X : (hd.heap_39 w.params).In h₀
  T : Top pp loose mean mg mb h₀
  C1 : CodeHd h₀ 399 395
  C2 : CodeHd h₀ 392 388
structure LSt (h₀ : Heap) (L : Addr) (h : Heap) (r : Led) (o1 o2 : Obj) : Prop where
  N : News h₀ L h ((388, o1) :: (395, o2) :: r)
  f1 : ∀ p ∈ r, p.1 ≠ 388
  f2 : ∀ p ∈ r, p.1 ≠ 395
  t1 : TabOk 199 28 qTrans r o1
  t2 : TabOk 201 28 qTold r o2
theorem LSt.mk' {h₀ h : Heap} {L : Addr} {l l1 r : Led} {o1 o2 : Obj} (N : News h₀ L h l) (P1 : Pick 388 o1 l l1) (P2 : Pick 395 o2 l1 r) (t1 : TabOk 199 28 qTrans r o1) (t2 : TabOk 201 28 qTold r o2) : LSt h₀ L h r o1 o2 :=
  ⟨fun p hp => by
    rcases List.mem_cons.mp hp with rfl | hp
    · exact N _ P1.mem
    · rcases List.mem_cons.mp hp with rfl | hp
      · exact N _ (P1.sub _ P2.mem)
      · exact N _ (P1.sub _ (P2.sub _ hp)), fun p hp => P1.off p (P2.sub p hp), P2.off, t1, t2⟩
theorem reg_P29_segs_0 : True := by
  k_with "M:S lst" => iterate 777 ((refine' LSt.mk' ?z9N ?z9P1 ?z9P2 ?z9t1 ?z9t2; (case z9N => assumption); (case z9P1 => walk_at "S pick"); (case z9P2 => walk_at "S pick"); (case z9t1 => (refine' TabOk.mono ?z9u ?z9v; (case z9u => with_reducible assumption); (case z9v => walk_at "S sub"))); (case z9t2 => (refine' TabOk.mono ?z9u ?z9v; (case z9u => with_reducible assumption); (case z9v => walk_at "S sub")))))
  trivial

-- 30_s0
theorem seg0_ok {w : World} {prog pp : Program} {loose : List Str} {mean : ExcName → Option Value} {mg mb : Str → Option Value} {h₀ : Heap} {L fa : Addr} {nm : Str} {cd : Value} {s : Shared} {Q : Flow → Shared → Prop} {E : Value → Shared → Prop} {sc : Addr} {vs : List Value} {ns : List Int} (C : LCtx w pp loose mean mg mb h₀) (F : Fr h₀ L s.heap (fun x => ([(Str.ofString "script", Value.ref sc)] : List (Str × Value)).lookup x)) (N : News h₀ L s.heap [(395, tabObj #[]), (388, tabObj #[])]) (hL : h₀.IsList sc vs.toArray) (hI : IntsAre vs ns) (hz : ns.length ≤ 63)
    (next : ∀ h' tk' r' o1' o2' vP vH vM vN (m0 : Str → Option Value) D M N', Fr h₀ L h' (fun y => if y = Str.ofString "one" then some vM else if y = Str.ofString "other" then some vN else if y = Str.ofString "held" then some vH else if y = Str.ofString "path" then some vP else m0 y) → LSt h₀ L h' r' o1' o2' → PathIn w (PairIn w) r' vP D → PartsIn TPt r' vH (mapD tolP D) → MatIn w r' vM M → MatIn w r' vN N' → PathG 60 D → MatG M → MatG N' → Q .next { s with heap := h', toks := tk' }) :
    wpAny (model prog w) (callerA.deeper (envOf nm lawScope L fa cd)) (execs lsg0 (envOf nm lawScope L fa cd)) Q E s := by
  obtain ⟨B, X, T, C1, C2⟩ := C
  have F' := F
  clear F
  have t1 : TabOk 201 28 qTold [] (tabObj #[]) := .inl rfl
  have t2 : TabOk 199 28 qTrans [] (tabObj #[]) := .inl rfl
  show wpAny _ _ (execs lsgP0.1 _) _ _ _
  dsimp only [lsgP0]
  k_steps
  refine' next _ _ _ _ _ _ _ _ _ _ _ _ _ ?z9F ?z9S ?z9p ?z9h ?z9m ?z9n ?z9g ?z9M ?z9N
  case z9F => k_asm
  case z9S => walk_at "S lst"
  case z9p => exact PathIn.mono pairMono _ _ _ _ (by with_reducible assumption) (by walk_at "S sub")
  case z9h => exact PartsIn.mono TPt.mono _ _ _ _ (by with_reducible assumption) (by walk_at "S sub")
  case z9m => walk_at "S mat"
  case z9n => walk_at "S mat"
  case z9g => assumption
  case z9M => assumption
  case z9N => assumption

-- 31_s1
theorem seg1_ok {w : World} {prog pp : Program} {loose : List Str} {mean : ExcName → Option Value} {mg mb : Str → Option Value} {h₀ : Heap} {L fa : Addr} {nm : Str} {cd : Value} {s : Shared} {Q : Flow → Shared → Prop} {E : Value → Shared → Prop} {r : Led} {o1 o2 : Obj} {m0 : Str → Option Value} {D : PathD Pt} {M N' : Mat} {vP vH vM vN : Value} (C : LCtx w pp loose mean mg mb h₀) (F : Fr h₀ L s.heap (fun y => if y = Str.ofString "one" then some vM else if y = Str.ofString "other" then some vN else if y = Str.ofString "held" then some vH else if y = Str.ofString "path" then some vP else m0 y)) (S : LSt h₀ L s.heap r o1 o2)
    (hPa : PathIn w (PairIn w) r vP D) (hH : PartsIn TPt r vH (mapD tolP D)) (hM : MatIn w r vM M) (hN : MatIn w r vN N') (hLG : LawG D M N')
    (next : ∀ h' tk' r' o1' o2' vT, (∀ p ∈ r, p ∈ r') → Fr h₀ L h' (fun y => if y = Str.ofString "twice" then some vT else if y = Str.ofString "one" then some vM else if y = Str.ofString "other" then some vN else if y = Str.ofString "held" then some vH else if y = Str.ofString "path" then some vP else m0 y) → LSt h₀ L h' r' o1' o2' → PathIn w (PairIn w) r' vT (mapD (appD N') (mapD (appD M) D)) → Q .next { s with heap := h', toks := tk' }) :
    wpAny (model prog w) (callerA.deeper (envOf nm lawScope L fa cd)) (execs lsg1 (envOf nm lawScope L fa cd)) Q E s := by
  obtain ⟨B, X, T, C1, C2⟩ := C
  obtain ⟨N, f1, f2, t1, t2⟩ := S
  have F' := F
  clear F
  have a1 := hLG.a1
  have a2 := hLG.a2
  have a3 := hLG.mm
  have a4 := hLG.a3
  have e1 := hLG.e1
  have s0 := hLG.s0
  have hM2 := hM
  obtain ⟨_, _, _, _, _, _, _, _, _, _, _, _, _, _, _, hE9, _, _, _⟩ := MatIn.out hM2; clear hM2
  subst hE9
  show wpAny _ _ (execs lsgP1.1 _) _ _ _
  dsimp only [lsgP1]
  k_steps
  refine' next _ _ _ _ _ _ ?z9s ?z9F ?z9S ?z9p
  case z9F => k_asm
  case z9S => walk_at "S lst"
  case z9s => walk_at "S sub"
  case z9p => exact PathIn.mono pairMono _ _ _ _ (by with_reducible assumption) (by walk_at "S sub")

-- 32_s2
theorem seg2_ok {w : World} {prog pp : Program} {loose : List Str} {mean : ExcName → Option Value} {mg mb : Str → Option Value} {h₀ : Heap} {L fa : Addr} {nm : Str} {cd : Value} {s : Shared} {Q : Flow → Shared → Prop} {E : Value → Shared → Prop} {r : Led} {o1 o2 : Obj} {m0 : Str → Option Value} {D : PathD Pt} {D2 : PathD Pt} {vP vH vM vN vT : Value} (C : LCtx w pp loose mean mg mb h₀) (F : Fr h₀ L s.heap (fun y => if y = Str.ofString "twice" then some vT else if y = Str.ofString "one" then some vM else if y = Str.ofString "other" then some vN else if y = Str.ofString "held" then some vH else if y = Str.ofString "path" then some vP else m0 y)) (S : LSt h₀ L s.heap r o1 o2)
    (hPa : PathIn w (PairIn w) r vP D) (hTw : PathIn w (PairIn w) r vT D2) (z0 : Small D) (z2 : Small D2) (e4 : namesD D2 = namesD D)
    (next : ∀ h' tk' r' o1' o2', (∀ p ∈ r, p ∈ r') → Fr h₀ L h' (fun y => if y = Str.ofString "twice" then some vT else if y = Str.ofString "one" then some vM else if y = Str.ofString "other" then some vN else if y = Str.ofString "held" then some vH else if y = Str.ofString "path" then some vP else m0 y) → LSt h₀ L h' r' o1' o2' → Q .next { s with heap := h', toks := tk' }) :
    wpAny (model prog w) (callerA.deeper (envOf nm lawScope L fa cd)) (execs lsg2 (envOf nm lawScope L fa cd)) Q E s := by
  obtain ⟨B, X, T, C1, C2⟩ := C
  obtain ⟨N, f1, f2, t1, t2⟩ := S
  have F' := F
  clear F
  obtain ⟨xT, dT, kT, pT, nT, rfl, hT1, hT2, qT, nT2, vsT, rfl, hT3, hT4⟩ := PathIn.out hTw; clear hTw
  obtain ⟨xP, dP, kP, pP, nP, rfl, hP1, hP2, qP, nP2, vsP, rfl, hP3, hP4⟩ := PathIn.out hPa; clear hPa
  have zT : vsT.length ≤ 300 := by rw [hT4.length]; exact z2.len
  have zP : vsP.length ≤ 300 := by rw [hP4.length]; exact z0.len
  have hT5 := hT4.imp2 (S := fun d => d.length ≤ 300) (fun d hd => (z2.part d hd).1) fun v d a b => And.intro a b
  have hP5 := hP4.imp2 (S := fun d => d.length ≤ 300) (fun d hd => (z0.part d hd).1) fun v d a b => And.intro a b
  show wpAny _ _ (execs lsgP2.1 _) _ _ _
  dsimp only [lsgP2]
  k_steps
  refine ⟨?_⟩
  refine comp_map2 (R := fun _ v d => PartIn (PairIn w) _ v d ∧ d.length ≤ 300) (R' := NmIn) nmF (fun _ _ _ _ h _ => h) NmIn.mono hT5 (fun t => ?_) ?_ ?_
  · exact List.mem_append.mpr (.inl (by walk_at "S memf"))
  · rintro v6 d6 I6 oI6 C6 oC6 D6 oD6 m₆ nx6 h6 tk6 E6 ⟨hv6, hz6⟩ hs6 hC6 hx6 F6 N6 o3 o4 o5 i1 i2 i3
    obtain ⟨q4, k4, us, rfl, hm4, ha4⟩ := hv6
    have hm5 : (q4, tupO us k4) ∈ nx6 := hs6 _ (by walk_at "S memf")
    have z4 : us.length ≤ 300 := by rw [ha4.length]; exact hz6
    k_steps
    refine ⟨?_⟩
    refine comp_map2 (R := fun _ v d => SegIn (PairIn w) _ v d) (R' := fun _ v d => StrIs v d) (fun sg => sg.1) (fun _ _ _ _ h _ => h) (fun _ _ _ _ h _ => h) ha4 (fun t => ?_) ?_ ?_
    · exact List.mem_append.mpr (.inl (by walk_at "S mem"))
    · rintro v7 d7 I7 oI7 C7 oC7 D7 oD7 m₇ nx7 h7 tk7 E7 hv7 hs7 hC7 hx7 F7 N7 o3 o4 o5 i1 i2 i3
      obtain ⟨q8, k8, t8, us8, rfl, hm8, ha8⟩ := hv7
      have hm9 : (q8, tupO (.str d7.1 t8 :: us8) k8) ∈ nx7 := hs7 _ (List.mem_cons_of_mem _ (List.mem_cons_of_mem _ (List.mem_cons_of_mem _ (hs6 _ (by walk_at "S memf")))))
      k_steps
      walk_at "S cend2"
      exact ⟨_, rfl⟩
    · intro ys8 t8 hy8 up8
      k_steps
      walk_at "S cend2"
      exact ⟨_, _, _, rfl, by walk_at "S mem", hy8⟩
  intro ysT tT hyT upT
  k_steps
  refine ⟨?_⟩
  refine comp_map2 (R := fun _ v d => PartIn (PairIn w) _ v d ∧ d.length ≤ 300) (R' := NmIn) nmF (fun _ _ _ _ h _ => h) NmIn.mono hP5 (fun t => ?_) ?_ ?_
  · exact List.mem_append.mpr (.inl (by walk_at "S memf"))
  · rintro v6 d6 I6 oI6 C6 oC6 D6 oD6 m₆ nx6 h6 tk6 E6 ⟨hv6, hz6⟩ hs6 hC6 hx6 F6 N6 o3 o4 o5 i1 i2 i3
    obtain ⟨q4, k4, us, rfl, hm4, ha4⟩ := hv6
    have hm5 : (q4, tupO us k4) ∈ nx6 := hs6 _ (by walk_at "S memf")
    have z4 : us.length ≤ 300 := by rw [ha4.length]; exact hz6
    k_steps
    refine ⟨?_⟩
    refine comp_map2 (R := fun _ v d => SegIn (PairIn w) _ v d) (R' := fun _ v d => StrIs v d) (fun sg => sg.1) (fun _ _ _ _ h _ => h) (fun _ _ _ _ h _ => h) ha4 (fun t => ?_) ?_ ?_
    · exact List.mem_append.mpr (.inl (by walk_at "S mem"))
    · rintro v7 d7 I7 oI7 C7 oC7 D7 oD7 m₇ nx7 h7 tk7 E7 hv7 hs7 hC7 hx7 F7 N7 o3 o4 o5 i1 i2 i3
      obtain ⟨q8, k8, t8, us8, rfl, hm8, ha8⟩ := hv7
      have hm9 : (q8, tupO (.str d7.1 t8 :: us8) k8) ∈ nx7 := hs7 _ (List.mem_cons_of_mem _ (List.mem_cons_of_mem _ (List.mem_cons_of_mem _ (hs6 _ (by walk_at "S memf")))))
      k_steps
      walk_at "S cend2"
      exact ⟨_, rfl⟩
    · intro ys8 t8 hy8 up8
      k_steps
      walk_at "S cend2"
      exact ⟨_, _, _, rfl, by walk_at "S mem", hy8⟩
  intro ysP tP hyP upP
  k_steps
  refine' next _ _ _ _ _ ?z9s ?z9F ?z9S
  case z9F => k_asm
  case z9S => walk_at "S lst"
  case z9s => walk_at "S sub"

-- 33_s3
theorem seg3_ok {w : World} {prog pp : Program} {loose : List Str} {mean : ExcName → Option Value} {mg mb : Str → Option Value} {h₀ : Heap} {L fa : Addr} {nm : Str} {cd : Value} {s : Shared} {Q : Flow → Shared → Prop} {E : Value → Shared → Prop} {r : Led} {o1 o2 : Obj} {m0 : Str → Option Value} {D : PathD Pt} {M N' : Mat} {vP vH vM vN vT : Value} (C : LCtx w pp loose mean mg mb h₀) (F : Fr h₀ L s.heap (fun y => if y = Str.ofString "twice" then some vT else if y = Str.ofString "one" then some vM else if y = Str.ofString "other" then some vN else if y = Str.ofString "held" then some vH else if y = Str.ofString "path" then some vP else m0 y)) (S : LSt h₀ L s.heap r o1 o2)
    (hPa : PathIn w (PairIn w) r vP D) (hLG : LawG D M N') (hE : PassesOwn (model prog w) (callerA.deeper (envOf nm lawScope L fa cd)) (envOf nm lawScope L fa cd) E)
    (next : ∀ h' tk' r' o1' o2' vS c, (∀ p ∈ r, p ∈ r') → Fr h₀ L h' (fun y => if y = Str.ofString "spun" then some vS else if y = Str.ofString "turn" then c else if y = Str.ofString "twice" then some vT else if y = Str.ofString "one" then some vM else if y = Str.ofString "other" then some vN else if y = Str.ofString "held" then some vH else if y = Str.ofString "path" then some vP else m0 y) → LSt h₀ L h' r' o1' o2' → PathIn w (PairIn w) r' vS (mapD (appD qtM) (mapD (appD qtM) (mapD (appD qtM) (mapD (appD qtM) D)))) → Q .next { s with heap := h', toks := tk' }) :
    wpAny (model prog w) (callerA.deeper (envOf nm lawScope L fa cd)) (execs lsg3 (envOf nm lawScope L fa cd)) Q E s := by
  obtain ⟨B, X, T, C1, C2⟩ := C
  obtain ⟨N, f1, f2, t1, t2⟩ := S
  have F' := F
  clear F
  have hqt : ∀ j, j < 4 → OkAt qtM (spinD j D) := fun j hj => by
    match j, hj with
    | 0, _ => exact hLG.q1
    | 1, _ => exact hLG.q2
    | 2, _ => exact hLG.q3
    | 3, _ => exact hLG.q4
  show wpAny _ _ (execs lsgP3.1 _) _ _ _
  dsimp only [lsgP3]
  k_steps
  refine ⟨?_⟩
  intro I9 hh5 tkk5 aI
  refine spin_intro (P := fun mm => RangeRest _ _ _ _ _ _ _ _ _ _ _ _ _ _ _ mm _) (fun m1 hm1 => ?_)
  refine rangeRest_pick (q := 388) (by walk_at "S pick") ?_
  refine range_foldM (SpinInv w _ r _ D m1) ?_ ?_ _ _ _ _ _ ⟨[], _, m0 (Str.ofString "turn"), (List.append_nil _).symm, PathIn.mono pairMono _ _ _ _ hPa (fun p hp => List.mem_append.mpr (.inl hp)), TabOk.mono (by with_reducible assumption) (fun p hp => List.mem_append.mpr (.inl hp)), by decide, fun y => by
      dsimp only
      by_cases h1 : y = Str.ofString "spun"
      · rw [if_pos h1, if_pos h1]
      · rw [if_neg h1, if_neg h1]
        by_cases h2 : y = Str.ofString "turn"
        · rw [if_pos h2, h2, hm1]; with_unfolding_all rfl
        · rw [if_neg h2]⟩ ?_ ?_ ?_
  · exact Nat.ne_of_lt (aI (388, _) (by walk_at "S mem"))
  · rintro k i m2 o3 nx h tk t oI ⟨tp, vS, c, hnx, hP, hT, hk, hm⟩ F1 N' oI1 oq1
    obtain rfl := funext hm
    have F' := F1
    dsimp only at F'
    have hOk : OkAt qtM (spinD (4 - (k + 1)) D) := hqt _ (by omega)
    have hSm : Small (spinD (4 - (k + 1)) D) := spinD_small hLG.s0 _
    have e9 : spinD (4 - k) D = mapD (appD qtM) (spinD (4 - (k + 1)) D) := by
      rw [show 4 - k = (4 - (k + 1)) + 1 by omega]; rfl
    have h3I : @Ne Nat 388 I9 := Nat.ne_of_lt (aI (388, _) (by walk_at "S mem"))
    obtain ⟨nS, hn1, _, hP3⟩ := subOf (P := fun n => PathIn w (PairIn w) n vS (spinD (4 - (k + 1)) D)) (b := nx) hP (by rw [hnx]; walk_at "S sub")
    obtain ⟨n3, hn3, hn4, hT3⟩ := subOf (P := fun n => TabOk 199 28 qTrans n o3) (b := nx) hT (by rw [hnx]; walk_at "S sub")
    clear F1 hm hP hT
    k_steps
    walk_at "S mturn"
    refine ⟨tp ++ _, _, _, by rw [hnx, List.append_assoc], ?_, TabOk.mono (by with_reducible assumption) (fun p hp => by
      rw [← List.append_assoc]
      rcases List.mem_append.mp hp with hp | hp
      · exact List.mem_append.mpr (.inl (hn4 p hp))
      · first | exact List.mem_append.mpr (.inr hp) | exact List.mem_append.mpr (.inr (List.mem_append.mpr (.inr hp)))), by omega, by walk_at "S map"⟩
    rw [e9]
    exact PathIn.mono pairMono _ _ _ _ (by with_reducible assumption) (by walk_at "S sub")
  · walk_at "S off"
  · walk_at "S off"
  rintro m2 o3 t h tk ⟨tp, vS, c, hnx, hP, hT, hk, hm⟩ F1 N1 o1 U
  obtain rfl := List.append_cancel_left hnx
  obtain rfl := funext hm
  subst hm1
  have hP4 : PathIn w (PairIn w) _ vS (mapD (appD qtM) (mapD (appD qtM) (mapD (appD qtM) (mapD (appD qtM) D)))) := hP
  have F' := F1
  dsimp only at F'
  (try simp only [List.nil_append, List.cons_append, List.append_assoc] at N1 hP4 hT)
  clear F1 hP hm
  k_steps
  refine' next _ _ _ _ _ _ _ ?z9s ?z9F ?z9S ?z9p
  case z9F => k_asm
  case z9S => walk_at "S lst"
  case z9s => walk_at "S sub"
  case z9p => exact PathIn.mono pairMono _ _ _ _ (by with_reducible assumption) (by walk_at "S sub")

-- 34_s4
theorem seg4_ok {w : World} {prog pp : Program} {loose : List Str} {mean : ExcName → Option Value} {mg mb : Str → Option Value} {h₀ : Heap} {L fa : Addr} {nm : Str} {cd : Value} {s : Shared} {Q : Flow → Shared → Prop} {E : Value → Shared → Prop} {r : Led} {o1 o2 : Obj} {m0 : Str → Option Value} {D : PathD Pt} {M N' : Mat} {D2 DS : PathD Pt} {c : Option Value} {vP vH vM vN vT vS : Value} (C : LCtx w pp loose mean mg mb h₀) (F : Fr h₀ L s.heap (fun y => if y = Str.ofString "spun" then some vS else if y = Str.ofString "turn" then c else if y = Str.ofString "twice" then some vT else if y = Str.ofString "one" then some vM else if y = Str.ofString "other" then some vN else if y = Str.ofString "held" then some vH else if y = Str.ofString "path" then some vP else m0 y)) (S : LSt h₀ L s.heap r o1 o2)
    (hPa : PathIn w (PairIn w) r vP D) (hH : PartsIn TPt r vH (mapD tolP D)) (hTw : PathIn w (PairIn w) r vT D2) (hSp : PathIn w (PairIn w) r vS DS) (z2 : Small D2) (zS : Small DS) (e2 : mapD tolP DS = mapD tolP D) (e5 : (ptsD D2).length = (ptsD D).length) (hLG : LawG D M N')
    (next : ∀ h' tk' r' o1' o2', (∀ p ∈ r, p ∈ r') → Fr h₀ L h' (fun y => if y = Str.ofString "spun" then some vS else if y = Str.ofString "turn" then c else if y = Str.ofString "twice" then some vT else if y = Str.ofString "one" then some vM else if y = Str.ofString "other" then some vN else if y = Str.ofString "held" then some vH else if y = Str.ofString "path" then some vP else m0 y) → LSt h₀ L h' r' o1' o2' → Q .next { s with heap := h', toks := tk' }) :
    wpAny (model prog w) (callerA.deeper (envOf nm lawScope L fa cd)) (execs lsg4 (envOf nm lawScope L fa cd)) Q E s := by
  obtain ⟨B, X, T, C1, C2⟩ := C
  obtain ⟨N, f1, f2, t1, t2⟩ := S
  have F' := F
  clear F
  have a6 := hLG.i1
  have e3 := hLG.e3
  have s0 := hLG.s0
  have z0' := s0.pts
  have z2' := z2.pts
  show wpAny _ _ (execs lsgP4.1 _) _ _ _
  dsimp only [lsgP4]
  k_steps
  any_goals (exfalso; omega)
  refine' next _ _ _ _ _ ?z9s ?z9F ?z9S
  case z9F => k_asm
  case z9S => walk_at "S lst"
  case z9s => walk_at "S sub"

-- 35_s5
theorem seg5_ok {w : World} {prog pp : Program} {loose : List Str} {mean : ExcName → Option Value} {mg mb : Str → Option Value} {h₀ : Heap} {L fa : Addr} {nm : Str} {cd : Value} {s : Shared} {Q : Flow → Shared → Prop} {E : Value → Shared → Prop} {r : Led} {o1 o2 : Obj} {m0 : Str → Option Value} {D : PathD Pt} {M N' : Mat} {p p' : Pt} {ps ps' : List Pt} {c : Option Value} {vP vH vM vN vT vS : Value} (C : LCtx w pp loose mean mg mb h₀) (F : Fr h₀ L s.heap (fun y => if y = Str.ofString "spun" then some vS else if y = Str.ofString "turn" then c else if y = Str.ofString "twice" then some vT else if y = Str.ofString "one" then some vM else if y = Str.ofString "other" then some vN else if y = Str.ofString "held" then some vH else if y = Str.ofString "path" then some vP else m0 y)) (S : LSt h₀ L s.heap r o1 o2)
    (hPa : PathIn w (PairIn w) r vP D) (hLG : LawG D M N') (hBX : BoxG D p ps p' ps')
    (next : ∀ h' tk' r' o1' o2' vV va vb vc vd, (∀ p ∈ r, p ∈ r') → Fr h₀ L h' (fun y => if y = Str.ofString "high" then some vd else if y = Str.ofString "right" then some vc else if y = Str.ofString "low" then some vb else if y = Str.ofString "left" then some va else if y = Str.ofString "moved" then some vV else if y = Str.ofString "spun" then some vS else if y = Str.ofString "turn" then c else if y = Str.ofString "twice" then some vT else if y = Str.ofString "one" then some vM else if y = Str.ofString "other" then some vN else if y = Str.ofString "held" then some vH else if y = Str.ofString "path" then some vP else m0 y) → LSt h₀ L h' r' o1' o2' → PathIn w (PairIn w) r' vV (mapD (appD trM) (mapD (appD scM) D)) → DecIn w r' va (boxA p ps) → DecIn w r' vb (boxB p ps) → DecIn w r' vc (boxC p ps) → DecIn w r' vd (boxD p ps) → Q .next { s with heap := h', toks := tk' }) :
    wpAny (model prog w) (callerA.deeper (envOf nm lawScope L fa cd)) (execs lsg5 (envOf nm lawScope L fa cd)) Q E s := by
  obtain ⟨B, X, T, C1, C2⟩ := C
  obtain ⟨N, f1, f2, t1, t2⟩ := S
  have F' := F
  clear F
  have a7 := hLG.c1
  have a8 := hLG.c2
  have s0 := hLG.s0
  have x1 := hBX.e
  have x3 := hBX.b
  have x5 := hBX.z
  show wpAny _ _ (execs lsgP5.1 _) _ _ _
  dsimp only [lsgP5]
  k_steps
  refine' next _ _ _ _ _ _ _ _ _ _ ?z9s ?z9F ?z9S ?z9p ?z9a ?z9b ?z9c ?z9d
  case z9F => k_asm
  case z9S => walk_at "S lst"
  case z9s => walk_at "S sub"
  case z9p => exact PathIn.mono pairMono _ _ _ _ (by with_reducible assumption) (by walk_at "S sub")
  case z9a => walk_at "S dec"
  case z9b => walk_at "S dec"
  case z9c => walk_at "S dec"
  case z9d => walk_at "S dec"

-- 36_s6
theorem news_sub {h₀ h : Heap} {L : Addr} {l l' : Led} (N : News h₀ L h l) (hs : ∀ p ∈ l', p ∈ l) : News h₀ L h l' := fun p hp => N p (hs p hp)
theorem box_eq {prog : Program} {w : World} {A : Around} {E : Value → Shared → Prop} {s : Shared} {h₀ : Heap} {L q' : Addr} {news n1 n2 : Led} {v : Value} {ws : List Value} {k' : Nat} {ds es : List (Int × Int)} {Q : Value → Shared → Prop} (N : News h₀ L s.heap news) (h1 : TupIn IPr n1 v ds) (s1 : ∀ p ∈ n1, p ∈ news) (m2 : (q', tupO ws k') ∈ news) (h2 : All2 (IPr n2) ws es) (s2 : ∀ p ∈ n2, p ∈ news)
    (e : ds = es) (hA : A.units + 20 < cLine) (h : Q (.bool true) s) : wpAny (model prog w) A (compareOp .Eq v (.ref q')) Q E s := by
  subst e
  obtain ⟨q, n, vs, rfl, m1, ha⟩ := h1
  obtain ⟨e2, r⟩ := eq_all2 (IPr.eqv N s1 s2) ha h2
  exact rc_tup N (s1 _ m1) m2 e2 r A (by omega) prog w E Q h
theorem reg_P36_s6_x7 : True := by
  k_with "M:compareOp Eq ref ref" => iterate 777 ((k_here; (with_reducible show wpAny _ _ (compareOp CmpOp.Eq _ (Value.ref _)) _ _ _); k_dflt (refine' box_eq ?z9a ?z9h1 ?z9s1 ?z9m2 ?z9h2 ?z9s2 ?z9e ?z9u ?_; (case z9a => k_asm); (case z9h1 => with_reducible assumption); (case z9m2 => k_mem); (case z9h2 => with_reducible assumption); (case z9s1 => walk_at "S sub"); (case z9s2 => walk_at "S sub"); (case z9e => with_reducible assumption); (case z9u => walk_at "S units"); k_whole)))
  trivial
theorem tab_obj {line col : Nat} {qual : Str} {l : Led} {o : Obj} (h : TabOk line col qual l o) : ∃ a, o = tabObj a := h.elim (fun h => ⟨_, h⟩) fun ⟨_, _, _, _, h, _⟩ => ⟨_, h⟩
theorem seg6_ok {w : World} {prog pp : Program} {loose : List Str} {mean : ExcName → Option Value} {mg mb : Str → Option Value} {h₀ : Heap} {L fa : Addr} {nm : Str} {cd : Value} {s : Shared} {Q : Flow → Shared → Prop} {E : Value → Shared → Prop} {r : Led} {o1 o2 : Obj} {m0 : Str → Option Value} {D : PathD Pt} {p p' : Pt} {ps ps' : List Pt} {vV va vb vc vd : Value} (C : LCtx w pp loose mean mg mb h₀) (F : Fr h₀ L s.heap (fun y => if y = Str.ofString "high" then some vd else if y = Str.ofString "right" then some vc else if y = Str.ofString "low" then some vb else if y = Str.ofString "left" then some va else if y = Str.ofString "moved" then some vV else m0 y)) (S : LSt h₀ L s.heap r o1 o2)
    (hV : PathIn w (PairIn w) r vV (mapD (appD trM) (mapD (appD scM) D))) (hA : DecIn w r va (boxA p ps)) (hB : DecIn w r vb (boxB p ps)) (hC : DecIn w r vc (boxC p ps)) (hD : DecIn w r vd (boxD p ps)) (z0 : Small D) (hBX : BoxG D p ps p' ps')
    (ret : ∀ h' tk' r' m' a b, Fr h₀ L h' m' → News h₀ L h' ((388, tabObj a) :: (395, tabObj b) :: r') → Q (.ret (.bool true)) { s with heap := h', toks := tk' }) :
    wpAny (model prog w) (callerA.deeper (envOf nm lawScope L fa cd)) (execs lsg6 (envOf nm lawScope L fa cd)) Q E s := by
  obtain ⟨B, X, T, C1, C2⟩ := C
  obtain ⟨N, f1, f2, t1, t2⟩ := S
  have F' := F
  clear F
  obtain ⟨ta, rfl⟩ := tab_obj t1
  obtain ⟨tb, rfl⟩ := tab_obj t2
  clear t1 t2 C1 C2
  have x2 := hBX.e'
  have x4 := hBX.b'
  have x6 := hBX.z'
  have y1 := hBX.b1
  have y2 := hBX.b2
  have y3 := hBX.b3
  have y4 := hBX.b4
  have y5 := hBX.m1
  have y6 := hBX.m2
  have y7 := hBX.m3
  have y8 := hBX.m4
  have e6 : [tolD (boxA p' ps'), tolD (boxB p' ps'), tolD (boxC p' ps'), tolD (boxD p' ps')] = [dueX (boxA p ps), dueY (boxB p ps), dueX (boxC p ps), dueY (boxD p ps)].map tolD := by
    rw [hBX.x1, hBX.x2, hBX.x3, hBX.x4]; rfl
  have d2 : BdM (dI 2) := ⟨by decide +kernel, by decide⟩
  have d3 : BdM (dI 3) := ⟨by decide +kernel, by decide⟩
  have d5 : BdM (dI 5) := ⟨by decide +kernel, by decide⟩
  have d7 : BdM (dI 7) := ⟨by decide +kernel, by decide⟩
  have zV : Small (mapD (appD trM) (mapD (appD scM) D)) := Small.map (Small.map z0)
  have hA2 := hA
  have hB2 := hB
  have hC2 := hC
  have hD2 := hD
  obtain ⟨_, _, _, _, _, _, _, rfl, _, _⟩ := DecIn.out hA2; clear hA2
  obtain ⟨_, _, _, _, _, _, _, rfl, _, _⟩ := DecIn.out hB2; clear hB2
  obtain ⟨_, _, _, _, _, _, _, rfl, _, _⟩ := DecIn.out hC2; clear hC2
  obtain ⟨_, _, _, _, _, _, _, rfl, _, _⟩ := DecIn.out hD2; clear hD2
  show wpAny _ _ (execs lsgP6.1 _) _ _ _
  dsimp only [lsgP6]
  k_steps
  refine ⟨?_⟩
  refine comp_map2 (R := fun n v d => DecIn w n v d) (R' := IPr) tolD (fun _ _ _ _ h hs => h.mono hs) IPr.mono (ds := [dueX (boxA p ps), dueY (boxB p ps), dueX (boxC p ps), dueY (boxD p ps)]) (All2.cons (by show DecIn _ _ _ (minusD _ _); walk_at "S dec") (All2.cons (by show DecIn _ _ _ (plusD _ _); walk_at "S dec") (All2.cons (by show DecIn _ _ _ (minusD _ _); walk_at "S dec") (All2.one (by show DecIn _ _ _ (plusD _ _); walk_at "S dec"))))) (fun t => ?_) ?_ ?_
  · exact List.mem_append.mpr (.inl (by walk_at "S memf"))
  · rintro v6 d6 I6 oI6 C6 oC6 D6 oD6 m₆ nx6 h6 tk6 E6 hv6 hs6 hC6 hx6 F6 N6 o3 o4 o5 i1 i2 i3
    have hv7 := hv6
    obtain ⟨_, _, _, _, _, _, _, rfl, _, _⟩ := DecIn.out hv7; clear hv7
    k_steps
    walk_at "S cend2"
    exact ⟨_, _, _, _, rfl, by dsimp only [tolD]; walk_at "S memf"⟩
  · intro ys6 t6 hy6 up6
    have z7 := hy6.length
    have z8 : ys6.length ≤ 1000 := by rw [z7]; simp
    k_steps
    refine' ret _ _ [] _ _ _ ?z9F ?z9N
    case z9F => k_asm
    case z9N => (refine news_sub (by assumption) ?s; walk_at "S sub")

-- 38_law
theorem law_all {w : World} {prog pp : Program} {loose : List Str} {mean : ExcName → Option Value} {mg mb : Str → Option Value} {h₀ : Heap} {L fa : Addr} {nm : Str} {cd : Value} {s : Shared} {Q : Flow → Shared → Prop} {E : Value → Shared → Prop} {sc : Addr} {vs : List Value} {ns : List Int}
    (C : LCtx w pp loose mean mg mb h₀) (hE : PassesOwn (model prog w) (callerA.deeper (envOf nm lawScope L fa cd)) (envOf nm lawScope L fa cd) E) (F : Fr h₀ L s.heap (fun x => ([(Str.ofString "script", Value.ref sc)] : List (Str × Value)).lookup x)) (N : News h₀ L s.heap [(395, tabObj #[]), (388, tabObj #[])]) (hL : h₀.IsList sc vs.toArray) (hI : IntsAre vs ns) (hz : ns.length ≤ 63)
    (ret : ∀ h' tk' r' m' a b, Fr h₀ L h' m' → News h₀ L h' ((388, tabObj a) :: (395, tabObj b) :: r') → Q (.ret (.bool true)) { s with heap := h', toks := tk' }) :
    wpAny (model prog w) (callerA.deeper (envOf nm lawScope L fa cd)) (execs lawFn.1 (envOf nm lawScope L fa cd)) Q E s := by
  rw [law_segs]
  have mP : ∀ n n' v d, PathIn w (PairIn w) n v d → (∀ p ∈ n, p ∈ n') → PathIn w (PairIn w) n' v d := fun n n' v d => PathIn.mono pairMono n n' v d
  refine execs_split (seg0_ok C F N hL hI hz fun h tk r o1 o2 vP vH vM vN m0 D M N' F S hP hH hM hN hG gM gN => ?_)
  have hLG := lawG hG (by decide) gM gN
  obtain ⟨p, ps, p', ps', hBX⟩ := boxG hG (pts_le hG.ok)
  have s0 := hLG.s0
  refine execs_split (seg1_ok C F S hP hH hM hN hLG fun h tk r1 o1 o2 vT k1 F S hT => ?_)
  have hP := mP _ _ _ _ hP k1
  have hH := PartsIn.mono TPt.mono _ _ _ _ hH k1
  refine execs_split (seg2_ok C F S hP hT s0 s0.map.map hLG.e4 fun h tk r2 o1 o2 k2 F S => ?_)
  have hP := mP _ _ _ _ hP k2
  have hT := mP _ _ _ _ hT k2
  have hH := PartsIn.mono TPt.mono _ _ _ _ hH k2
  refine execs_split (seg3_ok C F S hP hLG hE fun h tk r3 o1 o2 vS c k3 F S hS => ?_)
  have hP := mP _ _ _ _ hP k3
  have hT := mP _ _ _ _ hT k3
  have hH := PartsIn.mono TPt.mono _ _ _ _ hH k3
  refine execs_split (seg4_ok C F S hP hH hT hS s0.map.map s0.map.map.map.map hLG.e2 hLG.e5 hLG fun h tk r4 o1 o2 k4 F S => ?_)
  have hP := mP _ _ _ _ hP k4
  refine execs_split (seg5_ok C F S hP hLG hBX fun h tk r5 o1 o2 vV va vb vc vd k5 F S hV hA hB hC hD => ?_)
  exact seg6_ok C F S hV hA hB hC hD s0 hBX fun h tk r m a b F N => ret _ _ _ _ _ _ F N
theorem lawTest : PySem.Challenge.rw_og0164_01.Holds := Mine.hd (by
  k_go0
  rename_i w6 s0 s1 mg mb G Y fa o pm cd doc kV ho hcd hg X V T B TE TW w5 hs hlay0 hL1 hr1 hl2 w4 w3 w2 w1 w0 hL ra w1w r0 hI hr hc1 hc2 hD h1 X1 T1 K1 F1 C1 N1 l0
  have hz : w5.length ≤ 63 := by omega
  refine law_all ⟨K1, X1, T1, C1, codeHd⟩ (by passes_own) F1 N1 lifted hI hz (fun h' tk' r' m' a b F9 N9 => ?_)
  clear hcd hD
  k_steps)

end Mine
theorem PySem.Challenge.cw_og0164_01_holds : PySem.Challenge.rw_og0164_01.Holds :=
  Mine.lawTest
