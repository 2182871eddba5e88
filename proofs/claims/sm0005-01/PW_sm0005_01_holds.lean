import PyProof.Rows.All
import Wide.All
import OpenK.AllK
import Wide.FinOn
import PySem.Challenge.RW_sm0005_01
set_option Elab.async false
section
open PySem PySem.W PyProof.Rows
set_option maxRecDepth 100000
set_option maxHeartbeats 8000000
namespace Mine
abbrev PP : Program := PySem.Challenge.pw_sm0005_01
-- the run over a tree of objects
noncomputable def topRunT (tb : String → Option Builtin) (p : Program) (w : World) (n₀ : Nat) (ann : Option Value) : Nat → SharedT → Thread → Option SharedT
  | 0, _, _ => none
  | n + 1, s, t => match through t with
    | true => some s
    | false => match stepOk n₀ ann t with
      | false => none
      | true => match stepT (denote tb) p w s t with
        | some (s', t') => topRunT tb p w n₀ ann n s' t'
        | none => none
theorem topRunT_of {tb : String → Option Builtin} {p : Program} {w : World} {n₀ : Nat} {ann : Option Value} : ∀ {n : Nat} {s s' : SharedT} {t : Thread}, topRunT tb p w n₀ ann n s t = some s' → topRun tb p w n₀ ann n s.abs t = some s'.abs
  | 0, _, _, _, h => by cases h
  | n + 1, s, s', t, h => by
    unfold topRunT at h
    unfold topRun
    cases ht : through t with
    | true => rw [ht] at h; cases h; rfl
    | false =>
      rw [ht] at h
      cases hk : stepOk n₀ ann t with
      | false => rw [hk] at h; cases h
      | true =>
        rw [hk] at h
        cases hs : stepT (denote tb) p w s t with
        | none => rw [hs] at h; cases h
        | some r => obtain ⟨s₂, t₂⟩ := r; rw [hs] at h; dsimp only; rw [stepT_spec hs]; exact topRunT_of h
noncomputable def topRunQ (p : Program) (w : World) (n₀ : Nat) (ann : Option Value) : Nat → SharedT → Thread → Option SharedT
  | 0, _, _ => none
  | n + 1, s, t => match through t with
    | true => some s
    | false => match Fast.tw6613529449190102663 n₀ ann t with
      | false => none
      | true => match Fast.tw10156331382660048174 (Fast.tw11892475500146522536 Fast.tw14364793385576792824) p w s t with
        | some (s', t') => topRunQ p w n₀ ann n s' t'
        | none => none
theorem topRunQ_eq {p : Program} {w : World} {n₀ : Nat} {ann : Option Value} : ∀ {n : Nat} {s : SharedT} {t : Thread}, topRunT treeTable p w n₀ ann n s t = topRunQ p w n₀ ann n s t
  | 0, _, _ => rfl
  | n + 1, s, t => by
    unfold topRunT topRunQ
    rw [← Fast.te6613529449190102663, ← Fast.te10156331382660048174, ← Fast.te11892475500146522536, ← Fast.te14364793385576792824]
    simp only [topRunQ_eq]
noncomputable def treeOf (l : List Obj) : BT := (l.foldl (fun (t : BT × Nat) o => (t.1.ins t.2 o, t.2 + 1)) (BT.nil, 0)).1
theorem booted (w : World) : (fencedOpening treeTable PP w 4502).map (fun s => (s.heap, s.gens, s.drawn, s.toks)) = some (boot_heap w.params, Array.mk [], boot_drawn, boot_toks) :=
  boot_open (by rfl) (by rfl) (fun s => by rfl) w
theorem sized (w : World) : ((boot_heap w.params).isNs mainGlobals && (Array.mk [] : Array GenState).size == 0) = true := by kernel_rfl
theorem sized1 (w : World) : (boot_heap w.params).objs.size = 11 := by kernel_rfl
theorem sized3 (w : World) : (boot_heap w.params).nsMap mainGlobals "__annotations__" = some (.ref 6) := by kernel_rfl
noncomputable def tree0 (P : Params) : BT := treeOf (boot_heap P).objs.toList
noncomputable def start0 (w : World) (os : OsState) : SharedT := ⟨tree0 w.params, 11, (boot_heap w.params).life, Array.mk [], boot_drawn, boot_toks, os⟩
theorem start0_abs (w : World) (os : OsState) : (start0 w os).abs = ⟨boot_heap w.params, Array.mk [], boot_drawn, boot_toks, os⟩ := by kernel_rfl
noncomputable def lawView : Program := { PP with main := { PP.main with body := (PP.main.body.drop 1).take 10 ++ (PP.main.body.drop 12).take 16 ++ (PP.main.body.drop 29).take 11 ++ (PP.main.body.drop 41).take 7 ++ (PP.main.body.drop 49).take 1 ++ PP.main.body.drop 51 } }
abbrev theRow : OpenRow := PySem.Challenge.rw_sm0005_01.row
noncomputable def XtX (s : Shared) : Bool := xlAt lawView [] s && recOk (RowW.records (OpenRow.toRowW theRow)) s
noncomputable def ran (w : World) (os : OsState) : Option SharedT := topRunQ PP w 11 (some (.ref 6)) 4502 (start0 w os) (topStub PP)
noncomputable def look0 (w : World) (s : Shared) : Bool := staticsOk (importedModules PP.main.body) (boot_heap w.params) s.heap && namesBound PP s.heap && gensDone s && laidKept (boot_heap w.params) s.heap
theorem lookA (w : World) (os : OsState) : (ran w os).map (fun s => look0 w s.abs) = some true := by kernel_rfl
theorem lookC (w : World) (os : OsState) : (ran w os).map (fun s => Fast.tw4187177175401517315 lawView [Str.ofString "BasicError"] (importedModules PP.main.body) XtX true s.abs) = some (openGood lawView [Str.ofString "BasicError"]) := by kernel_rfl
theorem topFrom_at {tb : String → Option Builtin} {p : Program} {w : World} {N : Nat} {hp : Heap} {gs : Array GenState} {d : Drawn} {k : Nat} {os : OsState} {s : Shared} {n : Nat} {v : Option Value} (h1 : (hp.isNs mainGlobals && gs.size == 0) = true) (h2 : hp.objs.size = n) (h3 : hp.nsMap mainGlobals "__annotations__" = v)
    (r : topRun tb p w n v N ⟨hp, gs, d, k, os⟩ (topStub p) = some s) (l : (staticsOk (importedModules p.main.body) hp s.heap && namesBound p s.heap && gensDone s && laidKept hp s.heap) = true) : topFrom tb p w N ⟨hp, gs, d, k, os⟩ = some s := by
  unfold topFrom
  dsimp only
  rw [h1, h2, h3]
  dsimp only
  rw [r]
  show (match (staticsOk (importedModules p.main.body) hp s.heap && namesBound p s.heap && gensDone s && laidKept hp s.heap) with | true => some s | false => none) = some s
  rw [l]
theorem left_gen {α : Type} {p q : Program} {loose : List Str} {Xt : Shared → Bool} {N n : Nat} {v : Option Value} {hp : World → Heap} {d0 : Drawn} {k0 : Nat} {start : World → OsState → SharedT} {run : World → OsState → Option SharedT} {f : Program → List Str → List Str → (Shared → Bool) → Bool → Shared → _} {Yf : Shared → α} {Ya : World → α}
    (hf : @openSeen = f) (b : ∀ w, (fencedOpening treeTable p w N).map (fun s => (s.heap, s.gens, s.drawn, s.toks)) = some (hp w, Array.mk [], d0, k0))
    (h1 : ∀ w, ((hp w).isNs mainGlobals && (Array.mk [] : Array GenState).size == 0) = true) (h2 : ∀ w, (hp w).objs.size = n) (h3 : ∀ w, (hp w).nsMap mainGlobals "__annotations__" = v)
    (hs : ∀ w os, (start w os).abs = ⟨hp w, Array.mk [], d0, k0, os⟩) (hr : ∀ w os, run w os = topRunQ p w n v N (start w os) (topStub p))
    (lk : ∀ w os, (run w os).map (fun s => staticsOk (importedModules p.main.body) (hp w) s.abs.heap && namesBound p s.abs.heap && gensDone s.abs && laidKept (hp w) s.abs.heap) = some true)
    (lc : ∀ w os, (run w os).map (fun s => f q loose (importedModules p.main.body) Xt true s.abs) = some (openGood q loose))
    (h : ∀ w os, (run w os).map (fun s => Yf s.abs) = some (Ya w)) : LeftO p q loose Xt Yf Ya N := fun w => by
  obtain ⟨⟨hp', gs, d, k, os⟩, e, e'⟩ := Option.map_eq_some_iff.mp (b w)
  obtain ⟨rfl, rfl, rfl, rfl⟩ : hp' = hp w ∧ gs = Array.mk [] ∧ d = d0 ∧ k = k0 := by simpa using e'
  obtain ⟨s, hs', l3⟩ := Option.map_eq_some_iff.mp (h w os)
  have l1 := lk w os
  have l2 := lc w os
  rw [hs'] at l1 l2
  have l1 := Option.some.inj l1
  have l2 := Option.some.inj l2
  rw [← hf] at l2
  rw [hr, ← topRunQ_eq] at hs'
  have r := topRunT_of hs'
  rw [hs] at r
  have t := topFrom_at (h1 w) (h2 w) (h3 w) r l1
  unfold openEnds
  rw [e]
  show (topFrom treeTable p w N _).map _ = _
  rw [t]
  exact congrArg some (Prod.ext l2 l3)
theorem left_of {α : Type} {Yf : Shared → α} {Ya : World → α} (h : ∀ w os, (ran w os).map (fun s => Yf s.abs) = some (Ya w)) : LeftO PP lawView [Str.ofString "BasicError"] XtX Yf Ya 4502 :=
  left_gen (hp := fun w => boot_heap w.params) Fast.te4187177175401517315 booted sized sized1 sized3 start0_abs (fun _ _ => rfl) lookA lookC h
theorem saidQ : PySem.Challenge.rw_sm0005_01.wellSaid = true := by
  have h : Fast.tw9446332074065402090 PySem.Challenge.rw_sm0005_01 = true := by kernel_rfl
  rw [Fast.te9446332074065402090]; exact h
local macro_rules | `(tactic| o_law) => `(tactic| refine holds_law saidQ fun said => ?_)
local macro_rules | `(tactic| o_head $H) => `(tactic| (refine W.holds_open (q := lawView) (loose := [Str.ofString "BasicError"]) (Xt := XtX) (XP := XL lawView []) (Yf := Hook.obs $H) (Ya := Hook.val $H) (YP := Hook.says $H) (N := 4502) ?hl (Hook.of $H) (Hook.keeps $H) (fun s e => xl_of s (Bool.and_eq_true_iff.mp e).1) XL.keeps (by rfl) (by rfl) (by rfl) (fun s e => recFacts_of (Bool.and_eq_true_iff.mp e).2) (by rfl) (by first | assumption | decide +kernel) (by decide +kernel) ⟨rfl, rfl, rfl, rfl, rfl, by decide +kernel⟩ ?hw ?hc; (case hl => exact left_of (fun w os => by kernel_rfl))))
open_top hd for PySem.Challenge.rw_sm0005_01
end Mine
end
section
open PySem PySem.W PyProof.Rows
set_option maxRecDepth 100000
set_option maxHeartbeats 8000000
namespace Mine
abbrev PW := PySem.Challenge.rw_sm0005_01.row.prog
abbrev Led := List (Addr × Obj)
/-- what a call of the function at f with args does, over any ledger: it ends with R, the ledger grown -/
def Sp (w : World) (k u : Nat) (f : Addr) (args : List Value) (news : Led) (R : Value → Led → Prop) : Prop :=
  ∀ (p : Program) (loose : List Str) (mean : ExcName → Option Value) (mg mb : Str → Option Value) (dp un : Nat) (gd : Option (List Code)) (cn : Str) (cs : Scope) (a : Addr) (ccd : Value) (cl : List (Str × Addr)) (outer : List Env) (A₀ : Around) (base h₀ : Heap) (L : Addr) (m : Str → Option Value) (s : Shared)
    (Q E : Value → Shared → Prop),
    Below A₀ base outer h₀ → Fr h₀ L s.heap m → (hd.heap_1 w.params).In h₀ → News h₀ L s.heap news → Top p loose mean mg mb h₀ → cs.kind = .function → dp + k < recursionLimit → un + u < cLine →
    (∀ r tl h' tk', Fr h₀ L h' m → News h₀ L h' (tl ++ news) → (∀ q ∈ news, ∀ p ∈ tl, q.1 < p.1) → R r tl → Q r { s with heap := h', toks := tk' }) →
    wpAny (model PW w) (ktrTop dp un gd cn cs L a ccd cl outer) (call (.ref f) args) Q E s
theorem sp_use {w : World} {k u : Nat} {f : Addr} {args : List Value} {news : Led} {R : Value → Led → Prop} (C : Sp w k u f args news R)
    {p : Program} {loose : List Str} {mean : ExcName → Option Value} {mg mb : Str → Option Value} {dp un : Nat} {gd : Option (List Code)} {cn : Str} {cs : Scope} {a : Addr} {ccd : Value} {cl : List (Str × Addr)} {outer : List Env} {A₀ : Around} {base h₀ : Heap} {L : Addr} {m : Str → Option Value} {s : Shared}
    {Q E : Value → Shared → Prop} (B : Below A₀ base outer h₀) (F : Fr h₀ L s.heap m) (X : (hd.heap_1 w.params).In h₀) (N : News h₀ L s.heap news) (T : Top p loose mean mg mb h₀) (hk : cs.kind = .function) (hd : dp + k < recursionLimit) (hu : un + u < cLine)
    (ret : ∀ r tl h' tk', Fr h₀ L h' m → News h₀ L h' (tl ++ news) → (∀ q ∈ news, ∀ p ∈ tl, q.1 < p.1) → R r tl → Q r { s with heap := h', toks := tk' }) :
    wpAny (model PW w) (ktrTop dp un gd cn cs L a ccd cl outer) (call (.ref f) args) Q E s := C _ _ _ _ _ _ _ _ _ _ _ _ _ _ _ _ _ _ _ _ _ _ B F X N T hk hd hu ret
theorem ord_sub {news news' tl : Led} (h : ∀ q ∈ news', ∀ p ∈ tl, q.1 < p.1) (s : ∀ q ∈ news, q ∈ news') : ∀ q ∈ news, ∀ p ∈ tl, q.1 < p.1 := fun q hq p hp => h q (s q hq) p hp
theorem isListOf {h₀ h : Heap} {L l : Addr} {news : Led} {its : Array Value} {n : Nat} (N : News h₀ L h news) (hm : (l, listOf its n) ∈ news) : h.IsList l its := ⟨_, (N _ hm).1, rfl, n, rfl⟩
abbrev tupO (vs : List Value) (k : Nat) : Obj := { cls := .type "tuple", data := .seq vs.toArray k }
inductive Num where
  | i (n : Int)
  | d (c e : Int)
def Num.units : Num → Int
  | .i n => 100 * n
  | .d c e => if e = -2 then c else if e = -1 then 10 * c else if e = 0 then 100 * c else if e = 1 then 1000 * c else 10000 * c
def Num.Ok : Num → Prop
  | .i n => -100 ≤ n ∧ n ≤ 100
  | .d c e => -2 ≤ e ∧ e ≤ 2 ∧ -10000 ≤ (Num.d c e).units ∧ (Num.d c e).units ≤ 10000
inductive NumIn (news : Led) : Value → Num → Prop
  | i {n : Int} {t : Tok} : NumIn news (.int n t) (.i n)
  | d {a : Addr} {c e : Int} {t1 t2 : Tok} {k : Nat} (hm : (a, tupO [.int c t1, .int e t2] k) ∈ news) : NumIn news (.ref a) (.d c e)
theorem NumIn.invI {news : Led} {v : Value} {n : Int} (h : NumIn news v (.i n)) : ∃ t, v = .int n t := by
  cases h; exact ⟨_, rfl⟩
theorem NumIn.invD {news : Led} {v : Value} {c e : Int} (h : NumIn news v (.d c e)) : ∃ a t1 t2 k, v = .ref a ∧ (a, tupO [.int c t1, .int e t2] k) ∈ news := by
  cases h; exact ⟨_, _, _, _, rfl, by assumption⟩
theorem NumIn.mono {news news' : Led} {v : Value} {N : Num} (h : NumIn news v N) (hs : ∀ p ∈ news, p ∈ news') : NumIn news' v N := by
  cases h with
  | i => exact .i
  | d hm => exact .d (hs _ hm)
theorem numIn_i {news : Led} {n : Int} {t : Tok} : NumIn news (.int n t) (.i n) := .i
theorem numIn_d {news : Led} {a : Addr} {c e : Int} {t u : Tok} {k : Nat} (hm : (a, tupO [.int c t, .int e u] k) ∈ news) : NumIn news (.ref a) (.d c e) := .d hm
theorem sp_useI {w : World} {k u : Nat} {f : Addr} {args : List Value} {news : Led} {p : Program} {loose : List Str} {mean : ExcName → Option Value} {mg mb : Str → Option Value} {dp un : Nat} {gd : Option (List Code)} {cn : Str} {cs : Scope} {a : Addr} {ccd : Value} {cl : List (Str × Addr)} {outer : List Env} {A₀ : Around} {base h₀ : Heap} {L : Addr} {m : Str → Option Value} {s : Shared}
    {Q E : Value → Shared → Prop} {x : Int} (C : Sp w k u f args news (fun r tl => (∃ t, r = .int x t) ∧ tl = [])) (B : Below A₀ base outer h₀) (F : Fr h₀ L s.heap m) (X : (hd.heap_1 w.params).In h₀) (N : News h₀ L s.heap news) (T : Top p loose mean mg mb h₀) (hk : cs.kind = .function) (hd : dp + k < recursionLimit) (hu : un + u < cLine)
    (ret : ∀ h' tk', Fr h₀ L h' m → ∀ t, News h₀ L h' news → Q (.int x t) { s with heap := h', toks := tk' }) :
    wpAny (model PW w) (ktrTop dp un gd cn cs L a ccd cl outer) (call (.ref f) args) Q E s := C _ _ _ _ _ _ _ _ _ _ _ _ _ _ _ _ _ _ _ _ _ _ B F X N T hk hd hu fun _ _ h' tk' F N _ o => by obtain ⟨⟨t, rfl⟩, rfl⟩ := o; exact ret h' tk' F t N
theorem sp_useV {w : World} {k u : Nat} {f : Addr} {args : List Value} {news : Led} {p : Program} {loose : List Str} {mean : ExcName → Option Value} {mg mb : Str → Option Value} {dp un : Nat} {gd : Option (List Code)} {cn : Str} {cs : Scope} {a : Addr} {ccd : Value} {cl : List (Str × Addr)} {outer : List Env} {A₀ : Around} {base h₀ : Heap} {L : Addr} {m : Str → Option Value} {s : Shared}
    {Q E : Value → Shared → Prop} {x : Value} (C : Sp w k u f args news (fun r tl => r = x ∧ tl = [])) (B : Below A₀ base outer h₀) (F : Fr h₀ L s.heap m) (X : (hd.heap_1 w.params).In h₀) (N : News h₀ L s.heap news) (T : Top p loose mean mg mb h₀) (hk : cs.kind = .function) (hd : dp + k < recursionLimit) (hu : un + u < cLine)
    (ret : ∀ h' tk', Fr h₀ L h' m → News h₀ L h' news → Q x { s with heap := h', toks := tk' }) :
    wpAny (model PW w) (ktrTop dp un gd cn cs L a ccd cl outer) (call (.ref f) args) Q E s := C _ _ _ _ _ _ _ _ _ _ _ _ _ _ _ _ _ _ _ _ _ _ B F X N T hk hd hu fun _ _ h' tk' F N _ o => by obtain ⟨rfl, rfl⟩ := o; exact ret h' tk' F N
theorem sp_useF {w : World} {k u : Nat} {f : Addr} {args : List Value} {news : Led} {p : Program} {loose : List Str} {mean : ExcName → Option Value} {mg mb : Str → Option Value} {dp un : Nat} {gd : Option (List Code)} {cn : Str} {cs : Scope} {a : Addr} {ccd : Value} {cl : List (Str × Addr)} {outer : List Env} {A₀ : Around} {base h₀ : Heap} {L : Addr} {m : Str → Option Value} {s : Shared}
    {Q E : Value → Shared → Prop}  (C : Sp w k u f args news (fun r tl => (∃ x t, r = .int x t ∧ 1 ≤ x ∧ x ≤ 9) ∧ tl = [])) (B : Below A₀ base outer h₀) (F : Fr h₀ L s.heap m) (X : (hd.heap_1 w.params).In h₀) (N : News h₀ L s.heap news) (T : Top p loose mean mg mb h₀) (hk : cs.kind = .function) (hd : dp + k < recursionLimit) (hu : un + u < cLine)
    (ret : ∀ h' tk', Fr h₀ L h' m → ∀ (x : Int) t, 1 ≤ x → x ≤ 9 → News h₀ L h' news → Q (.int x t) { s with heap := h', toks := tk' }) :
    wpAny (model PW w) (ktrTop dp un gd cn cs L a ccd cl outer) (call (.ref f) args) Q E s := C _ _ _ _ _ _ _ _ _ _ _ _ _ _ _ _ _ _ _ _ _ _ B F X N T hk hd hu fun _ _ h' tk' F N _ o => by obtain ⟨⟨x, t, rfl, a, b⟩, rfl⟩ := o; exact ret h' tk' F x t a b N
theorem sp_useD {w : World} {k u : Nat} {f : Addr} {args : List Value} {news : Led} {p : Program} {loose : List Str} {mean : ExcName → Option Value} {mg mb : Str → Option Value} {dp un : Nat} {gd : Option (List Code)} {cn : Str} {cs : Scope} {a : Addr} {ccd : Value} {cl : List (Str × Addr)} {outer : List Env} {A₀ : Around} {base h₀ : Heap} {L : Addr} {m : Str → Option Value} {s : Shared}
    {Q E : Value → Shared → Prop} {U : Int} (C : Sp w k u f args news (fun r tl => ∃ D c' e' t1 t2, r = .ref D ∧ tl = [(D, tupO [.int c' t1, .int e' t2] 0)] ∧ (Num.d c' e').Ok ∧ (Num.d c' e').units = U)) (B : Below A₀ base outer h₀) (F : Fr h₀ L s.heap m) (X : (hd.heap_1 w.params).In h₀) (N : News h₀ L s.heap news) (T : Top p loose mean mg mb h₀) (hk : cs.kind = .function) (hd : dp + k < recursionLimit) (hu : un + u < cLine)
    (ret : ∀ h' tk', Fr h₀ L h' m → ∀ D c e t1 t2, (Num.d c e).Ok → (Num.d c e).units = U → News h₀ L h' ((D, tupO [.int c t1, .int e t2] 0) :: news) → (∀ q ∈ news, ∀ p ∈ [(D, tupO [.int c t1, .int e t2] 0)], q.1 < p.1) → Q (.ref D) { s with heap := h', toks := tk' }) :
    wpAny (model PW w) (ktrTop dp un gd cn cs L a ccd cl outer) (call (.ref f) args) Q E s := C _ _ _ _ _ _ _ _ _ _ _ _ _ _ _ _ _ _ _ _ _ _ B F X N T hk hd hu fun _ _ h' tk' F N l o => by obtain ⟨D, c, e, t1, t2, rfl, rfl, a, b⟩ := o; exact ret h' tk' F D c e t1 t2 a b N l
theorem sp_useN {w : World} {k u : Nat} {f : Addr} {args : List Value} {news : Led} {p : Program} {loose : List Str} {mean : ExcName → Option Value} {mg mb : Str → Option Value} {dp un : Nat} {gd : Option (List Code)} {cn : Str} {cs : Scope} {a : Addr} {ccd : Value} {cl : List (Str × Addr)} {outer : List Env} {A₀ : Around} {base h₀ : Heap} {L : Addr} {m : Str → Option Value} {s : Shared}
    {Q E : Value → Shared → Prop} {x y : Int} {kk : Nat} (C : Sp w k u f args news (fun r tl => ∃ D t1 t2, r = .ref D ∧ tl = [(D, tupO [.int x t1, .int y t2] kk)])) (B : Below A₀ base outer h₀) (F : Fr h₀ L s.heap m) (X : (hd.heap_1 w.params).In h₀) (N : News h₀ L s.heap news) (T : Top p loose mean mg mb h₀) (hk : cs.kind = .function) (hd : dp + k < recursionLimit) (hu : un + u < cLine)
    (ret : ∀ h' tk', Fr h₀ L h' m → ∀ D t1 t2, News h₀ L h' ((D, tupO [.int x t1, .int y t2] kk) :: news) → (∀ q ∈ news, ∀ p ∈ [(D, tupO [.int x t1, .int y t2] kk)], q.1 < p.1) → Q (.ref D) { s with heap := h', toks := tk' }) :
    wpAny (model PW w) (ktrTop dp un gd cn cs L a ccd cl outer) (call (.ref f) args) Q E s := C _ _ _ _ _ _ _ _ _ _ _ _ _ _ _ _ _ _ _ _ _ _ B F X N T hk hd hu fun _ _ h' tk' F N l o => by obtain ⟨D, t1, t2, rfl, rfl⟩ := o; exact ret h' tk' F D t1 t2 N l
theorem sp_useL {w : World} {k u : Nat} {f : Addr} {args : List Value} {news : Led} {p : Program} {loose : List Str} {mean : ExcName → Option Value} {mg mb : Str → Option Value} {dp un : Nat} {gd : Option (List Code)} {cn : Str} {cs : Scope} {a : Addr} {ccd : Value} {cl : List (Str × Addr)} {outer : List Env} {A₀ : Around} {base h₀ : Heap} {L : Addr} {m : Str → Option Value} {s : Shared}
    {Q E : Value → Shared → Prop} {vs : Array Value} (C : Sp w k u f args news (fun r tl => ∃ D k', r = .ref D ∧ tl = [(D, listOf vs k')])) (B : Below A₀ base outer h₀) (F : Fr h₀ L s.heap m) (X : (hd.heap_1 w.params).In h₀) (N : News h₀ L s.heap news) (T : Top p loose mean mg mb h₀) (hk : cs.kind = .function) (hd : dp + k < recursionLimit) (hu : un + u < cLine)
    (ret : ∀ h' tk', Fr h₀ L h' m → ∀ D k', News h₀ L h' ((D, listOf vs k') :: news) → (∀ q ∈ news, ∀ p ∈ [(D, listOf vs k')], q.1 < p.1) → Q (.ref D) { s with heap := h', toks := tk' }) :
    wpAny (model PW w) (ktrTop dp un gd cn cs L a ccd cl outer) (call (.ref f) args) Q E s := C _ _ _ _ _ _ _ _ _ _ _ _ _ _ _ _ _ _ _ _ _ _ B F X N T hk hd hu fun _ _ h' tk' F N l o => by obtain ⟨D, k', rfl, rfl⟩ := o; exact ret h' tk' F D k' N l
theorem roomA {v a b K C : Nat} (h : v + K < C) (l : Nat.ble (a + b) K = true) : v + a + b < C := by
  have := Nat.le_of_ble_eq_true l; omega
theorem roomB {v a K C : Nat} (h : v + K < C) (l : Nat.ble a K = true) : v + a < C := by
  have := Nat.le_of_ble_eq_true l; omega
theorem roomC {v K C : Nat} (h : v + K < C) : v < C := by omega
theorem pickA {a b d : Nat} {P : Prop} (h : b < d ∧ P) (k : b < d ∧ P → a < d) : a < d := k h
theorem dn1 {a b : Nat} (h : a + 1 < b) : a < b := by omega
theorem dn2 {a b : Nat} (h : a + 1 + 1 < b) : a < b := by omega
theorem dn3 {a b : Nat} (h : a + 1 + 1 + 1 < b) : a < b := by omega
theorem dn4 {a b : Nat} (h : a + 1 + 1 + 1 + 1 < b) : a < b := by omega
theorem up1 {a b : Nat} (h : a < b) : a < b + 1 := by omega
theorem up2 {a b : Nat} (h : a < b) : a < b + 1 + 1 := by omega
theorem up3 {a b : Nat} (h : a < b) : a < b + 1 + 1 + 1 := by omega
theorem up4 {a b : Nat} (h : a < b) : a < b + 1 + 1 + 1 + 1 := by omega
theorem upx {a b L : Nat} (h : L + 1 + 1 + 1 + 1 < b) (k : a < L) : a < b := by omega
theorem sl1 {a : Nat} : a < a + 1 := by omega
theorem sl2 {a : Nat} : a < a + 1 + 1 := by omega
theorem sl3 {a : Nat} : a < a + 1 + 1 + 1 := by omega
theorem sl4 {a : Nat} : a < a + 1 + 1 + 1 + 1 := by omega
theorem sub_refl {A : Led} : ∀ p ∈ A, p ∈ A := fun _ h => h
theorem sub_tail {A B : Led} {b : Addr × Obj} (h : ∀ p ∈ A, p ∈ B) : ∀ p ∈ A, p ∈ b :: B := fun p q => .tail _ (h p q)
theorem sub_app {A B C : Led} (h : ∀ p ∈ A, p ∈ B) : ∀ p ∈ A, p ∈ C ++ B := fun p q => List.mem_append_right _ (h p q)
theorem sub_appL {A B C : Led} (h : ∀ p ∈ A, p ∈ C) : ∀ p ∈ A, p ∈ C ++ B := fun p q => List.mem_append_left _ (h p q)
theorem sub_trans {A B C : Led} (h : ∀ p ∈ A, p ∈ B) (k : ∀ p ∈ B, p ∈ C) : ∀ p ∈ A, p ∈ C := fun p q => k p (h p q)
theorem sub_nil {B : Led} : ∀ p ∈ ([] : Led), p ∈ B := fun _ h => nomatch h
theorem sub_cons {A B : Led} {a : Addr × Obj} (k : a ∈ B) (h : ∀ p ∈ A, p ∈ B) : ∀ p ∈ a :: A, p ∈ B := fun p q => by
  cases q with
  | head => exact k
  | tail _ q => exact h p q
theorem sub_both {A B C : Led} (h : ∀ p ∈ A, p ∈ B) (k : ∀ p ∈ C, p ∈ B) : ∀ p ∈ A ++ C, p ∈ B := fun p q => (List.mem_append.mp q).elim (h p) (k p)
theorem in_head {B : Led} {a : Addr × Obj} : a ∈ a :: B := .head _
theorem in_tail {B : Led} {a b : Addr × Obj} (h : a ∈ B) : a ∈ b :: B := .tail _ h
theorem in_app {B C : Led} {a : Addr × Obj} (h : a ∈ B) : a ∈ C ++ B := List.mem_append_right _ h
theorem in_appL {B C : Led} {a : Addr × Obj} (h : a ∈ C) : a ∈ C ++ B := List.mem_append_left _ h
theorem subq {A B : Led} {p : Addr × Obj} (s : ∀ p ∈ A, p ∈ B) (hp : p ∈ A) : p ∈ B := s p hp
theorem fiveE {e : Int} (h1 : -2 ≤ e) (h2 : e ≤ 2) : e = -2 ∨ e = -1 ∨ e = 0 ∨ e = 1 ∨ e = 2 := by omega
theorem units_k {e : Int} (h1 : -2 ≤ e) (h2 : e ≤ 2) : ∃ k : Int, 1 ≤ k ∧ ∀ c, (Num.d c e).units = k * c := by
  rcases fiveE h1 h2 with rfl | rfl | rfl | rfl | rfl
  · exact ⟨1, by decide, fun c => (Int.one_mul c).symm⟩
  · exact ⟨10, by decide, fun c => rfl⟩
  · exact ⟨100, by decide, fun c => rfl⟩
  · exact ⟨1000, by decide, fun c => rfl⟩
  · exact ⟨10000, by decide, fun c => rfl⟩
theorem kmul {k c : Int} (hk : 1 ≤ k) (h : 0 ≤ c) : c ≤ k * c := by
  have := Int.mul_le_mul_of_nonneg_right hk h
  rwa [Int.one_mul] at this
end Mine
end
set_option linter.unusedSimpArgs false
local macro_rules | `(tactic| walk_at $s:str) => `(tactic| k_extra $s)
local macro_rules | `(tactic| k_mem) => `(tactic| k_extra "k_mem")
local macro_rules | `(tactic| kcj_all) => `(tactic| k_extra "kcj_all")
local macro_rules | `(tactic| k_all) => `(tactic| k_extra "k_all")
local macro_rules | `(tactic| k_ne) => `(tactic| (with_reducible (refine PySem.W.neN ?_; (try dsimp only); first | exact Nat.ne_of_gt (by k_extra "lt0") | exact Nat.ne_of_lt (by k_extra "lt0") | exact Nat.ne_of_gt (by k_extra "lt1") | exact Nat.ne_of_lt (by k_extra "lt1"))))
local macro_rules | `(tactic| ktr_room) => `(tactic| (k_dflt ((try dsimp only [PySem.W.depth_under_make, PySem.W.depth_under_kw, PySem.W.depth_in1, PySem.W.depth_deeper, PySem.W.depth_caller, PySem.W.ktrTop]); first | (refine Mine.roomA (by assumption) ?_; exact rfl) | (refine Mine.roomB (by assumption) ?_; exact rfl) | exact Mine.roomC (by assumption) | exact Nat.le_of_ble_eq_true rfl)))
local macro_rules | `(tactic| ktr_units) => `(tactic| (k_dflt ((try dsimp only [PySem.W.units_in1, PySem.W.units_deeper, PySem.W.Around.mark_units, PySem.W.units_caller, PySem.W.ktrTop]); first | (refine Mine.roomA (by assumption) ?_; exact rfl) | (refine Mine.roomB (by assumption) ?_; exact rfl) | exact Mine.roomC (by assumption) | exact Nat.le_of_ble_eq_true rfl)))
local macro_rules | `(tactic| size_fits) => `(tactic| (k_dflt (exact Nat.le_of_ble_eq_true rfl)))
section
open PySem PySem.W PyProof.Rows
set_option maxRecDepth 100000
set_option maxHeartbeats 8000000
set_option linter.unusedVariables false
namespace Mine
example : True := by (k_with_none; trivial)
example : True := by ((k_with "u1" => ((case k1zz => k_asm); (case k2zz => k_asm); (case k3zz => k_asm); (case k4zz => k_asm); (case k5zz => k_asm))); trivial)
example : True := by ((k_with "u2" => ((case kKzz => first | exact rfl | assumption); (case kdzz => ktr_room); (case kuzz => ktr_units))); trivial)
example : True := by ((k_with "u3" => (intro r9zz tl9zz h9zz tk9zz F9zz N9zz l9zz o9zz; (try dsimp only at o9zz))); trivial)
example : True := by ((k_with "u4" => ((try simp only [List.nil_append, List.cons_append] at N9zz); (try dsimp only); (try k_fold))); trivial)
example : True := by ((k_with "suf" => (first | apply sub_refl | assumption | (refine sub_tail ?_; k_extra "suf") | (refine sub_app ?_; k_extra "suf") | apply sub_nil | (refine sub_appL ?_; k_extra "suf"))); trivial)
example : True := by ((k_with "in" => (first | assumption | apply in_head | (refine in_tail ?_; k_extra "in") | (refine in_app ?_; k_extra "in") | (refine in_appL ?_; k_extra "in"))); trivial)
example : True := by ((k_with "sub" => (first | k_extra "suf" | (refine sub_cons ?_ ?_; (focus k_extra "in"); k_extra "sub") | (refine sub_both ?_ ?_; (focus k_extra "sub"); k_extra "sub") | (refine sub_trans ?_ (by assumption); k_extra "suf"))); trivial)
example : True := by ((k_with "lt0" => (first | assumption | (refine Mine.pickA (by assumption) ?_; intro hz9zz; first | apply hz9zz.1 | (replace hz9zz := hz9zz.2; first | apply hz9zz.1 | (replace hz9zz := hz9zz.2; first | apply hz9zz.1 | (replace hz9zz := hz9zz.2; first | apply hz9zz.1 | (replace hz9zz := hz9zz.2; first | apply hz9zz.1 | (replace hz9zz := hz9zz.2; first | apply hz9zz.1 | (replace hz9zz := hz9zz.2; first | apply hz9zz.1 | (replace hz9zz := hz9zz.2; first | apply hz9zz.1 | (replace hz9zz := hz9zz.2; first | apply hz9zz.1 | (replace hz9zz := hz9zz.2; first | apply hz9zz.1 | (replace hz9zz := hz9zz.2; first | apply hz9zz.1 | (replace hz9zz := hz9zz.2; first | apply hz9zz.1 | (replace hz9zz := hz9zz.2; first | apply hz9zz.1 | (replace hz9zz := hz9zz.2; first | apply hz9zz.1 | apply hz9zz.2)))))))))))))))); trivial)
example : True := by ((k_with "lt1" => (first | apply Mine.sl1 | apply Mine.sl2 | apply Mine.sl3 | apply Mine.sl4 | exact Mine.dn1 (by assumption) | exact Mine.dn2 (by assumption) | exact Mine.dn3 (by assumption) | exact Mine.dn4 (by assumption) | exact Mine.upx (by assumption) (by assumption) | exact Mine.up4 (by assumption) | (refine Nat.lt_trans ?_ (by assumption); first | k_extra "lt0" | exact Mine.dn1 (by assumption) | exact Mine.dn2 (by assumption) | exact Mine.dn3 (by assumption) | exact Mine.dn4 (by assumption) | (refine Nat.lt_trans ?_ (by assumption); k_extra "lt0")))); trivial)
example : PySem.Challenge.rw_sm0005_01 = PySem.Challenge.rw_sm0005_01 → hd.heap_1 = hd.heap_1 → True := by
  k_fill; intros; trivial
def FigI (many bound : Int) : Prop := (many = 1 ∧ bound = 10) ∨ (many = 2 ∧ bound = 100) ∨ (many = 3 ∧ bound = 1000) ∨ (many = 4 ∧ bound = 10000) ∨ (many = 5 ∧ bound = 100000) ∨ (many = 6 ∧ bound = 1000000) ∨ (many = 7 ∧ bound = 10000000) ∨ (many = 8 ∧ bound = 100000000) ∨ (many = 9 ∧ bound = 1000000000)
theorem figI0 : FigI 1 10 := .inl ⟨rfl, rfl⟩
theorem figI1 {n m b : Int} (h : FigI m b) (hb : b ≤ n) (hn : n < 1000000000) : FigI (m + 1) (b * 10) := by
  rcases h with ⟨rfl, rfl⟩ | ⟨rfl, rfl⟩ | ⟨rfl, rfl⟩ | ⟨rfl, rfl⟩ | ⟨rfl, rfl⟩ | ⟨rfl, rfl⟩ | ⟨rfl, rfl⟩ | ⟨rfl, rfl⟩ | ⟨rfl, rfl⟩
  all_goals first | (exfalso; omega) | (simp [FigI]; done)
theorem figIe {m b : Int} (h : FigI m b) : 1 ≤ m ∧ m ≤ 9 := by
  rcases h with ⟨rfl, rfl⟩ | ⟨rfl, rfl⟩ | ⟨rfl, rfl⟩ | ⟨rfl, rfl⟩ | ⟨rfl, rfl⟩ | ⟨rfl, rfl⟩ | ⟨rfl, rfl⟩ | ⟨rfl, rfl⟩ | ⟨rfl, rfl⟩ <;> decide
theorem figIm {m b : Int} (h : FigI m b) : (10 - (m + 1)).toNat < (10 - m).toNat := by have := figIe h; omega
theorem sp_figures_of (w : World) (n : Int) (t : Tok) (news : Led) (h1 : n < 1000000000) :
    Sp w 1 16 44 [.int n t] news (fun r tl => (∃ x t, r = .int x t ∧ 1 ≤ x ∧ x ≤ 9) ∧ tl = []) := by
  unfold Sp
  intro p loose mean mg mb dp un gd cn cs a ccd cl outer A₀ base h₀ L m s Q E B F X N T hk hd hu hret
  refine wpAny_call ?_
  k_dflt ktr_enter
  k_with "state" => first | exact figI0 | exact figI1 (by assumption) (by assumption) (by assumption)
  k_with "measure" => exact figIm (by assumption)
  k_with "exec While Compare cons nil" => k_while (fun script many bound => FigI many bound) (fun script many _ => (10 - many).toNat) "many" "bound"
  repeat' (first | (k_unfold; (try dsimp only)) | walk1 | (dsimp only; walk1) | (leave1; try dsimp only))
  all_goals exact hret _ [] _ _ (by k_asm) (cb_drop (by assumption) (by kcj_all)) (by first | ktn_ord | exact ord_sub (by assumption) (by kcj_all)) ⟨⟨_, _, rfl, figIe (by assumption)⟩, rfl⟩
example : True := by ((k_with "call ref" => (k_here; (with_reducible show wpAny _ _ (call (Value.ref 44) _) _ _ _); k_dflt (refine' sp_useF (sp_figures_of _ _ _ _ ?p1zz) ?k1zz ?k2zz ?k3zz ?k4zz ?k5zz ?kKzz ?kdzz ?kuzz ?_); k_extra "u1"; k_extra "u2"; (case p1zz => omega); intro h9zz tk9zz F9zz x9zz t9zz q91zz q92zz N9zz; (try dsimp only); (try k_fold))); trivial)
def rhe (n u : Int) : Int := if u < 2 * n.fmod u ∨ (2 * n.fmod u = u ∧ (n.fdiv u).fmod 2 = 1) then n.fdiv u + 1 else n.fdiv u
theorem rheA {n u : Int} (h : u < 2 * n.fmod u) : n.fdiv u + 1 = rhe n u := by unfold rhe; rw [if_pos (.inl h)]
theorem rheB {n u : Int} (h : 2 * n.fmod u = u) (k : (n.fdiv u).fmod 2 = 1) : n.fdiv u + 1 = rhe n u := by unfold rhe; rw [if_pos (.inr ⟨h, k⟩)]
theorem rheC {n u : Int} (h0 : ¬ u < 2 * n.fmod u) (k : (n.fdiv u).fmod 2 ≠ 1) : n.fdiv u = rhe n u := by unfold rhe; rw [if_neg (fun q => q.elim h0 fun q => k q.2)]
theorem rheD {n u : Int} (h0 : ¬ u < 2 * n.fmod u) (h : 2 * n.fmod u ≠ u) : n.fdiv u = rhe n u := by unfold rhe; rw [if_neg (fun q => q.elim h0 fun q => h q.1)]
theorem sp_rounded_by (w : World) (n p : Int) (t u : Tok) (news : Led) (h0 : 0 ≤ n) (h1 : n ≤ 10000) (hp : p = 1 ∨ p = 2) :
    Sp w 2 24 51 [.int n t, .int p u] news (fun r tl => (∃ t, r = .int (rhe n (10 ^ p.toNat)) t) ∧ tl = []) := by
  rcases hp with rfl | rfl
  all_goals (
    unfold Sp
    intro p loose mean mg mb dp un gd cn cs a ccd cl outer A₀ base h₀ L m s Q E B F X N T hk hd hu hret
    refine wpAny_call ?_
    k_dflt ktr_enter
    repeat' (first | (k_unfold; (try dsimp only)) | walk1 | (dsimp only; walk1) | (leave1; try dsimp only))
    )
  all_goals exact hret _ [] _ _ (by k_asm) (cb_drop (by assumption) (by kcj_all)) (by first | ktn_ord | exact ord_sub (by assumption) (by kcj_all)) ⟨⟨_, congrArg (fun z => Value.int z _) (by first | exact rheA (by assumption) | exact rheB (by assumption) (by assumption) | exact rheC (by assumption) (by assumption) | exact rheD (by assumption) (by assumption))⟩, rfl⟩
def absI (c : Int) : Int := if c < 0 then -c else c
def UEq (c e s x : Int) : Prop := (Num.d s x).units = (Num.d (if c < 0 then -c else c) e).units
theorem units_le {c e : Int} (ok : (Num.d c e).Ok) : -10000 ≤ c ∧ c ≤ 10000 := by
  obtain ⟨h1, h2, h3, h4⟩ := ok
  obtain ⟨k, hk, ek⟩ := units_k h1 h2
  rw [ek] at h3 h4
  rcases Int.le_total 0 c with h | h
  · have := kmul hk h; omega
  · have := kmul (c := -c) hk (by omega)
    rw [Int.mul_neg] at this
    omega
theorem ue_le {c e s x : Int} (ok : (Num.d c e).Ok) (h1 : 1 ≤ s) (h2 : -2 ≤ x) (h3 : x ≤ 2) (h : UEq c e s x) : (Num.d s x).units ≤ 10000 ∧ s ≤ (Num.d s x).units := by
  obtain ⟨k1, k2, k3, k4⟩ := ok
  obtain ⟨k, hk, ek⟩ := units_k k1 k2
  obtain ⟨k', hk', ek'⟩ := units_k h2 h3
  unfold UEq at h
  refine ⟨?_, ?_⟩
  · rw [h, ek]
    rw [ek] at k3 k4
    split
    · rw [Int.mul_neg]; omega
    · exact k4
  · rw [ek']; exact kmul hk' (by omega)
theorem made0 {c e : Int} (ok : (Num.d c e).Ok) (hz : ¬ (if c < 0 then -c else c) = 0) : 1 ≤ (if c < 0 then -c else c) ∧ (if c < 0 then -c else c) ≤ 10000 ∧ -2 ≤ e ∧ e ≤ 2 ∧ UEq c e (if c < 0 then -c else c) e := by
  have := units_le ok
  refine ⟨?_, ?_, ok.1, ok.2.1, rfl⟩ <;> split at hz <;> split <;> omega
theorem made1 {c e s x : Int} (ok : (Num.d c e).Ok) (h : 1 ≤ s ∧ s ≤ 10000 ∧ -2 ≤ x ∧ x ≤ 2 ∧ UEq c e s x) (hm : s.fmod 10 = 0) : 1 ≤ s.fdiv 10 ∧ s.fdiv 10 ≤ 10000 ∧ -2 ≤ x + 1 ∧ x + 1 ≤ 2 ∧ UEq c e (s.fdiv 10) (x + 1) := by
  obtain ⟨h1, h2, h3, h4, h5⟩ := h
  have hl := ue_le ok h1 h3 h4 h5
  rw [Int.fmod_eq_emod_of_nonneg _ (by decide)] at hm
  rw [Int.fdiv_eq_ediv_of_nonneg _ (by decide)]
  have hx : x ≤ 1 := by
    rcases Int.lt_or_le 1 x with q | q
    · have e1 : x = 2 := by omega
      subst e1
      simp [Num.units] at hl
      omega
    · exact q
  refine ⟨by omega, by omega, by omega, by omega, ?_⟩
  unfold UEq at h5 ⊢
  rw [← h5]
  obtain ⟨q, rfl⟩ : ∃ q, s = 10 * q := ⟨s / 10, by omega⟩
  have e2 : 10 * q / 10 = q := Int.mul_ediv_cancel_left q (by decide)
  rw [e2]
  rcases fiveE h3 h4 with rfl | rfl | rfl | rfl | rfl
  · rfl
  · show 100 * q = 10 * (10 * q); omega
  · show 1000 * q = 100 * (10 * q); omega
  · show 10000 * q = 1000 * (10 * q); omega
  · exact absurd hx (by decide)
theorem madeM {s : Int} (h1 : 1 ≤ s) : (s.fdiv 10).toNat < s.toNat := by
  rw [Int.fdiv_eq_ediv_of_nonneg _ (by decide)]; omega
theorem madeZ {c e : Int} (ok : (Num.d c e).Ok) (hz : (if c < 0 then -c else c) = 0) : (Num.d 0 0).Ok ∧ (Num.d 0 0).units = (Num.d c e).units := by
  have : c = 0 := by split at hz <;> omega
  subst this
  refine ⟨by unfold Num.Ok Num.units; decide, ?_⟩
  obtain ⟨k, hk, ek⟩ := units_k ok.1 ok.2.1
  rw [ek, Int.mul_zero]
  rfl
theorem madeN {c e s x : Int} (ok : (Num.d c e).Ok) (h : 1 ≤ s ∧ s ≤ 10000 ∧ -2 ≤ x ∧ x ≤ 2 ∧ UEq c e s x) (hc : c < 0) : (Num.d (-s) x).Ok ∧ (Num.d (-s) x).units = (Num.d c e).units := by
  obtain ⟨h1, h2, h3, h4, h5⟩ := h
  have hl := ue_le ok h1 h3 h4 h5
  unfold UEq at h5
  rw [if_pos hc] at h5
  have n1 : ∀ {a b : Int}, -2 ≤ b → b ≤ 2 → (Num.d (-a) b).units = -(Num.d a b).units := by
    intro a b h h'
    obtain ⟨k, hk, ek⟩ := units_k h h'
    rw [ek, ek, Int.mul_neg]
  refine ⟨⟨h3, h4, ?_, ?_⟩, ?_⟩
  · rw [n1 h3 h4]; omega
  · rw [n1 h3 h4]; omega
  · rw [n1 h3 h4, h5, n1 ok.1 ok.2.1, Int.neg_neg]
theorem madeP {c e s x : Int} (ok : (Num.d c e).Ok) (h : 1 ≤ s ∧ s ≤ 10000 ∧ -2 ≤ x ∧ x ≤ 2 ∧ UEq c e s x) (hc : ¬ c < 0) : (Num.d s x).Ok ∧ (Num.d s x).units = (Num.d c e).units := by
  obtain ⟨h1, h2, h3, h4, h5⟩ := h
  have hl := ue_le ok h1 h3 h4 h5
  unfold UEq at h5
  rw [if_neg hc] at h5
  exact ⟨⟨h3, h4, by omega, by omega⟩, h5⟩
theorem sp_made (w : World) (c e : Int) (t u z : Tok) (news : Led) (ok : (Num.d c e).Ok) :
    Sp w 3 32 58 [.int c t, .int e u, .int 9 z] news (fun r tl => ∃ D c' e' t1 t2, r = .ref D ∧ tl = [(D, tupO [.int c' t1, .int e' t2] 0)] ∧ (Num.d c' e').Ok ∧ (Num.d c' e').units = (Num.d c e).units) := by
  have hc := units_le ok
  have he : -2 ≤ e ∧ e ≤ 2 := ⟨ok.1, ok.2.1⟩
  unfold Sp
  intro p loose mean mg mb dp un gd cn cs a ccd cl outer A₀ base h₀ L m s Q E B F X N T hk hd hu hret
  refine wpAny_call ?_
  k_dflt ktr_enter
  k_with "state" => first | exact made0 (by assumption) (by assumption) | exact made1 (by assumption) ⟨by assumption, by assumption, by assumption, by assumption, by assumption⟩ (by assumption)
  k_with "measure" => exact madeM (by assumption)
  k_with "exec While Compare cons nil" => k_while (fun script size exponent => 1 ≤ size ∧ size ≤ 10000 ∧ -2 ≤ exponent ∧ exponent ≤ 2 ∧ UEq c e size exponent) (fun script size _ => size.toNat) "size" "exponent"
  repeat' (first | (k_unfold; (try dsimp only)) | walk1 | (dsimp only; walk1) | (leave1; try dsimp only))
  all_goals exact hret _ [_] _ _ (by k_asm) (cb_drop (by assumption) (by kcj_all)) (by first | ktn_ord | exact ord_sub (by assumption) (by kcj_all)) ⟨_, _, _, _, _, rfl, rfl, by first | exact madeZ (by assumption) (by assumption) | exact madeN (by assumption) ⟨by assumption, by assumption, by assumption, by assumption, by assumption⟩ (by assumption) | exact madeP (by assumption) ⟨by assumption, by assumption, by assumption, by assumption, by assumption⟩ (by assumption)⟩
end Mine
end
section
open PySem PySem.W PyProof.Rows
set_option maxRecDepth 100000
set_option maxHeartbeats 8000000
set_option linter.unusedVariables false
namespace Mine
example : True := by (k_with_none; trivial)
example : True := by ((k_with "u1" => ((case k1zz => k_asm); (case k2zz => k_asm); (case k3zz => k_asm); (case k4zz => k_asm); (case k5zz => k_asm))); trivial)
example : True := by ((k_with "u2" => ((case kKzz => first | exact rfl | assumption); (case kdzz => ktr_room); (case kuzz => ktr_units))); trivial)
example : True := by ((k_with "u3" => (intro r9zz tl9zz h9zz tk9zz F9zz N9zz l9zz o9zz; (try dsimp only at o9zz))); trivial)
example : True := by ((k_with "u4" => ((try simp only [List.nil_append, List.cons_append] at N9zz); (try dsimp only); (try k_fold))); trivial)
example : True := by ((k_with "suf" => (first | apply sub_refl | assumption | (refine sub_tail ?_; k_extra "suf") | (refine sub_app ?_; k_extra "suf") | apply sub_nil | (refine sub_appL ?_; k_extra "suf"))); trivial)
example : True := by ((k_with "in" => (first | assumption | apply in_head | (refine in_tail ?_; k_extra "in") | (refine in_app ?_; k_extra "in") | (refine in_appL ?_; k_extra "in"))); trivial)
example : True := by ((k_with "sub" => (first | k_extra "suf" | (refine sub_cons ?_ ?_; (focus k_extra "in"); k_extra "sub") | (refine sub_both ?_ ?_; (focus k_extra "sub"); k_extra "sub") | (refine sub_trans ?_ (by assumption); k_extra "suf"))); trivial)
example : True := by ((k_with "lt0" => (first | assumption | (refine Mine.pickA (by assumption) ?_; intro hz9zz; first | apply hz9zz.1 | (replace hz9zz := hz9zz.2; first | apply hz9zz.1 | (replace hz9zz := hz9zz.2; first | apply hz9zz.1 | (replace hz9zz := hz9zz.2; first | apply hz9zz.1 | (replace hz9zz := hz9zz.2; first | apply hz9zz.1 | (replace hz9zz := hz9zz.2; first | apply hz9zz.1 | (replace hz9zz := hz9zz.2; first | apply hz9zz.1 | (replace hz9zz := hz9zz.2; first | apply hz9zz.1 | (replace hz9zz := hz9zz.2; first | apply hz9zz.1 | (replace hz9zz := hz9zz.2; first | apply hz9zz.1 | (replace hz9zz := hz9zz.2; first | apply hz9zz.1 | (replace hz9zz := hz9zz.2; first | apply hz9zz.1 | (replace hz9zz := hz9zz.2; first | apply hz9zz.1 | (replace hz9zz := hz9zz.2; first | apply hz9zz.1 | apply hz9zz.2)))))))))))))))); trivial)
example : True := by ((k_with "lt1" => (first | apply Mine.sl1 | apply Mine.sl2 | apply Mine.sl3 | apply Mine.sl4 | exact Mine.dn1 (by assumption) | exact Mine.dn2 (by assumption) | exact Mine.dn3 (by assumption) | exact Mine.dn4 (by assumption) | exact Mine.upx (by assumption) (by assumption) | exact Mine.up4 (by assumption) | (refine Nat.lt_trans ?_ (by assumption); first | k_extra "lt0" | exact Mine.dn1 (by assumption) | exact Mine.dn2 (by assumption) | exact Mine.dn3 (by assumption) | exact Mine.dn4 (by assumption) | (refine Nat.lt_trans ?_ (by assumption); k_extra "lt0")))); trivial)
example : True := by ((k_with "LeaveK" => (k_dflt (refine' leaveK_ ?k1zz ?k2zz ?_; (case k1zz => k_asm); (case k2zz => k_asm); k_whole); intro kFzz kNzz; (try dsimp only))); trivial)
example : True := by ((k_with "k_mem" => (first | assumption | (refine' List.mem_append_right _ ?_; k_mem) | (refine' List.mem_append_left _ ?_; k_mem))); trivial)
example : True := by ((k_with "kcj_all" => (k_whole; first | (refine fun pzz hpzz => List.mem_append_right _ ?_; assumption) | (intro pzz hpzz; (simp only [List.mem_append, List.mem_cons, List.not_mem_nil, or_false, false_or] at hpzz ⊢); first | assumption | (simp only [hpzz, true_or, or_true]; done) | grind))); trivial)
example : True := by ((k_with "kcj_all" => (k_whole; with_reducible k_extra "sub")); trivial)
example : True := by ((k_with "call ref" => (k_here; (with_reducible show wpAny _ _ (call (Value.ref 44) _) _ _ _); k_dflt (refine' sp_useF (sp_figures_of _ _ _ _ ?p1zz) ?k1zz ?k2zz ?k3zz ?k4zz ?k5zz ?kKzz ?kdzz ?kuzz ?_); k_extra "u1"; k_extra "u2"; (case p1zz => omega); intro h9zz tk9zz F9zz x9zz t9zz q91zz q92zz N9zz; (try dsimp only); (try k_fold))); trivial)
example : True := by ((k_with "call ref" => (k_here; (with_reducible show wpAny _ _ (call (Value.ref 51) _) _ _ _); k_dflt (refine' sp_useI (sp_rounded_by _ _ _ _ _ _ ?p1zz ?p2zz ?p3zz) ?k1zz ?k2zz ?k3zz ?k4zz ?k5zz ?kKzz ?kdzz ?kuzz ?_); k_extra "u1"; k_extra "u2"; (case p1zz => omega); (case p2zz => omega); (case p3zz => omega); intro h9zz tk9zz F9zz t9zz N9zz; (try dsimp only); (try k_fold))); trivial)
example : True := by ((k_with "call ref" => (k_here; (with_reducible show wpAny _ _ (call (Value.ref 58) _) _ _ _); k_dflt (refine' sp_useD (sp_made _ _ _ _ _ _ _ ?p1zz) ?k1zz ?k2zz ?k3zz ?k4zz ?k5zz ?kKzz ?kdzz ?kuzz ?_); k_extra "u1"; k_extra "u2"; (case p1zz => first | assumption | k_extra "made"); intro h9zz tk9zz F9zz D9zz c9zz e9zz t9zz u9zz q91zz q92zz N9zz l9zz; (try dsimp only); (try k_fold))); trivial)
example : True := by ((k_with "newTuple" => (k_here; k_dflt (refine' kup_newTuple ?Fzz ?Nzz ?_ ?zzz; (case Fzz => k_asm); (case Nzz => k_asm); (case zzz => kmk_size)); intro D'zz h'zz F'zz N'zz l1zz; (try k_lt l1zz); (try k_sweep))); trivial)
example : True := by ((k_with "binaryOp Pow int int" => ((with_reducible refine pow_int_small ?kb1zz ?kb2zz ?kb3zz ?_); (case kb1zz => omega); (case kb2zz => omega); (case kb3zz => decide))); trivial)
example : True := by ((k_with "subscriptTail" => (k_here; (with_reducible show wpAny _ _ (subscriptTail _ _ (Value.ref _) (Value.int _ _)) _ _ _); (with_unfolding_all refine' item_litK ?k1zz ?k2zz ?k3zz ?k4zz ?_ ?k6zz; (case k1zz => exact isListOf (by k_asm) (by k_mem)); (case k2zz => first | decide | omega); (case k3zz => first | decide | omega); (case k4zz => first | rfl | assumption); (case k6zz => with_unfolding_all rfl); k_whole))); trivial)
example : True := by ((k_with "subscriptTail Name Name ref int" => (k_here; (with_reducible show wpAny _ _ (subscriptTail _ _ (Value.ref _) (Value.int _ _)) _ _ _); (with_unfolding_all refine' item_litK ?k1zz ?k2zz ?k3zz ?k4zz ?_ ?k6zz; (case k1zz => exact isListOf (by k_asm) (by k_mem)); (case k2zz => first | decide | omega); (case k3zz => first | decide | omega); (case k4zz => first | rfl | assumption); (case k6zz => with_unfolding_all rfl); k_whole))); trivial)
example : True := by ((k_with "subscriptTail Name Constant ref int" => (k_here; (with_reducible show wpAny _ _ (subscriptTail _ _ (Value.ref _) (Value.int _ _)) _ _ _); (with_unfolding_all refine' item_litK ?k1zz ?k2zz ?k3zz ?k4zz ?_ ?k6zz; (case k1zz => exact isListOf (by k_asm) (by k_mem)); (case k2zz => first | decide | omega); (case k3zz => first | decide | omega); (case k4zz => first | rfl | assumption); (case k6zz => with_unfolding_all rfl); k_whole))); trivial)
theorem fitsT {n : Int} (h1 : -32768 ≤ n) (h2 : n < 32768) : decide (n < 1 * 2 ^ ((16 : Int) - 1).toNat) = true := decide_eq_true (show n < 32768 from h2)
theorem fitsF {n : Int} {P : Prop} (h1 : -32768 ≤ n) (h2 : ¬ -(1 * 2 ^ ((16 : Int) - 1).toNat) ≤ n) : P := absurd (show -32768 ≤ n from h1) h2
theorem sp_fits (w : World) (n : Int) (t tb : Tok) (news : Led) (h1 : -32768 ≤ n) (h2 : n < 32768) :
    Sp w 1 16 72 [.int n t, .int 16 tb] news (fun r tl => r = .bool true ∧ tl = []) := by
  unfold Sp
  intro p loose mean mg mb dp un gd cn cs a ccd cl outer A₀ base h₀ L m s Q E B F X N T hk hd hu hret
  refine wpAny_call ?_
  k_dflt ktr_enter
  repeat' (first | (k_unfold; (try dsimp only)) | walk1 | (dsimp only; walk1) | (leave1; try dsimp only))
  all_goals first | exact fitsF (by assumption) (by assumption) | skip
  all_goals exact hret _ [] _ _ (by k_asm) (cb_drop (by assumption) (by kcj_all)) (by first | ktn_ord | exact ord_sub (by assumption) (by kcj_all)) ⟨congrArg Value.bool (fitsT (by assumption) (by assumption)), rfl⟩
example : True := by ((k_with "call ref" => (k_here; (with_reducible show wpAny _ _ (call (Value.ref 72) _) _ _ _); k_dflt (refine' sp_useV (sp_fits _ _ _ _ _ ?p1zz ?p2zz) ?k1zz ?k2zz ?k3zz ?k4zz ?k5zz ?kKzz ?kdzz ?kuzz ?_); k_extra "u1"; k_extra "u2"; (case p1zz => omega); (case p2zz => omega); intro h9zz tk9zz F9zz N9zz; (try dsimp only); (try k_fold))); trivial)
def Rn (u : Int) : Int := if u < 0 then -rhe (-u) 100 else rhe u 100
theorem rhe_at {u : Int} (h : 0 ≤ u) : rhe u 100 = if 100 < 2 * (u % 100) ∨ (2 * (u % 100) = 100 ∧ u / 100 % 2 = 1) then u / 100 + 1 else u / 100 := by
  unfold rhe
  have e : (u / 100).fmod 2 = u / 100 % 2 := Int.fmod_eq_emod_of_nonneg _ (by decide)
  rw [Int.fmod_eq_emod_of_nonneg _ (show (0:Int) ≤ 100 by decide), Int.fdiv_eq_ediv_of_nonneg _ (show (0:Int) ≤ 100 by decide), e]
theorem rhe_bd {u : Int} (h : 0 ≤ u) : 2 * u - 100 ≤ 200 * rhe u 100 ∧ 200 * rhe u 100 ≤ 2 * u + 100 := by
  rw [rhe_at h]; split
  · have : 100 ≤ 2 * (u % 100) := by omega
    omega
  · have : 2 * (u % 100) ≤ 100 := by omega
    omega
theorem Rn_bd (u : Int) : 2 * u - 100 ≤ 200 * Rn u ∧ 200 * Rn u ≤ 2 * u + 100 := by
  unfold Rn
  split
  · have := rhe_bd (u := -u) (by omega); omega
  · exact rhe_bd (by omega)
theorem rhe_scale {k : Int} (h : 0 ≤ k) : rhe (10 * k) 100 = rhe k 10 := by
  unfold rhe
  simp only [Int.fmod_eq_emod_of_nonneg _ (show (0:Int) ≤ 100 by decide), Int.fmod_eq_emod_of_nonneg _ (show (0:Int) ≤ 10 by decide), Int.fmod_eq_emod_of_nonneg _ (show (0:Int) ≤ 2 by decide), Int.fdiv_eq_ediv_of_nonneg _ (show (0:Int) ≤ 100 by decide), Int.fdiv_eq_ediv_of_nonneg _ (show (0:Int) ≤ 10 by decide)]
  have e1 : 10 * k / 100 = k / 10 := by omega
  have e2 : 10 * k % 100 = 10 * (k % 10) := by omega
  rw [e1, e2]
  have c1 : (100 < 2 * (10 * (k % 10))) = (10 < 2 * (k % 10)) := propext ⟨fun h => by omega, fun h => by omega⟩
  have c2 : (2 * (10 * (k % 10)) = 100) = (2 * (k % 10) = 10) := propext ⟨fun h => by omega, fun h => by omega⟩
  simp only [c1, c2]
theorem rhe_whole {k : Int} (h : 0 ≤ k) : rhe (100 * k) 100 = k := by
  unfold rhe
  simp only [Int.fmod_eq_emod_of_nonneg _ (show (0:Int) ≤ 100 by decide), Int.fmod_eq_emod_of_nonneg _ (show (0:Int) ≤ 2 by decide), Int.fdiv_eq_ediv_of_nonneg _ (show (0:Int) ≤ 100 by decide)]
  have e1 : 100 * k / 100 = k := by omega
  have e2 : 100 * k % 100 = 0 := by omega
  rw [e1, e2]
  (repeat' split) <;> omega
theorem Rn_whole {k : Int} : Rn (100 * k) = k := by
  unfold Rn
  split
  · rw [show -(100 * k) = 100 * (-k) by omega, rhe_whole (by omega)]; omega
  · exact rhe_whole (by omega)
theorem wnA {c e : Int} (ok : (Num.d c e).Ok) (he : 0 ≤ e) : c * 10 ^ e.toNat = Rn (Num.d c e).units := by
  have h2 := ok.2.1
  have hx : e = 0 ∨ e = 1 ∨ e = 2 := by omega
  rcases hx with rfl | rfl | rfl
  · have : (Num.d c 0).units = 100 * c := by simp [Num.units]
    rw [this, Rn_whole]; simp
  · have : (Num.d c 1).units = 100 * (10 * c) := by simp [Num.units]; omega
    rw [this, Rn_whole]; show c * 10 = _; omega
  · have : (Num.d c 2).units = 100 * (100 * c) := by simp [Num.units]; omega
    rw [this, Rn_whole]; show c * 100 = _; omega
theorem wnB {c e : Int} (ok : (Num.d c e).Ok) (he : ¬ 0 ≤ e) (hc : c < 0) : -rhe (if c < 0 then -c else c) (10 ^ (-e).toNat) = Rn (Num.d c e).units := by
  have h2 := ok.1
  have hx : e = -1 ∨ e = -2 := by omega
  rw [if_pos hc]
  rcases hx with rfl | rfl
  · have : (Num.d c (-1)).units = 10 * c := by simp [Num.units]
    rw [this]; unfold Rn; rw [if_pos (by omega), show -(10 * c) = 10 * (-c) by omega, rhe_scale (by omega)]; rfl
  · have : (Num.d c (-2)).units = c := by simp [Num.units]
    rw [this]; unfold Rn; rw [if_pos hc]; rfl
theorem wnC {c e : Int} (ok : (Num.d c e).Ok) (he : ¬ 0 ≤ e) (hc : ¬ c < 0) : rhe (if c < 0 then -c else c) (10 ^ (-e).toNat) = Rn (Num.d c e).units := by
  have h2 := ok.1
  have hx : e = -1 ∨ e = -2 := by omega
  rw [if_neg hc]
  rcases hx with rfl | rfl
  · have : (Num.d c (-1)).units = 10 * c := by simp [Num.units]
    rw [this]; unfold Rn; rw [if_neg (by omega), rhe_scale (by omega)]; rfl
  · have : (Num.d c (-2)).units = c := by simp [Num.units]
    rw [this]; unfold Rn; rw [if_neg hc]; rfl
theorem sp_whole_near (w : World) (a : Addr) (c e : Int) (t u : Tok) (k : Nat) (news : Led) (ok : (Num.d c e).Ok) (hm : (a, tupO [.int c t, .int e u] k) ∈ news) :
    Sp w 3 32 65 [.ref a] news (fun r tl => (∃ t, r = .int (Rn (Num.d c e).units) t) ∧ tl = []) := by
  have hc := units_le ok
  have he : -2 ≤ e ∧ e ≤ 2 := ⟨ok.1, ok.2.1⟩
  unfold Sp
  intro p loose mean mg mb dp un gd cn cs a ccd cl outer A₀ base h₀ L m s Q E B F X N T hk hd hu hret
  refine wpAny_call ?_
  k_dflt ktr_enter
  repeat' (first | (k_unfold; (try dsimp only)) | walk1 | (dsimp only; walk1) | (leave1; try dsimp only))
  all_goals exact hret _ [] _ _ (by k_asm) (cb_drop (by assumption) (by kcj_all)) (by first | ktn_ord | exact ord_sub (by assumption) (by kcj_all)) ⟨⟨_, congrArg (fun z => Value.int z _) (by first | exact wnA (by assumption) (by assumption) | exact wnB (by assumption) (by assumption) (by assumption) | exact wnC (by assumption) (by assumption) (by assumption))⟩, rfl⟩
example : True := by ((k_with "call ref" => (k_here; (with_reducible show wpAny _ _ (call (Value.ref 65) _) _ _ _); k_dflt (refine' sp_useI (sp_whole_near _ _ _ _ _ _ _ _ ?p1zz ?p2zz) ?k1zz ?k2zz ?k3zz ?k4zz ?k5zz ?kKzz ?kdzz ?kuzz ?_); k_extra "u1"; k_extra "u2"; (case p2zz => k_mem); (case p1zz => assumption); intro h9zz tk9zz F9zz t9zz N9zz; (try dsimp only); (try k_fold))); trivial)
end Mine
end
section
open PySem PySem.W PyProof.Rows
set_option maxRecDepth 100000
set_option maxHeartbeats 8000000
set_option linter.unusedVariables false
namespace Mine
example : True := by (k_with_none; trivial)
example : True := by ((k_with "u1" => ((case k1zz => k_asm); (case k2zz => k_asm); (case k3zz => k_asm); (case k4zz => k_asm); (case k5zz => k_asm))); trivial)
example : True := by ((k_with "u2" => ((case kKzz => first | exact rfl | assumption); (case kdzz => ktr_room); (case kuzz => ktr_units))); trivial)
example : True := by ((k_with "u3" => (intro r9zz tl9zz h9zz tk9zz F9zz N9zz l9zz o9zz; (try dsimp only at o9zz))); trivial)
example : True := by ((k_with "u4" => ((try simp only [List.nil_append, List.cons_append] at N9zz); (try dsimp only); (try k_fold))); trivial)
example : True := by ((k_with "suf" => (first | apply sub_refl | assumption | (refine sub_tail ?_; k_extra "suf") | (refine sub_app ?_; k_extra "suf") | apply sub_nil | (refine sub_appL ?_; k_extra "suf"))); trivial)
example : True := by ((k_with "in" => (first | assumption | apply in_head | (refine in_tail ?_; k_extra "in") | (refine in_app ?_; k_extra "in") | (refine in_appL ?_; k_extra "in"))); trivial)
example : True := by ((k_with "sub" => (first | k_extra "suf" | (refine sub_cons ?_ ?_; (focus k_extra "in"); k_extra "sub") | (refine sub_both ?_ ?_; (focus k_extra "sub"); k_extra "sub") | (refine sub_trans ?_ (by assumption); k_extra "suf"))); trivial)
example : True := by ((k_with "lt0" => (first | assumption | (refine Mine.pickA (by assumption) ?_; intro hz9zz; first | apply hz9zz.1 | (replace hz9zz := hz9zz.2; first | apply hz9zz.1 | (replace hz9zz := hz9zz.2; first | apply hz9zz.1 | (replace hz9zz := hz9zz.2; first | apply hz9zz.1 | (replace hz9zz := hz9zz.2; first | apply hz9zz.1 | (replace hz9zz := hz9zz.2; first | apply hz9zz.1 | (replace hz9zz := hz9zz.2; first | apply hz9zz.1 | (replace hz9zz := hz9zz.2; first | apply hz9zz.1 | (replace hz9zz := hz9zz.2; first | apply hz9zz.1 | (replace hz9zz := hz9zz.2; first | apply hz9zz.1 | (replace hz9zz := hz9zz.2; first | apply hz9zz.1 | (replace hz9zz := hz9zz.2; first | apply hz9zz.1 | (replace hz9zz := hz9zz.2; first | apply hz9zz.1 | (replace hz9zz := hz9zz.2; first | apply hz9zz.1 | apply hz9zz.2)))))))))))))))); trivial)
example : True := by ((k_with "lt1" => (first | apply Mine.sl1 | apply Mine.sl2 | apply Mine.sl3 | apply Mine.sl4 | exact Mine.dn1 (by assumption) | exact Mine.dn2 (by assumption) | exact Mine.dn3 (by assumption) | exact Mine.dn4 (by assumption) | exact Mine.upx (by assumption) (by assumption) | exact Mine.up4 (by assumption) | (refine Nat.lt_trans ?_ (by assumption); first | k_extra "lt0" | exact Mine.dn1 (by assumption) | exact Mine.dn2 (by assumption) | exact Mine.dn3 (by assumption) | exact Mine.dn4 (by assumption) | (refine Nat.lt_trans ?_ (by assumption); k_extra "lt0")))); trivial)
example : True := by ((k_with "LeaveK" => (k_dflt (refine' leaveK_ ?k1zz ?k2zz ?_; (case k1zz => k_asm); (case k2zz => k_asm); k_whole); intro kFzz kNzz; (try dsimp only))); trivial)
example : True := by ((k_with "k_mem" => (first | assumption | (refine' List.mem_append_right _ ?_; k_mem) | (refine' List.mem_append_left _ ?_; k_mem))); trivial)
example : True := by ((k_with "kcj_all" => (k_whole; first | (refine fun pzz hpzz => List.mem_append_right _ ?_; assumption) | (intro pzz hpzz; (simp only [List.mem_append, List.mem_cons, List.not_mem_nil, or_false, false_or] at hpzz ⊢); first | assumption | (simp only [hpzz, true_or, or_true]; done) | grind))); trivial)
example : True := by ((k_with "kcj_all" => (k_whole; with_reducible k_extra "sub")); trivial)
example : True := by ((k_with "call ref" => (k_here; (with_reducible show wpAny _ _ (call (Value.ref 44) _) _ _ _); k_dflt (refine' sp_useF (sp_figures_of _ _ _ _ ?p1zz) ?k1zz ?k2zz ?k3zz ?k4zz ?k5zz ?kKzz ?kdzz ?kuzz ?_); k_extra "u1"; k_extra "u2"; (case p1zz => omega); intro h9zz tk9zz F9zz x9zz t9zz q91zz q92zz N9zz; (try dsimp only); (try k_fold))); trivial)
example : True := by ((k_with "call ref" => (k_here; (with_reducible show wpAny _ _ (call (Value.ref 51) _) _ _ _); k_dflt (refine' sp_useI (sp_rounded_by _ _ _ _ _ _ ?p1zz ?p2zz ?p3zz) ?k1zz ?k2zz ?k3zz ?k4zz ?k5zz ?kKzz ?kdzz ?kuzz ?_); k_extra "u1"; k_extra "u2"; (case p1zz => omega); (case p2zz => omega); (case p3zz => omega); intro h9zz tk9zz F9zz t9zz N9zz; (try dsimp only); (try k_fold))); trivial)
example : True := by ((k_with "call ref" => (k_here; (with_reducible show wpAny _ _ (call (Value.ref 58) _) _ _ _); k_dflt (refine' sp_useD (sp_made _ _ _ _ _ _ _ ?p1zz) ?k1zz ?k2zz ?k3zz ?k4zz ?k5zz ?kKzz ?kdzz ?kuzz ?_); k_extra "u1"; k_extra "u2"; (case p1zz => first | assumption | k_extra "made"); intro h9zz tk9zz F9zz D9zz c9zz e9zz t9zz u9zz q91zz q92zz N9zz l9zz; (try dsimp only); (try k_fold))); trivial)
example : True := by ((k_with "newTuple" => (k_here; k_dflt (refine' kup_newTuple ?Fzz ?Nzz ?_ ?zzz; (case Fzz => k_asm); (case Nzz => k_asm); (case zzz => kmk_size)); intro D'zz h'zz F'zz N'zz l1zz; (try k_lt l1zz); (try k_sweep))); trivial)
example : True := by ((k_with "binaryOp Pow int int" => ((with_reducible refine pow_int_small ?kb1zz ?kb2zz ?kb3zz ?_); (case kb1zz => omega); (case kb2zz => omega); (case kb3zz => decide))); trivial)
example : True := by ((k_with "subscriptTail" => (k_here; (with_reducible show wpAny _ _ (subscriptTail _ _ (Value.ref _) (Value.int _ _)) _ _ _); (with_unfolding_all refine' item_litK ?k1zz ?k2zz ?k3zz ?k4zz ?_ ?k6zz; (case k1zz => exact isListOf (by k_asm) (by k_mem)); (case k2zz => first | decide | omega); (case k3zz => first | decide | omega); (case k4zz => first | rfl | assumption); (case k6zz => with_unfolding_all rfl); k_whole))); trivial)
example : True := by ((k_with "subscriptTail Name Name ref int" => (k_here; (with_reducible show wpAny _ _ (subscriptTail _ _ (Value.ref _) (Value.int _ _)) _ _ _); (with_unfolding_all refine' item_litK ?k1zz ?k2zz ?k3zz ?k4zz ?_ ?k6zz; (case k1zz => exact isListOf (by k_asm) (by k_mem)); (case k2zz => first | decide | omega); (case k3zz => first | decide | omega); (case k4zz => first | rfl | assumption); (case k6zz => with_unfolding_all rfl); k_whole))); trivial)
example : True := by ((k_with "subscriptTail Name Constant ref int" => (k_here; (with_reducible show wpAny _ _ (subscriptTail _ _ (Value.ref _) (Value.int _ _)) _ _ _); (with_unfolding_all refine' item_litK ?k1zz ?k2zz ?k3zz ?k4zz ?_ ?k6zz; (case k1zz => exact isListOf (by k_asm) (by k_mem)); (case k2zz => first | decide | omega); (case k3zz => first | decide | omega); (case k4zz => first | rfl | assumption); (case k6zz => with_unfolding_all rfl); k_whole))); trivial)
example : True := by ((k_with "call ref" => (k_here; (with_reducible show wpAny _ _ (call (Value.ref 72) _) _ _ _); k_dflt (refine' sp_useV (sp_fits _ _ _ _ _ ?p1zz ?p2zz) ?k1zz ?k2zz ?k3zz ?k4zz ?k5zz ?kKzz ?kdzz ?kuzz ?_); k_extra "u1"; k_extra "u2"; (case p1zz => omega); (case p2zz => omega); intro h9zz tk9zz F9zz N9zz; (try dsimp only); (try k_fold))); trivial)
example : True := by ((k_with "call ref" => (k_here; (with_reducible show wpAny _ _ (call (Value.ref 65) _) _ _ _); k_dflt (refine' sp_useI (sp_whole_near _ _ _ _ _ _ _ _ ?p1zz ?p2zz) ?k1zz ?k2zz ?k3zz ?k4zz ?k5zz ?kKzz ?kdzz ?kuzz ?_); k_extra "u1"; k_extra "u2"; (case p2zz => k_mem); (case p1zz => assumption); intro h9zz tk9zz F9zz t9zz N9zz; (try dsimp only); (try k_fold))); trivial)
theorem Num.lo {n : Int} (ok : (Num.i n).Ok) : -100 ≤ n ∧ n ≤ 100 := ok
theorem rhe_le {k : Int} (h0 : 0 ≤ k) (h : k ≤ 10000) : 0 ≤ rhe k 100 ∧ rhe k 100 ≤ 100 := by
  have := rhe_bd h0; omega
theorem Num.u_le {N : Num} (ok : N.Ok) : -10000 ≤ N.units ∧ N.units ≤ 10000 := by
  cases N with
  | i n => have := Num.lo ok; show -10000 ≤ 100 * n ∧ 100 * n ≤ 10000; omega
  | d c e => exact ⟨ok.2.2.1, ok.2.2.2⟩
theorem Rn_le {N : Num} (ok : N.Ok) : -100 ≤ Rn N.units ∧ Rn N.units ≤ 100 := by
  have hu := Num.u_le ok
  unfold Rn
  split
  · have := rhe_le (k := -N.units) (by omega) (by omega); omega
  · have := rhe_le (k := N.units) (by omega) (by omega); omega
theorem sp_whole_of (w : World) (v : Value) (N : Num) (tb : Tok) (news : Led) (ok : N.Ok) (hv : NumIn news v N) :
    Sp w 4 40 79 [v, .int 16 tb] news (fun r tl => (∃ t, r = .int (Rn N.units) t) ∧ tl = []) := by
  cases N with
  | i n =>
    obtain ⟨t, rfl⟩ := hv.invI
    have hn := Num.lo ok
    unfold Sp
    intro p loose mean mg mb dp un gd cn cs a ccd cl outer A₀ base h₀ L m s Q E B F X N T hk hd hu hret
    refine wpAny_call ?_
    k_dflt ktr_enter
    repeat' (first | (k_unfold; (try dsimp only)) | walk1 | (dsimp only; walk1) | (leave1; try dsimp only))
    all_goals exact hret _ [] _ _ (by k_asm) (cb_drop (by assumption) (by kcj_all)) (by first | ktn_ord | exact ord_sub (by assumption) (by kcj_all)) ⟨⟨_, congrArg (fun z => Value.int z _) Rn_whole.symm⟩, rfl⟩
  | d c e =>
    obtain ⟨a, t1, t2, k, rfl, hm⟩ := hv.invD
    have hb := Rn_le (N := .d c e) ok
    unfold Sp
    intro p loose mean mg mb dp un gd cn cs a ccd cl outer A₀ base h₀ L m s Q E B F X N T hk hd hu hret
    refine wpAny_call ?_
    k_dflt ktr_enter
    repeat' (first | (k_unfold; (try dsimp only)) | walk1 | (dsimp only; walk1) | (leave1; try dsimp only))
    all_goals exact hret _ [] _ _ (by k_asm) (cb_drop (by assumption) (by kcj_all)) (by first | ktn_ord | exact ord_sub (by assumption) (by kcj_all)) ⟨⟨_, rfl⟩, rfl⟩
def sgn (n : Int) : Int := b2i (decide (0 < n)) - b2i (decide (n < 0))
def icmp (a b : Int) : Int := b2i (decide (b < a)) - b2i (decide (a < b))
theorem b2iC {P Q : Prop} [Decidable P] [Decidable Q] (h : P ↔ Q) : b2i (decide P) = b2i (decide Q) := by
  by_cases hp : P
  · rw [decide_eq_true hp, decide_eq_true (h.mp hp)]
  · rw [decide_eq_false hp, decide_eq_false (fun q => hp (h.mpr q))]
theorem sgnI {n : Int} : b2i (decide (0 < n)) - b2i (decide (n < 0)) = sgn (Num.i n).units := by
  unfold sgn
  have e : (Num.i n).units = 100 * n := rfl
  rw [e, b2iC (show 0 < n ↔ 0 < 100 * n by omega), b2iC (show n < 0 ↔ 100 * n < 0 by omega)]
theorem unitsPos {c e : Int} : (0 < c ↔ 0 < (Num.d c e).units) ∧ (c < 0 ↔ (Num.d c e).units < 0) := by
  simp only [Num.units]
  (repeat' split) <;> constructor <;> constructor <;> intro h <;> omega
theorem sgnD {c e : Int} : b2i (decide (0 < c)) - b2i (decide (c < 0)) = sgn (Num.d c e).units := by
  unfold sgn
  rw [b2iC (unitsPos (c := c) (e := e)).1, b2iC (unitsPos (c := c) (e := e)).2]
theorem sp_sign_of (w : World) (v : Value) (N : Num) (news : Led) (hv : NumIn news v N) :
    Sp w 1 16 93 [v] news (fun r tl => (∃ t, r = .int (sgn N.units) t) ∧ tl = []) := by
  cases N with
  | i n =>
    obtain ⟨t, rfl⟩ := hv.invI
    unfold Sp
    intro p loose mean mg mb dp un gd cn cs a ccd cl outer A₀ base h₀ L m s Q E B F X N T hk hd hu hret
    refine wpAny_call ?_
    k_dflt ktr_enter
    repeat' (first | (k_unfold; (try dsimp only)) | walk1 | (dsimp only; walk1) | (leave1; try dsimp only))
    all_goals exact hret _ [] _ _ (by k_asm) (cb_drop (by assumption) (by kcj_all)) (by first | ktn_ord | exact ord_sub (by assumption) (by kcj_all)) ⟨⟨_, congrArg (fun z => Value.int z _) sgnI⟩, rfl⟩
  | d c e =>
    obtain ⟨a, t1, t2, k, rfl, hm⟩ := hv.invD
    unfold Sp
    intro p loose mean mg mb dp un gd cn cs a ccd cl outer A₀ base h₀ L m s Q E B F X N T hk hd hu hret
    refine wpAny_call ?_
    k_dflt ktr_enter
    repeat' (first | (k_unfold; (try dsimp only)) | walk1 | (dsimp only; walk1) | (leave1; try dsimp only))
    all_goals exact hret _ [] _ _ (by k_asm) (cb_drop (by assumption) (by kcj_all)) (by first | ktn_ord | exact ord_sub (by assumption) (by kcj_all)) ⟨⟨_, congrArg (fun z => Value.int z _) sgnD⟩, rfl⟩
theorem okI {n : Int} (ok : (Num.i n).Ok) : (Num.d n 0).Ok := by
  have := Num.lo ok
  have e : (Num.d n 0).units = 100 * n := by simp [Num.units]
  exact ⟨by decide, by decide, by rw [e]; omega, by rw [e]; omega⟩
theorem unitsI {n : Int} : (Num.d n 0).units = (Num.i n).units := by simp [Num.units]
theorem sp_decimal_of (w : World) (v : Value) (N : Num) (tb : Tok) (news : Led) (ok : N.Ok) (hv : NumIn news v N) :
    Sp w 4 40 86 [v, .int 9 tb] news (fun r tl => ∃ D c' e' t1 t2, r = .ref D ∧ tl = [(D, tupO [.int c' t1, .int e' t2] 0)] ∧ (Num.d c' e').Ok ∧ (Num.d c' e').units = N.units) := by
  cases N with
  | i n =>
    obtain ⟨t, rfl⟩ := hv.invI
    have hn := okI ok
    unfold Sp
    intro p loose mean mg mb dp un gd cn cs a ccd cl outer A₀ base h₀ L m s Q E B F X N T hk hd hu hret
    refine wpAny_call ?_
    k_dflt ktr_enter
    repeat' (first | (k_unfold; (try dsimp only)) | walk1 | (dsimp only; walk1) | (leave1; try dsimp only))
    all_goals exact hret _ [_] _ _ (by k_asm) (cb_drop (by assumption) (by kcj_all)) (by first | ktn_ord | exact ord_sub (by assumption) (by kcj_all)) ⟨_, _, _, _, _, rfl, rfl, by assumption, by rw [← unitsI]; assumption⟩
  | d c e =>
    obtain ⟨a, t1, t2, k, rfl, hm⟩ := hv.invD
    unfold Sp
    intro p loose mean mg mb dp un gd cn cs a ccd cl outer A₀ base h₀ L m s Q E B F X N T hk hd hu hret
    refine wpAny_call ?_
    k_dflt ktr_enter
    repeat' (first | (k_unfold; (try dsimp only)) | walk1 | (dsimp only; walk1) | (leave1; try dsimp only))
    all_goals exact hret _ [_] _ _ (by k_asm) (cb_drop (by assumption) (by kcj_all)) (by first | ktn_ord | exact ord_sub (by assumption) (by kcj_all)) ⟨_, _, _, _, _, rfl, rfl, by assumption, by assumption⟩
theorem sp_d_negated (w : World) (a : Addr) (c e : Int) (t u : Tok) (k : Nat) (news : Led) (hm : (a, tupO [.int c t, .int e u] k) ∈ news) :
    Sp w 1 16 101 [.ref a] news (fun r tl => ∃ D t1 t2, r = .ref D ∧ tl = [(D, tupO [.int (0 - c) t1, .int e t2] 0)]) := by
  unfold Sp
  intro p loose mean mg mb dp un gd cn cs a ccd cl outer A₀ base h₀ L m s Q E B F X N T hk hd hu hret
  refine wpAny_call ?_
  k_dflt ktr_enter
  repeat' (first | (k_unfold; (try dsimp only)) | walk1 | (dsimp only; walk1) | (leave1; try dsimp only))
  all_goals exact hret _ [_] _ _ (by k_asm) (cb_drop (by assumption) (by kcj_all)) (by first | ktn_ord | exact ord_sub (by assumption) (by kcj_all)) ⟨_, _, _, rfl, rfl⟩
theorem sp_d_size (w : World) (a : Addr) (c e : Int) (t u : Tok) (k : Nat) (news : Led) (hm : (a, tupO [.int c t, .int e u] k) ∈ news) :
    Sp w 1 16 108 [.ref a] news (fun r tl => ∃ D t1 t2, r = .ref D ∧ tl = [(D, tupO [.int (if c < 0 then -c else c) t1, .int e t2] 0)]) := by
  unfold Sp
  intro p loose mean mg mb dp un gd cn cs a ccd cl outer A₀ base h₀ L m s Q E B F X N T hk hd hu hret
  refine wpAny_call ?_
  k_dflt ktr_enter
  repeat' (first | (k_unfold; (try dsimp only)) | walk1 | (dsimp only; walk1) | (leave1; try dsimp only))
  all_goals exact hret _ [_] _ _ (by k_asm) (cb_drop (by assumption) (by kcj_all)) (by first | ktn_ord | exact ord_sub (by assumption) (by kcj_all)) ⟨_, _, _, rfl, rfl⟩
theorem tenP {c : Int} {k : Nat} {a b : Int} (h : b = 10 ^ k * a) : a * (c * 10 ^ k) = b * c := by
  rw [h, Int.mul_comm c, ← Int.mul_assoc, Int.mul_comm a]
theorem ten0 {c e : Int} : (Num.d (c * 10 ^ (e - e).toNat) e).units = (Num.d c e).units := by
  rw [Int.sub_self]; show (Num.d (c * 1) e).units = _; rw [Int.mul_one]
theorem ten1 {c : Int} : (Num.d (c * 10 ^ ((-1 : Int) - (-2)).toNat) (-2)).units = (Num.d c (-1)).units := by
  show c * 10 ^ 1 = 10 * c; omega
theorem ten2 {c : Int} : (Num.d (c * 10 ^ ((0 : Int) - (-2)).toNat) (-2)).units = (Num.d c 0).units := by
  show c * 10 ^ 2 = 100 * c; omega
theorem ten3 {c : Int} : (Num.d (c * 10 ^ ((1 : Int) - (-2)).toNat) (-2)).units = (Num.d c 1).units := by
  show c * 10 ^ 3 = 1000 * c; omega
theorem ten4 {c : Int} : (Num.d (c * 10 ^ ((2 : Int) - (-2)).toNat) (-2)).units = (Num.d c 2).units := by
  show c * 10 ^ 4 = 10000 * c; omega
theorem ten5 {c : Int} : (Num.d (c * 10 ^ ((0 : Int) - (-1)).toNat) (-1)).units = (Num.d c 0).units := tenP (k := 1) (a := 10) rfl
theorem ten6 {c : Int} : (Num.d (c * 10 ^ ((1 : Int) - (-1)).toNat) (-1)).units = (Num.d c 1).units := tenP (k := 2) (a := 10) rfl
theorem ten7 {c : Int} : (Num.d (c * 10 ^ ((2 : Int) - (-1)).toNat) (-1)).units = (Num.d c 2).units := tenP (k := 3) (a := 10) rfl
theorem ten8 {c : Int} : (Num.d (c * 10 ^ ((1 : Int) - 0).toNat) 0).units = (Num.d c 1).units := tenP (k := 1) (a := 100) rfl
theorem ten9 {c : Int} : (Num.d (c * 10 ^ ((2 : Int) - 0).toNat) 0).units = (Num.d c 2).units := tenP (k := 2) (a := 100) rfl
theorem ten10 {c : Int} : (Num.d (c * 10 ^ ((2 : Int) - 1).toNat) 1).units = (Num.d c 2).units := tenP (k := 1) (a := 1000) rfl
theorem pow_units {c e l : Int} (h1 : -2 ≤ l) (h2 : l ≤ e) (h3 : e ≤ 2) : (Num.d (c * 10 ^ (e - l).toNat) l).units = (Num.d c e).units := by
  have hl := fiveE h1 (Int.le_trans h2 h3)
  have he := fiveE (Int.le_trans h1 h2) h3
  rcases hl with rfl | rfl | rfl | rfl | rfl <;> rcases he with rfl | rfl | rfl | rfl | rfl <;> first | exact absurd h2 (by decide) | exact ten1 | exact ten2 | exact ten3 | exact ten4 | exact ten5 | exact ten6 | exact ten7 | exact ten8 | exact ten9 | exact ten10 | exact ten0
theorem sp_alike (w : World) (a b : Addr) (c e c2 e2 : Int) (t u t2 u2 : Tok) (k k2 : Nat) (news : Led) (ok : (Num.d c e).Ok) (ok2 : (Num.d c2 e2).Ok) (hm : (a, tupO [.int c t, .int e u] k) ∈ news) (hm2 : (b, tupO [.int c2 t2, .int e2 u2] k2) ∈ news) :
    Sp w 1 16 115 [.ref a, .ref b] news (fun r tl => ∃ D x y l t1 t2 t3, r = .ref D ∧ tl = [(D, tupO [.int x t1, .int y t2, .int l t3] 0)] ∧ -2 ≤ l ∧ l ≤ 2 ∧ (Num.d x l).units = (Num.d c e).units ∧ (Num.d y l).units = (Num.d c2 e2).units) := by
  have hc := units_le ok
  have he : -2 ≤ e ∧ e ≤ 2 := ⟨ok.1, ok.2.1⟩
  have hc2 := units_le ok2
  have he2 : -2 ≤ e2 ∧ e2 ≤ 2 := ⟨ok2.1, ok2.2.1⟩
  unfold Sp
  intro p loose mean mg mb dp un gd cn cs a ccd cl outer A₀ base h₀ L m s Q E B F X N T hk hd hu hret
  refine wpAny_call ?_
  k_dflt ktr_enter
  repeat' (first | (k_unfold; (try dsimp only)) | walk1 | (dsimp only; walk1) | (leave1; try dsimp only))
  all_goals exact hret _ [_] _ _ (by k_asm) (cb_drop (by assumption) (by kcj_all)) (by first | ktn_ord | exact ord_sub (by assumption) (by kcj_all)) ⟨_, _, _, _, _, _, _, rfl, rfl, by split <;> omega, by split <;> omega, pow_units (by split <;> omega) (by split <;> omega) (by omega), pow_units (by split <;> omega) (by split <;> omega) (by omega)⟩
example : True := by ((k_with "call ref" => (k_here; (with_reducible show wpAny _ _ (call (Value.ref 115) _) _ _ _); k_dflt (refine' sp_use (sp_alike _ _ _ _ _ _ _ _ _ _ _ _ _ _ ?p1zz ?p2zz ?p3zz ?p4zz) ?k1zz ?k2zz ?k3zz ?k4zz ?k5zz ?kKzz ?kdzz ?kuzz ?_); k_extra "u1"; k_extra "u2"; (case p3zz => k_mem); (case p4zz => k_mem); (case p1zz => assumption); (case p2zz => assumption); k_extra "u3"; obtain ⟨D9zz, x9zz, y9zz, l9'zz, t9zz, u9zz, v9zz, r9zz, f9zz, q91zz, q92zz, q93zz, q94zz⟩ := o9zz; subst r9zz; subst f9zz; k_extra "u4")); trivial)
theorem units_add {x y l : Int} : (Num.d (x + y) l).units = (Num.d x l).units + (Num.d y l).units := by
  simp only [Num.units]; (repeat' split) <;> omega
theorem add_ok {x y l c e c2 e2 : Int} (h1 : -2 ≤ l) (h2 : l ≤ 2) (hx : (Num.d x l).units = (Num.d c e).units) (hy : (Num.d y l).units = (Num.d c2 e2).units) (hs : -10000 ≤ (Num.d c e).units + (Num.d c2 e2).units ∧ (Num.d c e).units + (Num.d c2 e2).units ≤ 10000) : (Num.d (x + y) l).Ok :=
  ⟨h1, h2, by rw [units_add]; omega, by rw [units_add]; omega⟩
theorem sp_d_add (w : World) (a b : Addr) (c e c2 e2 : Int) (t u t2 u2 tb : Tok) (k k2 : Nat) (news : Led) (ok : (Num.d c e).Ok) (ok2 : (Num.d c2 e2).Ok) (hs : -10000 ≤ (Num.d c e).units + (Num.d c2 e2).units ∧ (Num.d c e).units + (Num.d c2 e2).units ≤ 10000) (hm : (a, tupO [.int c t, .int e u] k) ∈ news) (hm2 : (b, tupO [.int c2 t2, .int e2 u2] k2) ∈ news) :
    Sp w 4 40 122 [.ref a, .ref b, .int 9 tb] news (fun r tl => ∃ D c' e' t1 t2, r = .ref D ∧ tl = [(D, tupO [.int c' t1, .int e' t2] 0)] ∧ (Num.d c' e').Ok ∧ (Num.d c' e').units = (Num.d c e).units + (Num.d c2 e2).units) := by
  unfold Sp
  intro p loose mean mg mb dp un gd cn cs a ccd cl outer A₀ base h₀ L m s Q E B F X N T hk hd hu hret
  refine wpAny_call ?_
  k_dflt ktr_enter
  k_with "made" => exact add_ok (by assumption) (by assumption) (by assumption) (by assumption) (by assumption)
  repeat' (first | (k_unfold; (try dsimp only)) | walk1 | (dsimp only; walk1) | (leave1; try dsimp only))
  all_goals exact hret _ [_] _ _ (by k_asm) (cb_drop (by assumption) (by kcj_all)) (by first | ktn_ord | exact ord_sub (by assumption) (by kcj_all)) ⟨_, _, _, _, _, rfl, rfl, by assumption, by (rename _ = _ => hE); rw [hE, units_add]; omega⟩
theorem icmp_l {x y l : Int} : b2i (decide (y < x)) - b2i (decide (x < y)) = icmp (Num.d x l).units (Num.d y l).units := by
  have h : ∀ a b : Int, a < b ↔ (Num.d a l).units < (Num.d b l).units := by
    intro a b; simp only [Num.units]; (repeat' split) <;> omega
  unfold icmp
  rw [b2iC (h y x), b2iC (h x y)]
theorem icmp_lr {x y l : Int} {N M : Num} (h1 : (Num.d x l).units = N.units) (h2 : (Num.d y l).units = M.units) : b2i (decide (y < x)) - b2i (decide (x < y)) = icmp N.units M.units := by rw [← h1, ← h2]; exact icmp_l
theorem sp_d_compare (w : World) (a b : Addr) (c e c2 e2 : Int) (t u t2 u2 : Tok) (k k2 : Nat) (news : Led) (ok : (Num.d c e).Ok) (ok2 : (Num.d c2 e2).Ok) (hm : (a, tupO [.int c t, .int e u] k) ∈ news) (hm2 : (b, tupO [.int c2 t2, .int e2 u2] k2) ∈ news) :
    Sp w 2 24 157 [.ref a, .ref b] news (fun r tl => (∃ t, r = .int (icmp (Num.d c e).units (Num.d c2 e2).units) t) ∧ tl = []) := by
  unfold Sp
  intro p loose mean mg mb dp un gd cn cs a ccd cl outer A₀ base h₀ L m s Q E B F X N T hk hd hu hret
  refine wpAny_call ?_
  k_dflt ktr_enter
  repeat' (first | (k_unfold; (try dsimp only)) | walk1 | (dsimp only; walk1) | (leave1; try dsimp only))
  all_goals exact hret _ [] _ _ (by k_asm) (cb_drop (by assumption) (by kcj_all)) (by first | ktn_ord | exact ord_sub (by assumption) (by kcj_all)) ⟨⟨_, congrArg (fun z => Value.int z _) (icmp_lr (by assumption) (by assumption))⟩, rfl⟩
end Mine
end
section
open PySem PySem.W PyProof.Rows
set_option maxRecDepth 100000
set_option maxHeartbeats 8000000
set_option linter.unusedVariables false
namespace Mine
example : True := by (k_with_none; trivial)
example : True := by ((k_with "u1" => ((case k1zz => k_asm); (case k2zz => k_asm); (case k3zz => k_asm); (case k4zz => k_asm); (case k5zz => k_asm))); trivial)
example : True := by ((k_with "u2" => ((case kKzz => first | exact rfl | assumption); (case kdzz => ktr_room); (case kuzz => ktr_units))); trivial)
example : True := by ((k_with "u3" => (intro r9zz tl9zz h9zz tk9zz F9zz N9zz l9zz o9zz; (try dsimp only at o9zz))); trivial)
example : True := by ((k_with "u4" => ((try simp only [List.nil_append, List.cons_append] at N9zz); (try dsimp only); (try k_fold))); trivial)
example : True := by ((k_with "suf" => (first | apply sub_refl | assumption | (refine sub_tail ?_; k_extra "suf") | (refine sub_app ?_; k_extra "suf") | apply sub_nil | (refine sub_appL ?_; k_extra "suf"))); trivial)
example : True := by ((k_with "in" => (first | assumption | apply in_head | (refine in_tail ?_; k_extra "in") | (refine in_app ?_; k_extra "in") | (refine in_appL ?_; k_extra "in"))); trivial)
example : True := by ((k_with "sub" => (first | k_extra "suf" | (refine sub_cons ?_ ?_; (focus k_extra "in"); k_extra "sub") | (refine sub_both ?_ ?_; (focus k_extra "sub"); k_extra "sub") | (refine sub_trans ?_ (by assumption); k_extra "suf"))); trivial)
example : True := by ((k_with "lt0" => (first | assumption | (refine Mine.pickA (by assumption) ?_; intro hz9zz; first | apply hz9zz.1 | (replace hz9zz := hz9zz.2; first | apply hz9zz.1 | (replace hz9zz := hz9zz.2; first | apply hz9zz.1 | (replace hz9zz := hz9zz.2; first | apply hz9zz.1 | (replace hz9zz := hz9zz.2; first | apply hz9zz.1 | (replace hz9zz := hz9zz.2; first | apply hz9zz.1 | (replace hz9zz := hz9zz.2; first | apply hz9zz.1 | (replace hz9zz := hz9zz.2; first | apply hz9zz.1 | (replace hz9zz := hz9zz.2; first | apply hz9zz.1 | (replace hz9zz := hz9zz.2; first | apply hz9zz.1 | (replace hz9zz := hz9zz.2; first | apply hz9zz.1 | (replace hz9zz := hz9zz.2; first | apply hz9zz.1 | (replace hz9zz := hz9zz.2; first | apply hz9zz.1 | (replace hz9zz := hz9zz.2; first | apply hz9zz.1 | apply hz9zz.2)))))))))))))))); trivial)
example : True := by ((k_with "lt1" => (first | apply Mine.sl1 | apply Mine.sl2 | apply Mine.sl3 | apply Mine.sl4 | exact Mine.dn1 (by assumption) | exact Mine.dn2 (by assumption) | exact Mine.dn3 (by assumption) | exact Mine.dn4 (by assumption) | exact Mine.upx (by assumption) (by assumption) | exact Mine.up4 (by assumption) | (refine Nat.lt_trans ?_ (by assumption); first | k_extra "lt0" | exact Mine.dn1 (by assumption) | exact Mine.dn2 (by assumption) | exact Mine.dn3 (by assumption) | exact Mine.dn4 (by assumption) | (refine Nat.lt_trans ?_ (by assumption); k_extra "lt0")))); trivial)
example : True := by ((k_with "LeaveK" => (k_dflt (refine' leaveK_ ?k1zz ?k2zz ?_; (case k1zz => k_asm); (case k2zz => k_asm); k_whole); intro kFzz kNzz; (try dsimp only))); trivial)
example : True := by ((k_with "k_mem" => (first | assumption | (refine' List.mem_append_right _ ?_; k_mem) | (refine' List.mem_append_left _ ?_; k_mem))); trivial)
example : True := by ((k_with "kcj_all" => (k_whole; first | (refine fun pzz hpzz => List.mem_append_right _ ?_; assumption) | (intro pzz hpzz; (simp only [List.mem_append, List.mem_cons, List.not_mem_nil, or_false, false_or] at hpzz ⊢); first | assumption | (simp only [hpzz, true_or, or_true]; done) | grind))); trivial)
example : True := by ((k_with "kcj_all" => (k_whole; with_reducible k_extra "sub")); trivial)
example : True := by ((k_with "call ref" => (k_here; (with_reducible show wpAny _ _ (call (Value.ref 44) _) _ _ _); k_dflt (refine' sp_useF (sp_figures_of _ _ _ _ ?p1zz) ?k1zz ?k2zz ?k3zz ?k4zz ?k5zz ?kKzz ?kdzz ?kuzz ?_); k_extra "u1"; k_extra "u2"; (case p1zz => omega); intro h9zz tk9zz F9zz x9zz t9zz q91zz q92zz N9zz; (try dsimp only); (try k_fold))); trivial)
example : True := by ((k_with "call ref" => (k_here; (with_reducible show wpAny _ _ (call (Value.ref 51) _) _ _ _); k_dflt (refine' sp_useI (sp_rounded_by _ _ _ _ _ _ ?p1zz ?p2zz ?p3zz) ?k1zz ?k2zz ?k3zz ?k4zz ?k5zz ?kKzz ?kdzz ?kuzz ?_); k_extra "u1"; k_extra "u2"; (case p1zz => omega); (case p2zz => omega); (case p3zz => omega); intro h9zz tk9zz F9zz t9zz N9zz; (try dsimp only); (try k_fold))); trivial)
example : True := by ((k_with "call ref" => (k_here; (with_reducible show wpAny _ _ (call (Value.ref 58) _) _ _ _); k_dflt (refine' sp_useD (sp_made _ _ _ _ _ _ _ ?p1zz) ?k1zz ?k2zz ?k3zz ?k4zz ?k5zz ?kKzz ?kdzz ?kuzz ?_); k_extra "u1"; k_extra "u2"; (case p1zz => first | assumption | k_extra "made"); intro h9zz tk9zz F9zz D9zz c9zz e9zz t9zz u9zz q91zz q92zz N9zz l9zz; (try dsimp only); (try k_fold))); trivial)
example : True := by ((k_with "newTuple" => (k_here; k_dflt (refine' kup_newTuple ?Fzz ?Nzz ?_ ?zzz; (case Fzz => k_asm); (case Nzz => k_asm); (case zzz => kmk_size)); intro D'zz h'zz F'zz N'zz l1zz; (try k_lt l1zz); (try k_sweep))); trivial)
example : True := by ((k_with "binaryOp Pow int int" => ((with_reducible refine pow_int_small ?kb1zz ?kb2zz ?kb3zz ?_); (case kb1zz => omega); (case kb2zz => omega); (case kb3zz => decide))); trivial)
example : True := by ((k_with "subscriptTail" => (k_here; (with_reducible show wpAny _ _ (subscriptTail _ _ (Value.ref _) (Value.int _ _)) _ _ _); (with_unfolding_all refine' item_litK ?k1zz ?k2zz ?k3zz ?k4zz ?_ ?k6zz; (case k1zz => exact isListOf (by k_asm) (by k_mem)); (case k2zz => first | decide | omega); (case k3zz => first | decide | omega); (case k4zz => first | rfl | assumption); (case k6zz => with_unfolding_all rfl); k_whole))); trivial)
example : True := by ((k_with "subscriptTail Name Name ref int" => (k_here; (with_reducible show wpAny _ _ (subscriptTail _ _ (Value.ref _) (Value.int _ _)) _ _ _); (with_unfolding_all refine' item_litK ?k1zz ?k2zz ?k3zz ?k4zz ?_ ?k6zz; (case k1zz => exact isListOf (by k_asm) (by k_mem)); (case k2zz => first | decide | omega); (case k3zz => first | decide | omega); (case k4zz => first | rfl | assumption); (case k6zz => with_unfolding_all rfl); k_whole))); trivial)
example : True := by ((k_with "subscriptTail Name Constant ref int" => (k_here; (with_reducible show wpAny _ _ (subscriptTail _ _ (Value.ref _) (Value.int _ _)) _ _ _); (with_unfolding_all refine' item_litK ?k1zz ?k2zz ?k3zz ?k4zz ?_ ?k6zz; (case k1zz => exact isListOf (by k_asm) (by k_mem)); (case k2zz => first | decide | omega); (case k3zz => first | decide | omega); (case k4zz => first | rfl | assumption); (case k6zz => with_unfolding_all rfl); k_whole))); trivial)
example : True := by ((k_with "call ref" => (k_here; (with_reducible show wpAny _ _ (call (Value.ref 72) _) _ _ _); k_dflt (refine' sp_useV (sp_fits _ _ _ _ _ ?p1zz ?p2zz) ?k1zz ?k2zz ?k3zz ?k4zz ?k5zz ?kKzz ?kdzz ?kuzz ?_); k_extra "u1"; k_extra "u2"; (case p1zz => omega); (case p2zz => omega); intro h9zz tk9zz F9zz N9zz; (try dsimp only); (try k_fold))); trivial)
example : True := by ((k_with "call ref" => (k_here; (with_reducible show wpAny _ _ (call (Value.ref 65) _) _ _ _); k_dflt (refine' sp_useI (sp_whole_near _ _ _ _ _ _ _ _ ?p1zz ?p2zz) ?k1zz ?k2zz ?k3zz ?k4zz ?k5zz ?kKzz ?kdzz ?kuzz ?_); k_extra "u1"; k_extra "u2"; (case p2zz => k_mem); (case p1zz => assumption); intro h9zz tk9zz F9zz t9zz N9zz; (try dsimp only); (try k_fold))); trivial)
example : True := by ((k_with "call ref" => (k_here; (with_reducible show wpAny _ _ (call (Value.ref 79) _) _ _ _); k_dflt (refine' sp_useI (sp_whole_of _ _ _ _ _ ?p1zz ?p2zz) ?k1zz ?k2zz ?k3zz ?k4zz ?k5zz ?kKzz ?kdzz ?kuzz ?_); k_extra "u1"; k_extra "u2"; (case p2zz => first | exact numIn_i | exact numIn_d (by k_mem) | exact NumIn.mono (by assumption) (by kcj_all) | assumption); (case p1zz => assumption); intro h9zz tk9zz F9zz t9zz N9zz; (try dsimp only); (try k_fold))); trivial)
example : True := by ((k_with "call ref" => (k_here; (with_reducible show wpAny _ _ (call (Value.ref 93) _) _ _ _); k_dflt (refine' sp_useI (sp_sign_of _ _ _ _ ?p2zz) ?k1zz ?k2zz ?k3zz ?k4zz ?k5zz ?kKzz ?kdzz ?kuzz ?_); k_extra "u1"; k_extra "u2"; (case p2zz => first | exact numIn_i | exact numIn_d (by k_mem) | exact NumIn.mono (by assumption) (by kcj_all) | assumption); intro h9zz tk9zz F9zz t9zz N9zz; (try dsimp only); (try k_fold))); trivial)
example : True := by ((k_with "call ref" => (k_here; (with_reducible show wpAny _ _ (call (Value.ref 86) _) _ _ _); k_dflt (refine' sp_useD (sp_decimal_of _ _ _ _ _ ?p1zz ?p2zz) ?k1zz ?k2zz ?k3zz ?k4zz ?k5zz ?kKzz ?kdzz ?kuzz ?_); k_extra "u1"; k_extra "u2"; (case p2zz => first | exact numIn_i | exact numIn_d (by k_mem) | exact NumIn.mono (by assumption) (by kcj_all) | assumption); (case p1zz => assumption); intro h9zz tk9zz F9zz D9zz c9zz e9zz t9zz u9zz q91zz q92zz N9zz l9zz; (try dsimp only); (try k_fold))); trivial)
example : True := by ((k_with "call ref" => (k_here; (with_reducible show wpAny _ _ (call (Value.ref 101) _) _ _ _); k_dflt (refine' sp_useN (sp_d_negated _ _ _ _ _ _ _ _ ?p1zz) ?k1zz ?k2zz ?k3zz ?k4zz ?k5zz ?kKzz ?kdzz ?kuzz ?_); k_extra "u1"; k_extra "u2"; (case p1zz => k_mem); intro h9zz tk9zz F9zz D9zz t9zz u9zz N9zz l9zz; (try dsimp only); (try k_fold))); trivial)
example : True := by ((k_with "call ref" => (k_here; (with_reducible show wpAny _ _ (call (Value.ref 108) _) _ _ _); k_dflt (refine' sp_useN (sp_d_size _ _ _ _ _ _ _ _ ?p1zz) ?k1zz ?k2zz ?k3zz ?k4zz ?k5zz ?kKzz ?kdzz ?kuzz ?_); k_extra "u1"; k_extra "u2"; (case p1zz => k_mem); intro h9zz tk9zz F9zz D9zz t9zz u9zz N9zz l9zz; (try dsimp only); (try k_fold))); trivial)
example : True := by ((k_with "call ref" => (k_here; (with_reducible show wpAny _ _ (call (Value.ref 115) _) _ _ _); k_dflt (refine' sp_use (sp_alike _ _ _ _ _ _ _ _ _ _ _ _ _ _ ?p1zz ?p2zz ?p3zz ?p4zz) ?k1zz ?k2zz ?k3zz ?k4zz ?k5zz ?kKzz ?kdzz ?kuzz ?_); k_extra "u1"; k_extra "u2"; (case p3zz => k_mem); (case p4zz => k_mem); (case p1zz => assumption); (case p2zz => assumption); k_extra "u3"; obtain ⟨D9zz, x9zz, y9zz, l9'zz, t9zz, u9zz, v9zz, r9zz, f9zz, q91zz, q92zz, q93zz, q94zz⟩ := o9zz; subst r9zz; subst f9zz; k_extra "u4")); trivial)
example : True := by ((k_with "call ref" => (k_here; (with_reducible show wpAny _ _ (call (Value.ref 122) _) _ _ _); k_dflt (refine' sp_useD (sp_d_add _ _ _ _ _ _ _ _ _ _ _ _ _ _ _ ?p1zz ?p2zz ?p5zz ?p3zz ?p4zz) ?k1zz ?k2zz ?k3zz ?k4zz ?k5zz ?kKzz ?kdzz ?kuzz ?_); k_extra "u1"; k_extra "u2"; (case p3zz => k_mem); (case p4zz => k_mem); (case p1zz => assumption); (case p2zz => assumption); (case p5zz => first | assumption | k_extra "add"); intro h9zz tk9zz F9zz D9zz c9zz e9zz t9zz u9zz q91zz q92zz N9zz l9zz; (try dsimp only); (try k_fold))); trivial)
example : True := by ((k_with "call ref" => (k_here; (with_reducible show wpAny _ _ (call (Value.ref 157) _) _ _ _); k_dflt (refine' sp_useI (sp_d_compare _ _ _ _ _ _ _ _ _ _ _ _ _ _ ?p1zz ?p2zz ?p3zz ?p4zz) ?k1zz ?k2zz ?k3zz ?k4zz ?k5zz ?kKzz ?kdzz ?kuzz ?_); k_extra "u1"; k_extra "u2"; (case p3zz => k_mem); (case p4zz => k_mem); (case p1zz => first | assumption | k_extra "cmp"); (case p2zz => first | assumption | k_extra "cmp"); intro h9zz tk9zz F9zz t9zz N9zz; (try dsimp only); (try k_fold))); trivial)
theorem flA {c : Int} : c.fdiv (10 ^ ((0 : Int) - -2).toNat) = (Num.d c (-2)).units / 100 := by
  have e : (Num.d c (-2)).units = c := by simp [Num.units]
  rw [e]; show c.fdiv 100 = _; rw [Int.fdiv_eq_ediv_of_nonneg _ (by decide)]
theorem flB {c : Int} : c.fdiv (10 ^ ((0 : Int) - -1).toNat) = (Num.d c (-1)).units / 100 := by
  have e : (Num.d c (-1)).units = 10 * c := by simp [Num.units]
  rw [e]; show c.fdiv 10 = _; rw [Int.fdiv_eq_ediv_of_nonneg _ (by decide)]; omega
theorem flC {c e : Int} (ok : (Num.d c e).Ok) (he : 0 ≤ e) : c * 10 ^ e.toNat = (Num.d c e).units / 100 := by
  have h2 := ok.2.1
  have hx : e = 0 ∨ e = 1 ∨ e = 2 := by omega
  rcases hx with rfl | rfl | rfl
  · have : (Num.d c 0).units = 100 * c := by simp [Num.units]
    rw [this]; show c * 1 = _; omega
  · have : (Num.d c 1).units = 1000 * c := by simp [Num.units]
    rw [this]; show c * 10 = _; omega
  · have : (Num.d c 2).units = 10000 * c := by simp [Num.units]
    rw [this]; show c * 100 = _; omega
theorem sp_floor_of (w : World) (a : Addr) (c e : Int) (t u : Tok) (k : Nat) (news : Led) (ok : (Num.d c e).Ok) (hm : (a, tupO [.int c t, .int e u] k) ∈ news) :
    Sp w 1 16 178 [.ref a] news (fun r tl => (∃ t, r = .int ((Num.d c e).units / 100) t) ∧ tl = []) := by
  have hc := units_le ok
  have he : -2 ≤ e ∧ e ≤ 2 := ⟨ok.1, ok.2.1⟩
  have hx : e = -2 ∨ e = -1 ∨ 0 ≤ e := by omega
  rcases hx with rfl | rfl | hx
  all_goals (
    unfold Sp
    intro p loose mean mg mb dp un gd cn cs a ccd cl outer A₀ base h₀ L m s Q E B F X N T hk hd hu hret
    refine wpAny_call ?_
    k_dflt ktr_enter
    repeat' (first | (k_unfold; (try dsimp only)) | walk1 | (dsimp only; walk1) | (leave1; try dsimp only))
    )
  all_goals exact hret _ [] _ _ (by k_asm) (cb_drop (by assumption) (by kcj_all)) (by first | ktn_ord | exact ord_sub (by assumption) (by kcj_all)) ⟨⟨_, congrArg (fun z => Value.int z _) (by first | exact flA | exact flB | exact flC (by assumption) (by assumption))⟩, rfl⟩
example : True := by ((k_with "call ref" => (k_here; (with_reducible show wpAny _ _ (call (Value.ref 178) _) _ _ _); k_dflt (refine' sp_useI (sp_floor_of _ _ _ _ _ _ _ _ ?p1zz ?p2zz) ?k1zz ?k2zz ?k3zz ?k4zz ?k5zz ?kKzz ?kdzz ?kuzz ?_); k_extra "u1"; k_extra "u2"; (case p2zz => k_mem); (case p1zz => assumption); intro h9zz tk9zz F9zz t9zz N9zz; (try dsimp only); (try k_fold))); trivial)
theorem fl_ok {c e : Int} (ok : (Num.d c e).Ok) : (Num.d ((Num.d c e).units / 100) 0).Ok ∧ (Num.d ((Num.d c e).units / 100) 0).units = 100 * ((Num.d c e).units / 100) := by
  have hu := Num.u_le ok
  have e1 : ∀ x, (Num.d x 0).units = 100 * x := by intro x; simp [Num.units]
  rw [e1]
  refine ⟨⟨by decide, by decide, ?_, ?_⟩, rfl⟩ <;> rw [e1] <;> omega
theorem fl_whole {c e : Int} (he : ¬ e < 0) : (Num.d c e).units = 100 * ((Num.d c e).units / 100) := by
  simp only [Num.units]
  (repeat' split) <;> omega
/-- a decimal comes back: one of the ledger -/
def RD (news : Led) (u : Int) (r : Value) (tl : Led) : Prop := ∃ c' e', NumIn (tl ++ news) r (.d c' e') ∧ (Num.d c' e').Ok ∧ (Num.d c' e').units = u
theorem RD.old {news : Led} {u : Int} {a : Addr} {c e : Int} {t1 t2 : Tok} {k : Nat} (hm : (a, tupO [.int c t1, .int e t2] k) ∈ news) (ok : (Num.d c e).Ok) (hu : (Num.d c e).units = u) : RD news u (.ref a) [] := ⟨c, e, (.d hm), ok, hu⟩
theorem RD.new {news : Led} {u : Int} {a : Addr} {c e : Int} {t1 t2 : Tok} {k : Nat} (ok : (Num.d c e).Ok) (hu : (Num.d c e).units = u) : RD news u (.ref a) [(a, tupO [.int c t1, .int e t2] k)] := ⟨c, e, (.d (.head _)), ok, hu⟩
theorem sp_d_whole (w : World) (a : Addr) (c e : Int) (t u tb : Tok) (k : Nat) (news : Led) (ok : (Num.d c e).Ok) (hm : (a, tupO [.int c t, .int e u] k) ∈ news) :
    Sp w 4 40 185 [.ref a, .int 9 tb] news (fun r tl => RD news (100 * ((Num.d c e).units / 100)) r tl) := by
  have hf := fl_ok ok
  unfold Sp
  intro p loose mean mg mb dp un gd cn cs a ccd cl outer A₀ base h₀ L m s Q E B F X N T hk hd hu hret
  refine wpAny_call ?_
  k_dflt ktr_enter
  k_with "made" => exact (And.left (by assumption))
  repeat' (first | (k_unfold; (try dsimp only)) | walk1 | (dsimp only; walk1) | (leave1; try dsimp only))
  all_goals first
    | exact hret _ [] _ _ (by k_asm) (cb_drop (by assumption) (by kcj_all)) ktn_ord0 (RD.old (by assumption) (by assumption) (fl_whole (by assumption)))
    | exact hret _ [_] _ _ (by k_asm) (cb_drop (by assumption) (by kcj_all)) (by first | ktn_ord | exact ord_sub (by assumption) (by kcj_all)) (RD.new (by assumption) ((by assumption : _ = _).trans hf.2))
example : True := by ((k_with "call ref" => (k_here; (with_reducible show wpAny _ _ (call (Value.ref 185) _) _ _ _); k_dflt (refine' sp_use (sp_d_whole _ _ _ _ _ _ _ _ _ ?p1zz ?p2zz) ?k1zz ?k2zz ?k3zz ?k4zz ?k5zz ?kKzz ?kdzz ?kuzz ?_); k_extra "u1"; k_extra "u2"; (case p2zz => k_mem); (case p1zz => first | assumption | k_extra "whole"); k_extra "u3"; obtain ⟨c9zz, e9zz, n9zz, q91zz, q92zz⟩ := o9zz; obtain ⟨a9zz, t9zz, u9zz, k9zz, r9zz, m9zz⟩ := NumIn.invD n9zz; subst r9zz; k_extra "u4")); trivial)
def Fx (u : Int) : Int := if u < 0 then -(100 * (-u / 100)) else 100 * (u / 100)
theorem units_neg {c e : Int} : (Num.d (0 - c) e).units = -(Num.d c e).units := by
  simp only [Num.units]; (repeat' split) <;> omega
theorem neg_ok {c e : Int} (ok : (Num.d c e).Ok) : (Num.d (0 - c) e).Ok := ⟨ok.1, ok.2.1, by rw [units_neg]; have := Num.u_le ok; omega, by rw [units_neg]; have := Num.u_le ok; omega⟩
theorem abs_ok {c e : Int} (ok : (Num.d c e).Ok) : (Num.d (if c < 0 then -c else c) e).Ok := by
  split
  · have := neg_ok ok; rwa [show (0 : Int) - c = -c by omega] at this
  · exact ok
theorem fxN {c e c' e' : Int} (hc : c < 0) (h : (Num.d c' e').units = 100 * ((Num.d (if c < 0 then -c else c) e).units / 100)) : (Num.d (0 - c') e').units = Fx (Num.d c e).units := by
  have hu := (unitsPos (c := c) (e := e)).2.mp hc
  have := units_neg (c := c) (e := e)
  rw [show (0 : Int) - c = -c by omega] at this
  rw [units_neg, h, if_pos hc, this]
  unfold Fx
  rw [if_pos hu]
theorem fxP {c e c' e' : Int} (hc : ¬ c < 0) (h : (Num.d c' e').units = 100 * ((Num.d (if c < 0 then -c else c) e).units / 100)) : (Num.d c' e').units = Fx (Num.d c e).units := by
  have hu : ¬ (Num.d c e).units < 0 := fun q => hc ((unitsPos (c := c) (e := e)).2.mpr q)
  rw [h, if_neg hc]
  unfold Fx
  rw [if_neg hu]
theorem RD.app {news tl : Led} {x : Addr × Obj} {a : Addr} {u c e : Int} {t1 t2 : Tok} {k : Nat} (hm : (a, tupO [.int c t1, .int e t2] k) ∈ tl ++ x :: news) (ok : (Num.d c e).Ok) (hu : (Num.d c e).units = u) : RD news u (.ref a) (tl ++ [x]) :=
  ⟨c, e, (.d (by simpa using hm)), ok, hu⟩
theorem app_sub {news tl : Led} {x : Addr × Obj} : ∀ p ∈ (tl ++ [x]) ++ news, p ∈ tl ++ x :: news := by intro p hp; simpa using hp
theorem app_ord {news tl : Led} {x : Addr × Obj} (h : ∀ q ∈ x :: news, ∀ p ∈ tl, q.1 < p.1) (k : ∀ q ∈ news, ∀ p ∈ [x], q.1 < p.1) : ∀ q ∈ news, ∀ p ∈ tl ++ [x], q.1 < p.1 := by
  intro q hq p hp
  rcases List.mem_append.mp hp with hp | hp
  · exact h q (.tail _ hq) p hp
  · exact k q hq p hp
theorem sp_d_fix (w : World) (a : Addr) (c e : Int) (t u tb : Tok) (k : Nat) (news : Led) (ok : (Num.d c e).Ok) (hm : (a, tupO [.int c t, .int e u] k) ∈ news) :
    Sp w 5 48 192 [.ref a, .int 9 tb] news (fun r tl => RD news (Fx (Num.d c e).units) r tl) := by
  have hf := abs_ok ok
  unfold Sp
  intro p loose mean mg mb dp un gd cn cs a ccd cl outer A₀ base h₀ L m s Q E B F X N T hk hd hu hret
  refine wpAny_call ?_
  k_dflt ktr_enter
  k_with "whole" => exact abs_ok (by assumption)
  repeat' (first | (k_unfold; (try dsimp only)) | walk1 | (dsimp only; walk1) | (leave1; try dsimp only))
  all_goals first
    | exact hret _ (_ ++ [_]) _ _ (by k_asm) (cb_drop (by assumption) app_sub) (app_ord (by assumption) (by assumption)) (RD.app (by assumption) (by assumption) (fxP (by assumption) (by assumption)))
    | exact hret _ [_] _ _ (by k_asm) (cb_drop (by assumption) (by kcj_all)) (by first | ktn_ord | exact ord_sub (by assumption) (by kcj_all)) (RD.new (neg_ok (by assumption)) (fxN (by assumption) (by assumption)))
example : True := by ((k_with "call ref" => (k_here; (with_reducible show wpAny _ _ (call (Value.ref 192) _) _ _ _); k_dflt (refine' sp_use (sp_d_fix _ _ _ _ _ _ _ _ _ ?p1zz ?p2zz) ?k1zz ?k2zz ?k3zz ?k4zz ?k5zz ?kKzz ?kdzz ?kuzz ?_); k_extra "u1"; k_extra "u2"; (case p2zz => k_mem); (case p1zz => assumption); k_extra "u3"; obtain ⟨c9zz, e9zz, n9zz, q91zz, q92zz⟩ := o9zz; obtain ⟨a9zz, t9zz, u9zz, k9zz, r9zz, m9zz⟩ := NumIn.invD n9zz; subst r9zz; k_extra "u4")); trivial)
def Num.isI : Num → Bool
  | .i _ => true
  | .d _ _ => false
theorem sp_is_whole (w : World) (v : Value) (N : Num) (news : Led) (hv : NumIn news v N) :
    Sp w 1 16 199 [v] news (fun r tl => r = .bool N.isI ∧ tl = []) := by
  cases N with
  | i n =>
    obtain ⟨t, rfl⟩ := hv.invI
    unfold Sp
    intro p loose mean mg mb dp un gd cn cs a ccd cl outer A₀ base h₀ L m s Q E B F X N T hk hd hu hret
    refine wpAny_call ?_
    k_dflt ktr_enter
    repeat' (first | (k_unfold; (try dsimp only)) | walk1 | (dsimp only; walk1) | (leave1; try dsimp only))
    all_goals exact hret _ [] _ _ (by k_asm) (cb_drop (by assumption) (by kcj_all)) (by first | ktn_ord | exact ord_sub (by assumption) (by kcj_all)) ⟨rfl, rfl⟩
  | d c e =>
    obtain ⟨a, t1, t2, k, rfl, hm⟩ := hv.invD
    unfold Sp
    intro p loose mean mg mb dp un gd cn cs a ccd cl outer A₀ base h₀ L m s Q E B F X N T hk hd hu hret
    refine wpAny_call ?_
    k_dflt ktr_enter
    repeat' (first | (k_unfold; (try dsimp only)) | walk1 | (dsimp only; walk1) | (leave1; try dsimp only))
    all_goals exact hret _ [] _ _ (by k_asm) (cb_drop (by assumption) (by kcj_all)) (by first | ktn_ord | exact ord_sub (by assumption) (by kcj_all)) ⟨rfl, rfl⟩
example : True := by ((k_with "call ref" => (k_here; (with_reducible show wpAny _ _ (call (Value.ref 199) _) _ _ _); k_dflt (refine' sp_useV (sp_is_whole _ _ _ _ ?p2zz) ?k1zz ?k2zz ?k3zz ?k4zz ?k5zz ?kKzz ?kdzz ?kuzz ?_); k_extra "u1"; k_extra "u2"; (case p2zz => first | exact numIn_i | exact numIn_d (by k_mem) | exact NumIn.mono (by assumption) (by kcj_all) | assumption); intro h9zz tk9zz F9zz N9zz; dsimp only [Num.isI]; (try dsimp only); (try k_fold))); trivial)
theorem sp_settled (w : World) (n : Int) (t tb td : Tok) (news : Led) (h1 : -32768 ≤ n) (h2 : n < 32768) :
    Sp w 2 24 206 [.int n t, .int 16 tb, .int 9 td] news (fun r tl => (∃ t, r = .int n t) ∧ tl = []) := by
  unfold Sp
  intro p loose mean mg mb dp un gd cn cs a ccd cl outer A₀ base h₀ L m s Q E B F X N T hk hd hu hret
  refine wpAny_call ?_
  k_dflt ktr_enter
  repeat' (first | (k_unfold; (try dsimp only)) | walk1 | (dsimp only; walk1) | (leave1; try dsimp only))
  all_goals exact hret _ [] _ _ (by k_asm) (cb_drop (by assumption) (by kcj_all)) (by first | ktn_ord | exact ord_sub (by assumption) (by kcj_all)) ⟨⟨_, rfl⟩, rfl⟩
example : True := by ((k_with "call ref" => (k_here; (with_reducible show wpAny _ _ (call (Value.ref 206) _) _ _ _); k_dflt (refine' sp_useI (sp_settled _ _ _ _ _ _ ?p1zz ?p2zz) ?k1zz ?k2zz ?k3zz ?k4zz ?k5zz ?kKzz ?kdzz ?kuzz ?_); k_extra "u1"; k_extra "u2"; (case p1zz => omega); (case p2zz => omega); intro h9zz tk9zz F9zz t9zz N9zz; (try dsimp only); (try k_fold))); trivial)
theorem sp_whole_reckoned (w : World) (n m : Int) (ts t u tb td : Tok) (news : Led) (h1 : -32768 ≤ n + m) (h2 : n + m < 32768) :
    Sp w 3 32 213 [.str (Str.ofString "+") ts, .int n t, .int m u, .int 16 tb, .int 9 td] news (fun r tl => (∃ t, r = .int (n + m) t) ∧ tl = []) := by
  unfold Sp
  intro p loose mean mg mb dp un gd cn cs a ccd cl outer A₀ base h₀ L m s Q E B F X N T hk hd hu hret
  refine wpAny_call ?_
  k_dflt ktr_enter
  repeat' (first | (k_unfold; (try dsimp only)) | walk1 | (dsimp only; walk1) | (leave1; try dsimp only))
  all_goals exact hret _ [] _ _ (by k_asm) (cb_drop (by assumption) (by kcj_all)) (by first | ktn_ord | exact ord_sub (by assumption) (by kcj_all)) ⟨⟨_, rfl⟩, rfl⟩
example : True := by ((k_with "call ref" => (k_here; (with_reducible show wpAny _ _ (call (Value.ref 213) _) _ _ _); k_dflt (refine' sp_useI (sp_whole_reckoned _ _ _ _ _ _ _ _ _ ?p1zz ?p2zz) ?k1zz ?k2zz ?k3zz ?k4zz ?k5zz ?kKzz ?kdzz ?kuzz ?_); k_extra "u1"; k_extra "u2"; (case p1zz => omega); (case p2zz => omega); intro h9zz tk9zz F9zz t9zz N9zz; (try dsimp only); (try k_fold))); trivial)
theorem sp_number_told (w : World) (v : Value) (N : Num) (news : Led) (hv : NumIn news v N) :
    Sp w 1 16 276 [v] news (fun r tl => r = v ∧ tl = []) := by
  cases N with
  | i n =>
    obtain ⟨t, rfl⟩ := hv.invI
    unfold Sp
    intro p loose mean mg mb dp un gd cn cs a ccd cl outer A₀ base h₀ L m s Q E B F X N T hk hd hu hret
    refine wpAny_call ?_
    k_dflt ktr_enter
    repeat' (first | (k_unfold; (try dsimp only)) | walk1 | (dsimp only; walk1) | (leave1; try dsimp only))
    all_goals exact hret _ [] _ _ (by k_asm) (cb_drop (by assumption) (by kcj_all)) (by first | ktn_ord | exact ord_sub (by assumption) (by kcj_all)) ⟨rfl, rfl⟩
  | d c e =>
    obtain ⟨a, t1, t2, k, rfl, hm⟩ := hv.invD
    unfold Sp
    intro p loose mean mg mb dp un gd cn cs a ccd cl outer A₀ base h₀ L m s Q E B F X N T hk hd hu hret
    refine wpAny_call ?_
    k_dflt ktr_enter
    repeat' (first | (k_unfold; (try dsimp only)) | walk1 | (dsimp only; walk1) | (leave1; try dsimp only))
    all_goals exact hret _ [] _ _ (by k_asm) (cb_drop (by assumption) (by kcj_all)) (by first | ktn_ord | exact ord_sub (by assumption) (by kcj_all)) ⟨rfl, rfl⟩
example : True := by ((k_with "call ref" => (k_here; (with_reducible show wpAny _ _ (call (Value.ref 276) _) _ _ _); k_dflt (refine' sp_useV (sp_number_told _ _ _ _ ?p2zz) ?k1zz ?k2zz ?k3zz ?k4zz ?k5zz ?kKzz ?kdzz ?kuzz ?_); k_extra "u1"; k_extra "u2"; (case p2zz => first | exact numIn_i | exact numIn_d (by k_mem) | exact NumIn.mono (by assumption) (by kcj_all) | assumption); intro h9zz tk9zz F9zz N9zz; (try dsimp only); (try k_fold))); trivial)
theorem addOk {c e c2 e2 u1 u2 : Int} (h1 : (Num.d c e).units = u1) (h2 : (Num.d c2 e2).units = u2) (hs : -10000 ≤ u1 + u2 ∧ u1 + u2 ≤ 10000) : -10000 ≤ (Num.d c e).units + (Num.d c2 e2).units ∧ (Num.d c e).units + (Num.d c2 e2).units ≤ 10000 := by rw [h1, h2]; exact hs
theorem addEq {c e c1 e1 c2 e2 u1 u2 : Int} (h : (Num.d c e).units = (Num.d c1 e1).units + (Num.d c2 e2).units) (h1 : (Num.d c1 e1).units = u1) (h2 : (Num.d c2 e2).units = u2) : (Num.d c e).units = u1 + u2 := by rw [h, h1, h2]
/-- a number comes back: an int, or a decimal of the ledger -/
def RN (news : Led) (u : Int) (r : Value) (tl : Led) : Prop := ∃ N', NumIn (tl ++ news) r N' ∧ N'.Ok ∧ N'.units = u
theorem RN.int {news : Led} {n u : Int} {t : Tok} (ok : (Num.i n).Ok) (hu : (Num.i n).units = u) : RN news u (.int n t) [] := ⟨.i n, .i, ok, hu⟩
theorem RN.new {news : Led} {u : Int} {a : Addr} {c e : Int} {t1 t2 : Tok} {k : Nat} (ok : (Num.d c e).Ok) (hu : (Num.d c e).units = u) : RN news u (.ref a) [(a, tupO [.int c t1, .int e t2] k)] := ⟨.d c e, (.d (.head _)), ok, hu⟩
theorem RN.old {news : Led} {u : Int} {v : Value} {N : Num} (hv : NumIn news v N) (ok : N.Ok) (hu : N.units = u) : RN news u v [] := ⟨N, hv, ok, hu⟩
theorem RN.dec {news tl : Led} {u : Int} {a : Addr} {c e : Int} {t1 t2 : Tok} {k : Nat} (hm : (a, tupO [.int c t1, .int e t2] k) ∈ tl ++ news) (ok : (Num.d c e).Ok) (hu : (Num.d c e).units = u) : RN news u (.ref a) tl := ⟨.d c e, (.d hm), ok, hu⟩
theorem ok_of_units {n u : Int} (hu : (Num.i n).units = u) (h : -10000 ≤ u ∧ u ≤ 10000) : (Num.i n).Ok := by
  have : (Num.i n).units = 100 * n := rfl
  show -100 ≤ n ∧ n ≤ 100; omega
theorem addII {n m : Int} (hs : -10000 ≤ (Num.i n).units + (Num.i m).units ∧ (Num.i n).units + (Num.i m).units ≤ 10000) : (Num.i (n + m)).Ok ∧ (Num.i (n + m)).units = (Num.i n).units + (Num.i m).units := by
  have e1 : ∀ x, (Num.i x).units = 100 * x := fun _ => rfl
  rw [e1, e1] at hs
  refine ⟨?_, by rw [e1, e1, e1]; omega⟩
  show -100 ≤ n + m ∧ n + m ≤ 100; omega
theorem sp_reckoned (w : World) (v v2 : Value) (N N2 : Num) (ts tb td : Tok) (news : Led) (ok : N.Ok) (ok2 : N2.Ok) (hs : -10000 ≤ N.units + N2.units ∧ N.units + N2.units ≤ 10000) (hv : NumIn news v N) (hv2 : NumIn news v2 N2) :
    Sp w 5 48 255 [.str (Str.ofString "+") ts, v, v2, .int 16 tb, .int 9 td] news (fun r tl => RN news (N.units + N2.units) r tl) := by
  cases N with
  | i n =>
    obtain ⟨t, rfl⟩ := hv.invI
    cases N2 with
    | i n2 =>
      obtain ⟨t2, rfl⟩ := hv2.invI
      have hn := Num.lo ok
      have hm := Num.lo ok2
      unfold Sp
      intro p loose mean mg mb dp un gd cn cs a ccd cl outer A₀ base h₀ L m s Q E B F X N T hk hd hu hret
      refine wpAny_call ?_
      k_dflt ktr_enter
      repeat' (first | (k_unfold; (try dsimp only)) | walk1 | (dsimp only; walk1) | (leave1; try dsimp only))
      all_goals exact hret _ [] _ _ (by k_asm) (cb_drop (by assumption) (by kcj_all)) (by first | ktn_ord | exact ord_sub (by assumption) (by kcj_all)) (RN.int (addII hs).1 (addII hs).2)
    | d c e =>
      obtain ⟨a, t1, t2, k, rfl, hm⟩ := hv2.invD
      unfold Sp
      intro p loose mean mg mb dp un gd cn cs a ccd cl outer A₀ base h₀ L m s Q E B F X N T hk hd hu hret
      refine wpAny_call ?_
      k_dflt ktr_enter
      k_with "add" => exact addOk (by assumption) (by assumption) hs
      repeat' (first | (k_unfold; (try dsimp only)) | walk1 | (dsimp only; walk1) | (leave1; try dsimp only))
      all_goals exact hret _ [_] _ _ (by k_asm) (cb_drop (by assumption) (by kcj_all)) (by first | ktn_ord | exact ord_sub (by assumption) (by kcj_all)) (RN.new (by assumption) (addEq (by assumption) (by assumption) (by assumption)))
  | d c e =>
    obtain ⟨a, t1, t2, k, rfl, hm⟩ := hv.invD
    cases N2 with
    | i n2 =>
      obtain ⟨t3, rfl⟩ := hv2.invI
      unfold Sp
      intro p loose mean mg mb dp un gd cn cs a ccd cl outer A₀ base h₀ L m s Q E B F X N T hk hd hu hret
      refine wpAny_call ?_
      k_dflt ktr_enter
      k_with "add" => exact addOk (by assumption) (by assumption) hs
      repeat' (first | (k_unfold; (try dsimp only)) | walk1 | (dsimp only; walk1) | (leave1; try dsimp only))
      all_goals exact hret _ [_] _ _ (by k_asm) (cb_drop (by assumption) (by kcj_all)) (by first | ktn_ord | exact ord_sub (by assumption) (by kcj_all)) (RN.new (by assumption) (addEq (by assumption) (by assumption) (by assumption)))
    | d c2 e2 =>
      obtain ⟨a2, t3, t4, k2, rfl, hm2⟩ := hv2.invD
      unfold Sp
      intro p loose mean mg mb dp un gd cn cs a ccd cl outer A₀ base h₀ L m s Q E B F X N T hk hd hu hret
      refine wpAny_call ?_
      k_dflt ktr_enter
      k_with "add" => exact addOk (by assumption) (by assumption) hs
      repeat' (first | (k_unfold; (try dsimp only)) | walk1 | (dsimp only; walk1) | (leave1; try dsimp only))
      all_goals exact hret _ [_] _ _ (by k_asm) (cb_drop (by assumption) (by kcj_all)) (by first | ktn_ord | exact ord_sub (by assumption) (by kcj_all)) (RN.new (by assumption) (addEq (by assumption) (by assumption) (by assumption)))
end Mine
end
section
open PySem PySem.W PyProof.Rows
set_option maxRecDepth 100000
set_option maxHeartbeats 8000000
set_option linter.unusedVariables false
namespace Mine
example : True := by (k_with_none; trivial)
example : True := by ((k_with "u1" => ((case k1zz => k_asm); (case k2zz => k_asm); (case k3zz => k_asm); (case k4zz => k_asm); (case k5zz => k_asm))); trivial)
example : True := by ((k_with "u2" => ((case kKzz => first | exact rfl | assumption); (case kdzz => ktr_room); (case kuzz => ktr_units))); trivial)
example : True := by ((k_with "u3" => (intro r9zz tl9zz h9zz tk9zz F9zz N9zz l9zz o9zz; (try dsimp only at o9zz))); trivial)
example : True := by ((k_with "u4" => ((try simp only [List.nil_append, List.cons_append] at N9zz); (try dsimp only); (try k_fold))); trivial)
example : True := by ((k_with "suf" => (first | apply sub_refl | assumption | (refine sub_tail ?_; k_extra "suf") | (refine sub_app ?_; k_extra "suf") | apply sub_nil | (refine sub_appL ?_; k_extra "suf"))); trivial)
example : True := by ((k_with "in" => (first | assumption | apply in_head | (refine in_tail ?_; k_extra "in") | (refine in_app ?_; k_extra "in") | (refine in_appL ?_; k_extra "in"))); trivial)
example : True := by ((k_with "sub" => (first | k_extra "suf" | (refine sub_cons ?_ ?_; (focus k_extra "in"); k_extra "sub") | (refine sub_both ?_ ?_; (focus k_extra "sub"); k_extra "sub") | (refine sub_trans ?_ (by assumption); k_extra "suf"))); trivial)
example : True := by ((k_with "lt0" => (first | assumption | (refine Mine.pickA (by assumption) ?_; intro hz9zz; first | apply hz9zz.1 | (replace hz9zz := hz9zz.2; first | apply hz9zz.1 | (replace hz9zz := hz9zz.2; first | apply hz9zz.1 | (replace hz9zz := hz9zz.2; first | apply hz9zz.1 | (replace hz9zz := hz9zz.2; first | apply hz9zz.1 | (replace hz9zz := hz9zz.2; first | apply hz9zz.1 | (replace hz9zz := hz9zz.2; first | apply hz9zz.1 | (replace hz9zz := hz9zz.2; first | apply hz9zz.1 | (replace hz9zz := hz9zz.2; first | apply hz9zz.1 | (replace hz9zz := hz9zz.2; first | apply hz9zz.1 | (replace hz9zz := hz9zz.2; first | apply hz9zz.1 | (replace hz9zz := hz9zz.2; first | apply hz9zz.1 | (replace hz9zz := hz9zz.2; first | apply hz9zz.1 | (replace hz9zz := hz9zz.2; first | apply hz9zz.1 | apply hz9zz.2)))))))))))))))); trivial)
example : True := by ((k_with "lt1" => (first | apply Mine.sl1 | apply Mine.sl2 | apply Mine.sl3 | apply Mine.sl4 | exact Mine.dn1 (by assumption) | exact Mine.dn2 (by assumption) | exact Mine.dn3 (by assumption) | exact Mine.dn4 (by assumption) | exact Mine.upx (by assumption) (by assumption) | exact Mine.up4 (by assumption) | (refine Nat.lt_trans ?_ (by assumption); first | k_extra "lt0" | exact Mine.dn1 (by assumption) | exact Mine.dn2 (by assumption) | exact Mine.dn3 (by assumption) | exact Mine.dn4 (by assumption) | (refine Nat.lt_trans ?_ (by assumption); k_extra "lt0")))); trivial)
example : True := by ((k_with "LeaveK" => (k_dflt (refine' leaveK_ ?k1zz ?k2zz ?_; (case k1zz => k_asm); (case k2zz => k_asm); k_whole); intro kFzz kNzz; (try dsimp only))); trivial)
example : True := by ((k_with "k_mem" => (first | assumption | (refine' List.mem_append_right _ ?_; k_mem) | (refine' List.mem_append_left _ ?_; k_mem))); trivial)
example : True := by ((k_with "kcj_all" => (k_whole; first | (refine fun pzz hpzz => List.mem_append_right _ ?_; assumption) | (intro pzz hpzz; (simp only [List.mem_append, List.mem_cons, List.not_mem_nil, or_false, false_or] at hpzz ⊢); first | assumption | (simp only [hpzz, true_or, or_true]; done) | grind))); trivial)
example : True := by ((k_with "kcj_all" => (k_whole; with_reducible k_extra "sub")); trivial)
example : True := by ((k_with "call ref" => (k_here; (with_reducible show wpAny _ _ (call (Value.ref 44) _) _ _ _); k_dflt (refine' sp_useF (sp_figures_of _ _ _ _ ?p1zz) ?k1zz ?k2zz ?k3zz ?k4zz ?k5zz ?kKzz ?kdzz ?kuzz ?_); k_extra "u1"; k_extra "u2"; (case p1zz => omega); intro h9zz tk9zz F9zz x9zz t9zz q91zz q92zz N9zz; (try dsimp only); (try k_fold))); trivial)
example : True := by ((k_with "call ref" => (k_here; (with_reducible show wpAny _ _ (call (Value.ref 51) _) _ _ _); k_dflt (refine' sp_useI (sp_rounded_by _ _ _ _ _ _ ?p1zz ?p2zz ?p3zz) ?k1zz ?k2zz ?k3zz ?k4zz ?k5zz ?kKzz ?kdzz ?kuzz ?_); k_extra "u1"; k_extra "u2"; (case p1zz => omega); (case p2zz => omega); (case p3zz => omega); intro h9zz tk9zz F9zz t9zz N9zz; (try dsimp only); (try k_fold))); trivial)
example : True := by ((k_with "call ref" => (k_here; (with_reducible show wpAny _ _ (call (Value.ref 58) _) _ _ _); k_dflt (refine' sp_useD (sp_made _ _ _ _ _ _ _ ?p1zz) ?k1zz ?k2zz ?k3zz ?k4zz ?k5zz ?kKzz ?kdzz ?kuzz ?_); k_extra "u1"; k_extra "u2"; (case p1zz => first | assumption | k_extra "made"); intro h9zz tk9zz F9zz D9zz c9zz e9zz t9zz u9zz q91zz q92zz N9zz l9zz; (try dsimp only); (try k_fold))); trivial)
example : True := by ((k_with "newTuple" => (k_here; k_dflt (refine' kup_newTuple ?Fzz ?Nzz ?_ ?zzz; (case Fzz => k_asm); (case Nzz => k_asm); (case zzz => kmk_size)); intro D'zz h'zz F'zz N'zz l1zz; (try k_lt l1zz); (try k_sweep))); trivial)
example : True := by ((k_with "binaryOp Pow int int" => ((with_reducible refine pow_int_small ?kb1zz ?kb2zz ?kb3zz ?_); (case kb1zz => omega); (case kb2zz => omega); (case kb3zz => decide))); trivial)
example : True := by ((k_with "subscriptTail" => (k_here; (with_reducible show wpAny _ _ (subscriptTail _ _ (Value.ref _) (Value.int _ _)) _ _ _); (with_unfolding_all refine' item_litK ?k1zz ?k2zz ?k3zz ?k4zz ?_ ?k6zz; (case k1zz => exact isListOf (by k_asm) (by k_mem)); (case k2zz => first | decide | omega); (case k3zz => first | decide | omega); (case k4zz => first | rfl | assumption); (case k6zz => with_unfolding_all rfl); k_whole))); trivial)
example : True := by ((k_with "subscriptTail Name Name ref int" => (k_here; (with_reducible show wpAny _ _ (subscriptTail _ _ (Value.ref _) (Value.int _ _)) _ _ _); (with_unfolding_all refine' item_litK ?k1zz ?k2zz ?k3zz ?k4zz ?_ ?k6zz; (case k1zz => exact isListOf (by k_asm) (by k_mem)); (case k2zz => first | decide | omega); (case k3zz => first | decide | omega); (case k4zz => first | rfl | assumption); (case k6zz => with_unfolding_all rfl); k_whole))); trivial)
example : True := by ((k_with "subscriptTail Name Constant ref int" => (k_here; (with_reducible show wpAny _ _ (subscriptTail _ _ (Value.ref _) (Value.int _ _)) _ _ _); (with_unfolding_all refine' item_litK ?k1zz ?k2zz ?k3zz ?k4zz ?_ ?k6zz; (case k1zz => exact isListOf (by k_asm) (by k_mem)); (case k2zz => first | decide | omega); (case k3zz => first | decide | omega); (case k4zz => first | rfl | assumption); (case k6zz => with_unfolding_all rfl); k_whole))); trivial)
example : True := by ((k_with "call ref" => (k_here; (with_reducible show wpAny _ _ (call (Value.ref 72) _) _ _ _); k_dflt (refine' sp_useV (sp_fits _ _ _ _ _ ?p1zz ?p2zz) ?k1zz ?k2zz ?k3zz ?k4zz ?k5zz ?kKzz ?kdzz ?kuzz ?_); k_extra "u1"; k_extra "u2"; (case p1zz => omega); (case p2zz => omega); intro h9zz tk9zz F9zz N9zz; (try dsimp only); (try k_fold))); trivial)
example : True := by ((k_with "call ref" => (k_here; (with_reducible show wpAny _ _ (call (Value.ref 65) _) _ _ _); k_dflt (refine' sp_useI (sp_whole_near _ _ _ _ _ _ _ _ ?p1zz ?p2zz) ?k1zz ?k2zz ?k3zz ?k4zz ?k5zz ?kKzz ?kdzz ?kuzz ?_); k_extra "u1"; k_extra "u2"; (case p2zz => k_mem); (case p1zz => assumption); intro h9zz tk9zz F9zz t9zz N9zz; (try dsimp only); (try k_fold))); trivial)
example : True := by ((k_with "call ref" => (k_here; (with_reducible show wpAny _ _ (call (Value.ref 79) _) _ _ _); k_dflt (refine' sp_useI (sp_whole_of _ _ _ _ _ ?p1zz ?p2zz) ?k1zz ?k2zz ?k3zz ?k4zz ?k5zz ?kKzz ?kdzz ?kuzz ?_); k_extra "u1"; k_extra "u2"; (case p2zz => first | exact numIn_i | exact numIn_d (by k_mem) | exact NumIn.mono (by assumption) (by kcj_all) | assumption); (case p1zz => assumption); intro h9zz tk9zz F9zz t9zz N9zz; (try dsimp only); (try k_fold))); trivial)
example : True := by ((k_with "call ref" => (k_here; (with_reducible show wpAny _ _ (call (Value.ref 93) _) _ _ _); k_dflt (refine' sp_useI (sp_sign_of _ _ _ _ ?p2zz) ?k1zz ?k2zz ?k3zz ?k4zz ?k5zz ?kKzz ?kdzz ?kuzz ?_); k_extra "u1"; k_extra "u2"; (case p2zz => first | exact numIn_i | exact numIn_d (by k_mem) | exact NumIn.mono (by assumption) (by kcj_all) | assumption); intro h9zz tk9zz F9zz t9zz N9zz; (try dsimp only); (try k_fold))); trivial)
example : True := by ((k_with "call ref" => (k_here; (with_reducible show wpAny _ _ (call (Value.ref 86) _) _ _ _); k_dflt (refine' sp_useD (sp_decimal_of _ _ _ _ _ ?p1zz ?p2zz) ?k1zz ?k2zz ?k3zz ?k4zz ?k5zz ?kKzz ?kdzz ?kuzz ?_); k_extra "u1"; k_extra "u2"; (case p2zz => first | exact numIn_i | exact numIn_d (by k_mem) | exact NumIn.mono (by assumption) (by kcj_all) | assumption); (case p1zz => assumption); intro h9zz tk9zz F9zz D9zz c9zz e9zz t9zz u9zz q91zz q92zz N9zz l9zz; (try dsimp only); (try k_fold))); trivial)
example : True := by ((k_with "call ref" => (k_here; (with_reducible show wpAny _ _ (call (Value.ref 101) _) _ _ _); k_dflt (refine' sp_useN (sp_d_negated _ _ _ _ _ _ _ _ ?p1zz) ?k1zz ?k2zz ?k3zz ?k4zz ?k5zz ?kKzz ?kdzz ?kuzz ?_); k_extra "u1"; k_extra "u2"; (case p1zz => k_mem); intro h9zz tk9zz F9zz D9zz t9zz u9zz N9zz l9zz; (try dsimp only); (try k_fold))); trivial)
example : True := by ((k_with "call ref" => (k_here; (with_reducible show wpAny _ _ (call (Value.ref 108) _) _ _ _); k_dflt (refine' sp_useN (sp_d_size _ _ _ _ _ _ _ _ ?p1zz) ?k1zz ?k2zz ?k3zz ?k4zz ?k5zz ?kKzz ?kdzz ?kuzz ?_); k_extra "u1"; k_extra "u2"; (case p1zz => k_mem); intro h9zz tk9zz F9zz D9zz t9zz u9zz N9zz l9zz; (try dsimp only); (try k_fold))); trivial)
example : True := by ((k_with "call ref" => (k_here; (with_reducible show wpAny _ _ (call (Value.ref 115) _) _ _ _); k_dflt (refine' sp_use (sp_alike _ _ _ _ _ _ _ _ _ _ _ _ _ _ ?p1zz ?p2zz ?p3zz ?p4zz) ?k1zz ?k2zz ?k3zz ?k4zz ?k5zz ?kKzz ?kdzz ?kuzz ?_); k_extra "u1"; k_extra "u2"; (case p3zz => k_mem); (case p4zz => k_mem); (case p1zz => assumption); (case p2zz => assumption); k_extra "u3"; obtain ⟨D9zz, x9zz, y9zz, l9'zz, t9zz, u9zz, v9zz, r9zz, f9zz, q91zz, q92zz, q93zz, q94zz⟩ := o9zz; subst r9zz; subst f9zz; k_extra "u4")); trivial)
example : True := by ((k_with "call ref" => (k_here; (with_reducible show wpAny _ _ (call (Value.ref 122) _) _ _ _); k_dflt (refine' sp_useD (sp_d_add _ _ _ _ _ _ _ _ _ _ _ _ _ _ _ ?p1zz ?p2zz ?p5zz ?p3zz ?p4zz) ?k1zz ?k2zz ?k3zz ?k4zz ?k5zz ?kKzz ?kdzz ?kuzz ?_); k_extra "u1"; k_extra "u2"; (case p3zz => k_mem); (case p4zz => k_mem); (case p1zz => assumption); (case p2zz => assumption); (case p5zz => first | assumption | k_extra "add"); intro h9zz tk9zz F9zz D9zz c9zz e9zz t9zz u9zz q91zz q92zz N9zz l9zz; (try dsimp only); (try k_fold))); trivial)
example : True := by ((k_with "call ref" => (k_here; (with_reducible show wpAny _ _ (call (Value.ref 157) _) _ _ _); k_dflt (refine' sp_useI (sp_d_compare _ _ _ _ _ _ _ _ _ _ _ _ _ _ ?p1zz ?p2zz ?p3zz ?p4zz) ?k1zz ?k2zz ?k3zz ?k4zz ?k5zz ?kKzz ?kdzz ?kuzz ?_); k_extra "u1"; k_extra "u2"; (case p3zz => k_mem); (case p4zz => k_mem); (case p1zz => first | assumption | k_extra "cmp"); (case p2zz => first | assumption | k_extra "cmp"); intro h9zz tk9zz F9zz t9zz N9zz; (try dsimp only); (try k_fold))); trivial)
example : True := by ((k_with "call ref" => (k_here; (with_reducible show wpAny _ _ (call (Value.ref 178) _) _ _ _); k_dflt (refine' sp_useI (sp_floor_of _ _ _ _ _ _ _ _ ?p1zz ?p2zz) ?k1zz ?k2zz ?k3zz ?k4zz ?k5zz ?kKzz ?kdzz ?kuzz ?_); k_extra "u1"; k_extra "u2"; (case p2zz => k_mem); (case p1zz => assumption); intro h9zz tk9zz F9zz t9zz N9zz; (try dsimp only); (try k_fold))); trivial)
example : True := by ((k_with "call ref" => (k_here; (with_reducible show wpAny _ _ (call (Value.ref 185) _) _ _ _); k_dflt (refine' sp_use (sp_d_whole _ _ _ _ _ _ _ _ _ ?p1zz ?p2zz) ?k1zz ?k2zz ?k3zz ?k4zz ?k5zz ?kKzz ?kdzz ?kuzz ?_); k_extra "u1"; k_extra "u2"; (case p2zz => k_mem); (case p1zz => first | assumption | k_extra "whole"); k_extra "u3"; obtain ⟨c9zz, e9zz, n9zz, q91zz, q92zz⟩ := o9zz; obtain ⟨a9zz, t9zz, u9zz, k9zz, r9zz, m9zz⟩ := NumIn.invD n9zz; subst r9zz; k_extra "u4")); trivial)
example : True := by ((k_with "call ref" => (k_here; (with_reducible show wpAny _ _ (call (Value.ref 192) _) _ _ _); k_dflt (refine' sp_use (sp_d_fix _ _ _ _ _ _ _ _ _ ?p1zz ?p2zz) ?k1zz ?k2zz ?k3zz ?k4zz ?k5zz ?kKzz ?kdzz ?kuzz ?_); k_extra "u1"; k_extra "u2"; (case p2zz => k_mem); (case p1zz => assumption); k_extra "u3"; obtain ⟨c9zz, e9zz, n9zz, q91zz, q92zz⟩ := o9zz; obtain ⟨a9zz, t9zz, u9zz, k9zz, r9zz, m9zz⟩ := NumIn.invD n9zz; subst r9zz; k_extra "u4")); trivial)
example : True := by ((k_with "call ref" => (k_here; (with_reducible show wpAny _ _ (call (Value.ref 199) _) _ _ _); k_dflt (refine' sp_useV (sp_is_whole _ _ _ _ ?p2zz) ?k1zz ?k2zz ?k3zz ?k4zz ?k5zz ?kKzz ?kdzz ?kuzz ?_); k_extra "u1"; k_extra "u2"; (case p2zz => first | exact numIn_i | exact numIn_d (by k_mem) | exact NumIn.mono (by assumption) (by kcj_all) | assumption); intro h9zz tk9zz F9zz N9zz; dsimp only [Num.isI]; (try dsimp only); (try k_fold))); trivial)
example : True := by ((k_with "call ref" => (k_here; (with_reducible show wpAny _ _ (call (Value.ref 206) _) _ _ _); k_dflt (refine' sp_useI (sp_settled _ _ _ _ _ _ ?p1zz ?p2zz) ?k1zz ?k2zz ?k3zz ?k4zz ?k5zz ?kKzz ?kdzz ?kuzz ?_); k_extra "u1"; k_extra "u2"; (case p1zz => omega); (case p2zz => omega); intro h9zz tk9zz F9zz t9zz N9zz; (try dsimp only); (try k_fold))); trivial)
example : True := by ((k_with "call ref" => (k_here; (with_reducible show wpAny _ _ (call (Value.ref 213) _) _ _ _); k_dflt (refine' sp_useI (sp_whole_reckoned _ _ _ _ _ _ _ _ _ ?p1zz ?p2zz) ?k1zz ?k2zz ?k3zz ?k4zz ?k5zz ?kKzz ?kdzz ?kuzz ?_); k_extra "u1"; k_extra "u2"; (case p1zz => omega); (case p2zz => omega); intro h9zz tk9zz F9zz t9zz N9zz; (try dsimp only); (try k_fold))); trivial)
example : True := by ((k_with "call ref" => (k_here; (with_reducible show wpAny _ _ (call (Value.ref 276) _) _ _ _); k_dflt (refine' sp_useV (sp_number_told _ _ _ _ ?p2zz) ?k1zz ?k2zz ?k3zz ?k4zz ?k5zz ?kKzz ?kdzz ?kuzz ?_); k_extra "u1"; k_extra "u2"; (case p2zz => first | exact numIn_i | exact numIn_d (by k_mem) | exact NumIn.mono (by assumption) (by kcj_all) | assumption); intro h9zz tk9zz F9zz N9zz; (try dsimp only); (try k_fold))); trivial)
example : True := by ((k_with "call ref" => (k_here; (with_reducible show wpAny _ _ (call (Value.ref 255) _) _ _ _); k_dflt (refine' sp_use (sp_reckoned _ _ _ _ _ _ _ _ _ ?p1zz ?p2zz ?p3zz ?p4zz ?p5zz) ?k1zz ?k2zz ?k3zz ?k4zz ?k5zz ?kKzz ?kdzz ?kuzz ?_); k_extra "u1"; k_extra "u2"; (case p4zz => first | exact numIn_i | exact numIn_d (by k_mem) | exact NumIn.mono (by assumption) (by kcj_all) | assumption); (case p5zz => first | exact numIn_i | exact numIn_d (by k_mem) | exact NumIn.mono (by assumption) (by kcj_all) | assumption); (case p1zz => assumption); (case p2zz => assumption); (case p3zz => first | assumption | k_extra "sum"); k_extra "u3"; skip; k_extra "u4")); trivial)
example : True := by ((k_with "getAttr ref" => (k_here; k_dflt (refine' get_own ?k1zz ?k2zz ?k3zz ?k4zz ?k5zz ?k6zz ?k7zz ?k8zz ?k9zz ?_; (case k1zz => k_asm); (case k2zz => k_asm); (case k3zz => k_inst); (case k4zz => k_is); (case k5zz => k_is); (case k6zz => k_is); (case k7zz => k_is); (case k8zz => assumption); (case k9zz => exact rfl); k_whole))); trivial)
def Num.neg : Num → Num
  | .i n => .i (0 - n)
  | .d c e => .d (0 - c) e
/-- this very number comes back -/
def RX (news : Led) (N : Num) (r : Value) (tl : Led) : Prop := NumIn (tl ++ news) r N
theorem RX.int {news : Led} {n : Int} {t : Tok} : RX news (.i n) (.int n t) [] := .i
theorem RX.new {news : Led} {a : Addr} {c e : Int} {t1 t2 : Tok} {k : Nat} : RX news (.d c e) (.ref a) [(a, tupO [.int c t1, .int e t2] k)] := .d (.head _)
theorem sp_negated (w : World) (v : Value) (N : Num) (tb td : Tok) (news : Led) (ok : N.Ok) (hv : NumIn news v N) :
    Sp w 3 32 262 [v, .int 16 tb, .int 9 td] news (fun r tl => RX news N.neg r tl) := by
  cases N with
  | i n =>
    obtain ⟨t, rfl⟩ := hv.invI
    have hn := Num.lo ok
    unfold Sp
    intro p loose mean mg mb dp un gd cn cs a ccd cl outer A₀ base h₀ L m s Q E B F X N T hk hd hu hret
    refine wpAny_call ?_
    k_dflt ktr_enter
    repeat' (first | (k_unfold; (try dsimp only)) | walk1 | (dsimp only; walk1) | (leave1; try dsimp only))
    all_goals exact hret _ [] _ _ (by k_asm) (cb_drop (by assumption) (by kcj_all)) (by first | ktn_ord | exact ord_sub (by assumption) (by kcj_all)) RX.int
  | d c e =>
    obtain ⟨a, t1, t2, k, rfl, hm⟩ := hv.invD
    unfold Sp
    intro p loose mean mg mb dp un gd cn cs a ccd cl outer A₀ base h₀ L m s Q E B F X N T hk hd hu hret
    refine wpAny_call ?_
    k_dflt ktr_enter
    repeat' (first | (k_unfold; (try dsimp only)) | walk1 | (dsimp only; walk1) | (leave1; try dsimp only))
    all_goals exact hret _ [_] _ _ (by k_asm) (cb_drop (by assumption) (by kcj_all)) (by first | ktn_ord | exact ord_sub (by assumption) (by kcj_all)) RX.new
theorem icmpI {n m : Int} : b2i (decide (m < n)) - b2i (decide (n < m)) = icmp (Num.i n).units (Num.i m).units := by
  unfold icmp
  have e : ∀ x, (Num.i x).units = 100 * x := fun _ => rfl
  rw [e, e, b2iC (show m < n ↔ 100 * m < 100 * n by omega), b2iC (show n < m ↔ 100 * n < 100 * m by omega)]
theorem sp_order_of (w : World) (v v2 : Value) (N N2 : Num) (news : Led) (ok : N.Ok) (ok2 : N2.Ok) (hv : NumIn news v N) (hv2 : NumIn news v2 N2) :
    Sp w 3 32 269 [v, v2] news (fun r tl => (∃ t, r = .int (icmp N.units N2.units) t) ∧ tl = []) := by
  cases N with
  | i n =>
    obtain ⟨t, rfl⟩ := hv.invI
    have hn := okI ok
    cases N2 with
    | i n2 =>
      obtain ⟨t2, rfl⟩ := hv2.invI
      unfold Sp
      intro p loose mean mg mb dp un gd cn cs a ccd cl outer A₀ base h₀ L m s Q E B F X N T hk hd hu hret
      refine wpAny_call ?_
      k_dflt ktr_enter
      repeat' (first | (k_unfold; (try dsimp only)) | walk1 | (dsimp only; walk1) | (leave1; try dsimp only))
      all_goals exact hret _ [] _ _ (by k_asm) (cb_drop (by assumption) (by kcj_all)) (by first | ktn_ord | exact ord_sub (by assumption) (by kcj_all)) ⟨⟨_, congrArg (fun z => Value.int z _) icmpI⟩, rfl⟩
    | d c e =>
      obtain ⟨a, t1, t2, k, rfl, hm⟩ := hv2.invD
      unfold Sp
      intro p loose mean mg mb dp un gd cn cs a ccd cl outer A₀ base h₀ L m s Q E B F X N T hk hd hu hret
      refine wpAny_call ?_
      k_dflt ktr_enter
      repeat' (first | (k_unfold; (try dsimp only)) | walk1 | (dsimp only; walk1) | (leave1; try dsimp only))
      all_goals exact hret _ [] _ _ (by k_asm) (cb_drop (by assumption) (by kcj_all)) (by first | ktn_ord | exact ord_sub (by assumption) (by kcj_all)) ⟨⟨_, congrArg (fun z => Value.int z _) (by rw [unitsI])⟩, rfl⟩
  | d c e =>
    obtain ⟨a, t1, t2, k, rfl, hm⟩ := hv.invD
    cases N2 with
    | i n2 =>
      obtain ⟨t3, rfl⟩ := hv2.invI
      have hn := okI ok2
      unfold Sp
      intro p loose mean mg mb dp un gd cn cs a ccd cl outer A₀ base h₀ L m s Q E B F X N T hk hd hu hret
      refine wpAny_call ?_
      k_dflt ktr_enter
      repeat' (first | (k_unfold; (try dsimp only)) | walk1 | (dsimp only; walk1) | (leave1; try dsimp only))
      all_goals exact hret _ [] _ _ (by k_asm) (cb_drop (by assumption) (by kcj_all)) (by first | ktn_ord | exact ord_sub (by assumption) (by kcj_all)) ⟨⟨_, congrArg (fun z => Value.int z _) (by rw [unitsI])⟩, rfl⟩
    | d c2 e2 =>
      obtain ⟨a2, t3, t4, k2, rfl, hm2⟩ := hv2.invD
      unfold Sp
      intro p loose mean mg mb dp un gd cn cs a ccd cl outer A₀ base h₀ L m s Q E B F X N T hk hd hu hret
      refine wpAny_call ?_
      k_dflt ktr_enter
      repeat' (first | (k_unfold; (try dsimp only)) | walk1 | (dsimp only; walk1) | (leave1; try dsimp only))
      all_goals exact hret _ [] _ _ (by k_asm) (cb_drop (by assumption) (by kcj_all)) (by first | ktn_ord | exact ord_sub (by assumption) (by kcj_all)) ⟨⟨_, rfl⟩, rfl⟩
example : True := by ((k_with "call ref" => (k_here; (with_reducible show wpAny _ _ (call (Value.ref 269) _) _ _ _); k_dflt (refine' sp_useI (sp_order_of _ _ _ _ _ _ ?p1zz ?p2zz ?p3zz ?p4zz) ?k1zz ?k2zz ?k3zz ?k4zz ?k5zz ?kKzz ?kdzz ?kuzz ?_); k_extra "u1"; k_extra "u2"; (case p3zz => first | exact numIn_i | exact numIn_d (by k_mem) | assumption | exact NumIn.mono (by assumption) (by kcj_all)); (case p4zz => first | exact numIn_i | exact numIn_d (by k_mem) | assumption | exact NumIn.mono (by assumption) (by kcj_all)); (case p1zz => assumption); (case p2zz => assumption); intro h9zz tk9zz F9zz t9zz N9zz; (try dsimp only); (try k_fold))); trivial)
theorem unitsP {c e : Int} (ok : (Num.d c e).Ok) : c * 10 ^ (e + 2).toNat = (Num.d c e).units := by
  have h1 := ok.1
  have h2 := ok.2.1
  rcases fiveE h1 h2 with rfl | rfl | rfl | rfl | rfl <;> first | (simp [Num.units]; done) | (simp [Num.units]; omega)
theorem sp_units (w : World) (v : Value) (N : Num) (news : Led) (ok : N.Ok) (hv : NumIn news v N) :
    Sp w 1 16 368 [v] news (fun r tl => (∃ t, r = .int N.units t) ∧ tl = []) := by
  cases N with
  | i n =>
    obtain ⟨t, rfl⟩ := hv.invI
    have hn := Num.lo ok
    unfold Sp
    intro p loose mean mg mb dp un gd cn cs a ccd cl outer A₀ base h₀ L m s Q E B F X N T hk hd hu hret
    refine wpAny_call ?_
    k_dflt ktr_enter
    repeat' (first | (k_unfold; (try dsimp only)) | walk1 | (dsimp only; walk1) | (leave1; try dsimp only))
    all_goals exact hret _ [] _ _ (by k_asm) (cb_drop (by assumption) (by kcj_all)) (by first | ktn_ord | exact ord_sub (by assumption) (by kcj_all)) ⟨⟨_, rfl⟩, rfl⟩
  | d c e =>
    obtain ⟨a, t1, t2, k, rfl, hm⟩ := hv.invD
    have hc := units_le ok
    have he : -2 ≤ e ∧ e ≤ 2 := ⟨ok.1, ok.2.1⟩
    unfold Sp
    intro p loose mean mg mb dp un gd cn cs a ccd cl outer A₀ base h₀ L m s Q E B F X N T hk hd hu hret
    refine wpAny_call ?_
    k_dflt ktr_enter
    repeat' (first | (k_unfold; (try dsimp only)) | walk1 | (dsimp only; walk1) | (leave1; try dsimp only))
    all_goals exact hret _ [] _ _ (by k_asm) (cb_drop (by assumption) (by kcj_all)) (by first | ktn_ord | exact ord_sub (by assumption) (by kcj_all)) ⟨⟨_, congrArg (fun z => Value.int z _) (unitsP ok)⟩, rfl⟩
theorem lnOk {q : Int} (h1 : -200 ≤ q) (h2 : q ≤ 200) : (Num.d (25 * q) (0 - 2)).Ok := by
  have e : (Num.d (25 * q) (0 - 2)).units = 25 * q := by simp [Num.units]
  exact ⟨by decide, by decide, by rw [e]; omega, by rw [e]; omega⟩
theorem lnU {q : Int} : (Num.d (25 * q) (0 - 2)).units = 25 * q := by simp [Num.units]
theorem lnI {q : Int} (h1 : -200 ≤ q) (h2 : q ≤ 200) (h : q.fmod 4 = 0) : (Num.i (q.fdiv 4)).Ok ∧ (Num.i (q.fdiv 4)).units = 25 * q := by
  rw [Int.fmod_eq_emod_of_nonneg _ (by decide)] at h
  rw [Int.fdiv_eq_ediv_of_nonneg _ (by decide)]
  refine ⟨?_, ?_⟩
  · show -100 ≤ q / 4 ∧ q / 4 ≤ 100; omega
  · show 100 * (q / 4) = 25 * q; omega
theorem sp_law_number (w : World) (q : Int) (b : Bool) (t : Tok) (news : Led) (h1 : -200 ≤ q) (h2 : q ≤ 200) :
    Sp w 4 40 361 [.int q t, .bool b] news (fun r tl => RN news (25 * q) r tl) := by
  unfold Sp
  intro p loose mean mg mb dp un gd cn cs a ccd cl outer A₀ base h₀ L m s Q E B F X N T hk hd hu hret
  refine wpAny_call ?_
  k_dflt ktr_enter
  k_with "made" => exact lnOk (by assumption) (by assumption)
  repeat' (first | (k_unfold; (try dsimp only)) | walk1 | (dsimp only; walk1) | (leave1; try dsimp only))
  all_goals first
    | exact hret _ [_] _ _ (by k_asm) (cb_drop (by assumption) (by kcj_all)) (by first | ktn_ord | exact ord_sub (by assumption) (by kcj_all)) (RN.new (by assumption) ((by assumption : (Num.d _ _).units = (Num.d _ _).units).trans lnU))
    | exact hret _ [] _ _ (by k_asm) (cb_drop (by assumption) (by kcj_all)) ktn_ord0 (RN.int (lnI h1 h2 (by assumption)).1 (lnI h1 h2 (by assumption)).2)
end Mine
end
section
open PySem PySem.W PyProof.Rows
set_option maxRecDepth 100000
set_option maxHeartbeats 8000000
set_option linter.unusedVariables false
namespace Mine
example : True := by (k_with_none; trivial)
example : True := by ((k_with "u1" => ((case k1zz => k_asm); (case k2zz => k_asm); (case k3zz => k_asm); (case k4zz => k_asm); (case k5zz => k_asm))); trivial)
example : True := by ((k_with "u2" => ((case kKzz => first | exact rfl | assumption); (case kdzz => ktr_room); (case kuzz => ktr_units))); trivial)
example : True := by ((k_with "u3" => (intro r9zz tl9zz h9zz tk9zz F9zz N9zz l9zz o9zz; (try dsimp only at o9zz))); trivial)
example : True := by ((k_with "u4" => ((try simp only [List.nil_append, List.cons_append] at N9zz); (try dsimp only); (try k_fold))); trivial)
example : True := by ((k_with "suf" => (first | apply sub_refl | assumption | (refine sub_tail ?_; k_extra "suf") | (refine sub_app ?_; k_extra "suf") | apply sub_nil | (refine sub_appL ?_; k_extra "suf"))); trivial)
example : True := by ((k_with "in" => (first | assumption | apply in_head | (refine in_tail ?_; k_extra "in") | (refine in_app ?_; k_extra "in") | (refine in_appL ?_; k_extra "in"))); trivial)
example : True := by ((k_with "sub" => (first | k_extra "suf" | (refine sub_cons ?_ ?_; (focus k_extra "in"); k_extra "sub") | (refine sub_both ?_ ?_; (focus k_extra "sub"); k_extra "sub") | (refine sub_trans ?_ (by assumption); k_extra "suf"))); trivial)
example : True := by ((k_with "lt0" => (first | assumption | (refine Mine.pickA (by assumption) ?_; intro hz9zz; first | apply hz9zz.1 | (replace hz9zz := hz9zz.2; first | apply hz9zz.1 | (replace hz9zz := hz9zz.2; first | apply hz9zz.1 | (replace hz9zz := hz9zz.2; first | apply hz9zz.1 | (replace hz9zz := hz9zz.2; first | apply hz9zz.1 | (replace hz9zz := hz9zz.2; first | apply hz9zz.1 | (replace hz9zz := hz9zz.2; first | apply hz9zz.1 | (replace hz9zz := hz9zz.2; first | apply hz9zz.1 | (replace hz9zz := hz9zz.2; first | apply hz9zz.1 | (replace hz9zz := hz9zz.2; first | apply hz9zz.1 | (replace hz9zz := hz9zz.2; first | apply hz9zz.1 | (replace hz9zz := hz9zz.2; first | apply hz9zz.1 | (replace hz9zz := hz9zz.2; first | apply hz9zz.1 | (replace hz9zz := hz9zz.2; first | apply hz9zz.1 | apply hz9zz.2)))))))))))))))); trivial)
example : True := by ((k_with "lt1" => (first | apply Mine.sl1 | apply Mine.sl2 | apply Mine.sl3 | apply Mine.sl4 | exact Mine.dn1 (by assumption) | exact Mine.dn2 (by assumption) | exact Mine.dn3 (by assumption) | exact Mine.dn4 (by assumption) | exact Mine.upx (by assumption) (by assumption) | exact Mine.up4 (by assumption) | (refine Nat.lt_trans ?_ (by assumption); first | k_extra "lt0" | exact Mine.dn1 (by assumption) | exact Mine.dn2 (by assumption) | exact Mine.dn3 (by assumption) | exact Mine.dn4 (by assumption) | (refine Nat.lt_trans ?_ (by assumption); k_extra "lt0")))); trivial)
example : True := by ((k_with "LeaveK" => (k_dflt (refine' leaveK_ ?k1zz ?k2zz ?_; (case k1zz => k_asm); (case k2zz => k_asm); k_whole); intro kFzz kNzz; (try dsimp only))); trivial)
example : True := by ((k_with "k_mem" => (first | assumption | (refine' List.mem_append_right _ ?_; k_mem) | (refine' List.mem_append_left _ ?_; k_mem))); trivial)
example : True := by ((k_with "kcj_all" => (k_whole; first | (refine fun pzz hpzz => List.mem_append_right _ ?_; assumption) | (intro pzz hpzz; (simp only [List.mem_append, List.mem_cons, List.not_mem_nil, or_false, false_or] at hpzz ⊢); first | assumption | (simp only [hpzz, true_or, or_true]; done) | grind))); trivial)
example : True := by ((k_with "kcj_all" => (k_whole; with_reducible k_extra "sub")); trivial)
example : True := by ((k_with "call ref" => (k_here; (with_reducible show wpAny _ _ (call (Value.ref 44) _) _ _ _); k_dflt (refine' sp_useF (sp_figures_of _ _ _ _ ?p1zz) ?k1zz ?k2zz ?k3zz ?k4zz ?k5zz ?kKzz ?kdzz ?kuzz ?_); k_extra "u1"; k_extra "u2"; (case p1zz => omega); intro h9zz tk9zz F9zz x9zz t9zz q91zz q92zz N9zz; (try dsimp only); (try k_fold))); trivial)
example : True := by ((k_with "call ref" => (k_here; (with_reducible show wpAny _ _ (call (Value.ref 51) _) _ _ _); k_dflt (refine' sp_useI (sp_rounded_by _ _ _ _ _ _ ?p1zz ?p2zz ?p3zz) ?k1zz ?k2zz ?k3zz ?k4zz ?k5zz ?kKzz ?kdzz ?kuzz ?_); k_extra "u1"; k_extra "u2"; (case p1zz => omega); (case p2zz => omega); (case p3zz => omega); intro h9zz tk9zz F9zz t9zz N9zz; (try dsimp only); (try k_fold))); trivial)
example : True := by ((k_with "call ref" => (k_here; (with_reducible show wpAny _ _ (call (Value.ref 58) _) _ _ _); k_dflt (refine' sp_useD (sp_made _ _ _ _ _ _ _ ?p1zz) ?k1zz ?k2zz ?k3zz ?k4zz ?k5zz ?kKzz ?kdzz ?kuzz ?_); k_extra "u1"; k_extra "u2"; (case p1zz => first | assumption | k_extra "made"); intro h9zz tk9zz F9zz D9zz c9zz e9zz t9zz u9zz q91zz q92zz N9zz l9zz; (try dsimp only); (try k_fold))); trivial)
example : True := by ((k_with "newTuple" => (k_here; k_dflt (refine' kup_newTuple ?Fzz ?Nzz ?_ ?zzz; (case Fzz => k_asm); (case Nzz => k_asm); (case zzz => kmk_size)); intro D'zz h'zz F'zz N'zz l1zz; (try k_lt l1zz); (try k_sweep))); trivial)
example : True := by ((k_with "binaryOp Pow int int" => ((with_reducible refine pow_int_small ?kb1zz ?kb2zz ?kb3zz ?_); (case kb1zz => omega); (case kb2zz => omega); (case kb3zz => decide))); trivial)
example : True := by ((k_with "subscriptTail" => (k_here; (with_reducible show wpAny _ _ (subscriptTail _ _ (Value.ref _) (Value.int _ _)) _ _ _); (with_unfolding_all refine' item_litK ?k1zz ?k2zz ?k3zz ?k4zz ?_ ?k6zz; (case k1zz => exact isListOf (by k_asm) (by k_mem)); (case k2zz => first | decide | omega); (case k3zz => first | decide | omega); (case k4zz => first | rfl | assumption); (case k6zz => with_unfolding_all rfl); k_whole))); trivial)
example : True := by ((k_with "subscriptTail Name Name ref int" => (k_here; (with_reducible show wpAny _ _ (subscriptTail _ _ (Value.ref _) (Value.int _ _)) _ _ _); (with_unfolding_all refine' item_litK ?k1zz ?k2zz ?k3zz ?k4zz ?_ ?k6zz; (case k1zz => exact isListOf (by k_asm) (by k_mem)); (case k2zz => first | decide | omega); (case k3zz => first | decide | omega); (case k4zz => first | rfl | assumption); (case k6zz => with_unfolding_all rfl); k_whole))); trivial)
example : True := by ((k_with "subscriptTail Name Constant ref int" => (k_here; (with_reducible show wpAny _ _ (subscriptTail _ _ (Value.ref _) (Value.int _ _)) _ _ _); (with_unfolding_all refine' item_litK ?k1zz ?k2zz ?k3zz ?k4zz ?_ ?k6zz; (case k1zz => exact isListOf (by k_asm) (by k_mem)); (case k2zz => first | decide | omega); (case k3zz => first | decide | omega); (case k4zz => first | rfl | assumption); (case k6zz => with_unfolding_all rfl); k_whole))); trivial)
example : True := by ((k_with "call ref" => (k_here; (with_reducible show wpAny _ _ (call (Value.ref 72) _) _ _ _); k_dflt (refine' sp_useV (sp_fits _ _ _ _ _ ?p1zz ?p2zz) ?k1zz ?k2zz ?k3zz ?k4zz ?k5zz ?kKzz ?kdzz ?kuzz ?_); k_extra "u1"; k_extra "u2"; (case p1zz => omega); (case p2zz => omega); intro h9zz tk9zz F9zz N9zz; (try dsimp only); (try k_fold))); trivial)
example : True := by ((k_with "call ref" => (k_here; (with_reducible show wpAny _ _ (call (Value.ref 65) _) _ _ _); k_dflt (refine' sp_useI (sp_whole_near _ _ _ _ _ _ _ _ ?p1zz ?p2zz) ?k1zz ?k2zz ?k3zz ?k4zz ?k5zz ?kKzz ?kdzz ?kuzz ?_); k_extra "u1"; k_extra "u2"; (case p2zz => k_mem); (case p1zz => assumption); intro h9zz tk9zz F9zz t9zz N9zz; (try dsimp only); (try k_fold))); trivial)
example : True := by ((k_with "call ref" => (k_here; (with_reducible show wpAny _ _ (call (Value.ref 79) _) _ _ _); k_dflt (refine' sp_useI (sp_whole_of _ _ _ _ _ ?p1zz ?p2zz) ?k1zz ?k2zz ?k3zz ?k4zz ?k5zz ?kKzz ?kdzz ?kuzz ?_); k_extra "u1"; k_extra "u2"; (case p2zz => first | exact numIn_i | exact numIn_d (by k_mem) | exact NumIn.mono (by assumption) (by kcj_all) | assumption); (case p1zz => assumption); intro h9zz tk9zz F9zz t9zz N9zz; (try dsimp only); (try k_fold))); trivial)
example : True := by ((k_with "call ref" => (k_here; (with_reducible show wpAny _ _ (call (Value.ref 93) _) _ _ _); k_dflt (refine' sp_useI (sp_sign_of _ _ _ _ ?p2zz) ?k1zz ?k2zz ?k3zz ?k4zz ?k5zz ?kKzz ?kdzz ?kuzz ?_); k_extra "u1"; k_extra "u2"; (case p2zz => first | exact numIn_i | exact numIn_d (by k_mem) | exact NumIn.mono (by assumption) (by kcj_all) | assumption); intro h9zz tk9zz F9zz t9zz N9zz; (try dsimp only); (try k_fold))); trivial)
example : True := by ((k_with "call ref" => (k_here; (with_reducible show wpAny _ _ (call (Value.ref 86) _) _ _ _); k_dflt (refine' sp_useD (sp_decimal_of _ _ _ _ _ ?p1zz ?p2zz) ?k1zz ?k2zz ?k3zz ?k4zz ?k5zz ?kKzz ?kdzz ?kuzz ?_); k_extra "u1"; k_extra "u2"; (case p2zz => first | exact numIn_i | exact numIn_d (by k_mem) | exact NumIn.mono (by assumption) (by kcj_all) | assumption); (case p1zz => assumption); intro h9zz tk9zz F9zz D9zz c9zz e9zz t9zz u9zz q91zz q92zz N9zz l9zz; (try dsimp only); (try k_fold))); trivial)
example : True := by ((k_with "call ref" => (k_here; (with_reducible show wpAny _ _ (call (Value.ref 101) _) _ _ _); k_dflt (refine' sp_useN (sp_d_negated _ _ _ _ _ _ _ _ ?p1zz) ?k1zz ?k2zz ?k3zz ?k4zz ?k5zz ?kKzz ?kdzz ?kuzz ?_); k_extra "u1"; k_extra "u2"; (case p1zz => k_mem); intro h9zz tk9zz F9zz D9zz t9zz u9zz N9zz l9zz; (try dsimp only); (try k_fold))); trivial)
example : True := by ((k_with "call ref" => (k_here; (with_reducible show wpAny _ _ (call (Value.ref 108) _) _ _ _); k_dflt (refine' sp_useN (sp_d_size _ _ _ _ _ _ _ _ ?p1zz) ?k1zz ?k2zz ?k3zz ?k4zz ?k5zz ?kKzz ?kdzz ?kuzz ?_); k_extra "u1"; k_extra "u2"; (case p1zz => k_mem); intro h9zz tk9zz F9zz D9zz t9zz u9zz N9zz l9zz; (try dsimp only); (try k_fold))); trivial)
example : True := by ((k_with "call ref" => (k_here; (with_reducible show wpAny _ _ (call (Value.ref 115) _) _ _ _); k_dflt (refine' sp_use (sp_alike _ _ _ _ _ _ _ _ _ _ _ _ _ _ ?p1zz ?p2zz ?p3zz ?p4zz) ?k1zz ?k2zz ?k3zz ?k4zz ?k5zz ?kKzz ?kdzz ?kuzz ?_); k_extra "u1"; k_extra "u2"; (case p3zz => k_mem); (case p4zz => k_mem); (case p1zz => assumption); (case p2zz => assumption); k_extra "u3"; obtain ⟨D9zz, x9zz, y9zz, l9'zz, t9zz, u9zz, v9zz, r9zz, f9zz, q91zz, q92zz, q93zz, q94zz⟩ := o9zz; subst r9zz; subst f9zz; k_extra "u4")); trivial)
example : True := by ((k_with "call ref" => (k_here; (with_reducible show wpAny _ _ (call (Value.ref 122) _) _ _ _); k_dflt (refine' sp_useD (sp_d_add _ _ _ _ _ _ _ _ _ _ _ _ _ _ _ ?p1zz ?p2zz ?p5zz ?p3zz ?p4zz) ?k1zz ?k2zz ?k3zz ?k4zz ?k5zz ?kKzz ?kdzz ?kuzz ?_); k_extra "u1"; k_extra "u2"; (case p3zz => k_mem); (case p4zz => k_mem); (case p1zz => assumption); (case p2zz => assumption); (case p5zz => first | assumption | k_extra "add"); intro h9zz tk9zz F9zz D9zz c9zz e9zz t9zz u9zz q91zz q92zz N9zz l9zz; (try dsimp only); (try k_fold))); trivial)
example : True := by ((k_with "call ref" => (k_here; (with_reducible show wpAny _ _ (call (Value.ref 157) _) _ _ _); k_dflt (refine' sp_useI (sp_d_compare _ _ _ _ _ _ _ _ _ _ _ _ _ _ ?p1zz ?p2zz ?p3zz ?p4zz) ?k1zz ?k2zz ?k3zz ?k4zz ?k5zz ?kKzz ?kdzz ?kuzz ?_); k_extra "u1"; k_extra "u2"; (case p3zz => k_mem); (case p4zz => k_mem); (case p1zz => first | assumption | k_extra "cmp"); (case p2zz => first | assumption | k_extra "cmp"); intro h9zz tk9zz F9zz t9zz N9zz; (try dsimp only); (try k_fold))); trivial)
example : True := by ((k_with "call ref" => (k_here; (with_reducible show wpAny _ _ (call (Value.ref 178) _) _ _ _); k_dflt (refine' sp_useI (sp_floor_of _ _ _ _ _ _ _ _ ?p1zz ?p2zz) ?k1zz ?k2zz ?k3zz ?k4zz ?k5zz ?kKzz ?kdzz ?kuzz ?_); k_extra "u1"; k_extra "u2"; (case p2zz => k_mem); (case p1zz => assumption); intro h9zz tk9zz F9zz t9zz N9zz; (try dsimp only); (try k_fold))); trivial)
example : True := by ((k_with "call ref" => (k_here; (with_reducible show wpAny _ _ (call (Value.ref 185) _) _ _ _); k_dflt (refine' sp_use (sp_d_whole _ _ _ _ _ _ _ _ _ ?p1zz ?p2zz) ?k1zz ?k2zz ?k3zz ?k4zz ?k5zz ?kKzz ?kdzz ?kuzz ?_); k_extra "u1"; k_extra "u2"; (case p2zz => k_mem); (case p1zz => first | assumption | k_extra "whole"); k_extra "u3"; obtain ⟨c9zz, e9zz, n9zz, q91zz, q92zz⟩ := o9zz; obtain ⟨a9zz, t9zz, u9zz, k9zz, r9zz, m9zz⟩ := NumIn.invD n9zz; subst r9zz; k_extra "u4")); trivial)
example : True := by ((k_with "call ref" => (k_here; (with_reducible show wpAny _ _ (call (Value.ref 192) _) _ _ _); k_dflt (refine' sp_use (sp_d_fix _ _ _ _ _ _ _ _ _ ?p1zz ?p2zz) ?k1zz ?k2zz ?k3zz ?k4zz ?k5zz ?kKzz ?kdzz ?kuzz ?_); k_extra "u1"; k_extra "u2"; (case p2zz => k_mem); (case p1zz => assumption); k_extra "u3"; obtain ⟨c9zz, e9zz, n9zz, q91zz, q92zz⟩ := o9zz; obtain ⟨a9zz, t9zz, u9zz, k9zz, r9zz, m9zz⟩ := NumIn.invD n9zz; subst r9zz; k_extra "u4")); trivial)
example : True := by ((k_with "call ref" => (k_here; (with_reducible show wpAny _ _ (call (Value.ref 199) _) _ _ _); k_dflt (refine' sp_useV (sp_is_whole _ _ _ _ ?p2zz) ?k1zz ?k2zz ?k3zz ?k4zz ?k5zz ?kKzz ?kdzz ?kuzz ?_); k_extra "u1"; k_extra "u2"; (case p2zz => first | exact numIn_i | exact numIn_d (by k_mem) | exact NumIn.mono (by assumption) (by kcj_all) | assumption); intro h9zz tk9zz F9zz N9zz; dsimp only [Num.isI]; (try dsimp only); (try k_fold))); trivial)
example : True := by ((k_with "call ref" => (k_here; (with_reducible show wpAny _ _ (call (Value.ref 206) _) _ _ _); k_dflt (refine' sp_useI (sp_settled _ _ _ _ _ _ ?p1zz ?p2zz) ?k1zz ?k2zz ?k3zz ?k4zz ?k5zz ?kKzz ?kdzz ?kuzz ?_); k_extra "u1"; k_extra "u2"; (case p1zz => omega); (case p2zz => omega); intro h9zz tk9zz F9zz t9zz N9zz; (try dsimp only); (try k_fold))); trivial)
example : True := by ((k_with "call ref" => (k_here; (with_reducible show wpAny _ _ (call (Value.ref 213) _) _ _ _); k_dflt (refine' sp_useI (sp_whole_reckoned _ _ _ _ _ _ _ _ _ ?p1zz ?p2zz) ?k1zz ?k2zz ?k3zz ?k4zz ?k5zz ?kKzz ?kdzz ?kuzz ?_); k_extra "u1"; k_extra "u2"; (case p1zz => omega); (case p2zz => omega); intro h9zz tk9zz F9zz t9zz N9zz; (try dsimp only); (try k_fold))); trivial)
example : True := by ((k_with "call ref" => (k_here; (with_reducible show wpAny _ _ (call (Value.ref 276) _) _ _ _); k_dflt (refine' sp_useV (sp_number_told _ _ _ _ ?p2zz) ?k1zz ?k2zz ?k3zz ?k4zz ?k5zz ?kKzz ?kdzz ?kuzz ?_); k_extra "u1"; k_extra "u2"; (case p2zz => first | exact numIn_i | exact numIn_d (by k_mem) | exact NumIn.mono (by assumption) (by kcj_all) | assumption); intro h9zz tk9zz F9zz N9zz; (try dsimp only); (try k_fold))); trivial)
example : True := by ((k_with "call ref" => (k_here; (with_reducible show wpAny _ _ (call (Value.ref 255) _) _ _ _); k_dflt (refine' sp_use (sp_reckoned _ _ _ _ _ _ _ _ _ ?p1zz ?p2zz ?p3zz ?p4zz ?p5zz) ?k1zz ?k2zz ?k3zz ?k4zz ?k5zz ?kKzz ?kdzz ?kuzz ?_); k_extra "u1"; k_extra "u2"; (case p4zz => first | exact numIn_i | exact numIn_d (by k_mem) | exact NumIn.mono (by assumption) (by kcj_all) | assumption); (case p5zz => first | exact numIn_i | exact numIn_d (by k_mem) | exact NumIn.mono (by assumption) (by kcj_all) | assumption); (case p1zz => assumption); (case p2zz => assumption); (case p3zz => first | assumption | k_extra "sum"); k_extra "u3"; skip; k_extra "u4")); trivial)
example : True := by ((k_with "getAttr ref" => (k_here; k_dflt (refine' get_own ?k1zz ?k2zz ?k3zz ?k4zz ?k5zz ?k6zz ?k7zz ?k8zz ?k9zz ?_; (case k1zz => k_asm); (case k2zz => k_asm); (case k3zz => k_inst); (case k4zz => k_is); (case k5zz => k_is); (case k6zz => k_is); (case k7zz => k_is); (case k8zz => assumption); (case k9zz => exact rfl); k_whole))); trivial)
example : True := by ((k_with "call ref" => (k_here; (with_reducible show wpAny _ _ (call (Value.ref 262) _) _ _ _); k_dflt (refine' sp_use (sp_negated _ _ _ _ _ _ ?p1zz ?p2zz) ?k1zz ?k2zz ?k3zz ?k4zz ?k5zz ?kKzz ?kdzz ?kuzz ?_); k_extra "u1"; k_extra "u2"; (case p2zz => first | assumption | exact NumIn.mono (by assumption) (by kcj_all)); (case p1zz => assumption); k_extra "u3"; skip; k_extra "u4")); trivial)
example : True := by ((k_with "call ref" => (k_here; (with_reducible show wpAny _ _ (call (Value.ref 269) _) _ _ _); k_dflt (refine' sp_useI (sp_order_of _ _ _ _ _ _ ?p1zz ?p2zz ?p3zz ?p4zz) ?k1zz ?k2zz ?k3zz ?k4zz ?k5zz ?kKzz ?kdzz ?kuzz ?_); k_extra "u1"; k_extra "u2"; (case p3zz => first | exact numIn_i | exact numIn_d (by k_mem) | assumption | exact NumIn.mono (by assumption) (by kcj_all)); (case p4zz => first | exact numIn_i | exact numIn_d (by k_mem) | assumption | exact NumIn.mono (by assumption) (by kcj_all)); (case p1zz => assumption); (case p2zz => assumption); intro h9zz tk9zz F9zz t9zz N9zz; (try dsimp only); (try k_fold))); trivial)
example : True := by ((k_with "call ref" => (k_here; (with_reducible show wpAny _ _ (call (Value.ref 368) _) _ _ _); k_dflt (refine' sp_useI (sp_units _ _ _ _ ?p1zz ?p2zz) ?k1zz ?k2zz ?k3zz ?k4zz ?k5zz ?kKzz ?kdzz ?kuzz ?_); k_extra "u1"; k_extra "u2"; (case p2zz => first | assumption | exact NumIn.mono (by assumption) (by kcj_all)); (case p1zz => assumption); intro h9zz tk9zz F9zz t9zz N9zz; (try dsimp only); (try k_fold))); trivial)
example : True := by ((k_with "call ref" => (k_here; (with_reducible show wpAny _ _ (call (Value.ref 361) _) _ _ _); k_dflt (refine' sp_use (sp_law_number _ _ _ _ _ ?p1zz ?p2zz) ?k1zz ?k2zz ?k3zz ?k4zz ?k5zz ?kKzz ?kdzz ?kuzz ?_); k_extra "u1"; k_extra "u2"; (case p1zz => omega); (case p2zz => omega); k_extra "u3"; skip; k_extra "u4")); trivial)
/-- the world's object, with the two entries that are read -/
structure WorldIn (news : Led) (wv : Value) (x dx : Addr) (es : List DictEntry) (n : Nat) (tb td : Tok) : Prop where
  ref : wv = .ref x
  obj : (x, instObj 336 dx) ∈ news
  dict : (dx, dictOf es n) ∈ news
  bits : getL (Str.ofString "bits") es = some (some (.int 16 tb))
  digits : getL (Str.ofString "digits") es = some (some (.int 9 td))
theorem WorldIn.mono {news news' : Led} {wv : Value} {x dx : Addr} {es : List DictEntry} {n : Nat} {tb td : Tok} (h : WorldIn news wv x dx es n tb td) (hs : ∀ p ∈ news, p ∈ news') : WorldIn news' wv x dx es n tb td := ⟨h.ref, hs _ h.obj, hs _ h.dict, h.bits, h.digits⟩
theorem sgn_ok {u : Int} : (Num.i (sgn u)).Ok ∧ (Num.i (sgn u)).units = 100 * sgn u := by
  refine ⟨?_, rfl⟩
  show -100 ≤ sgn u ∧ sgn u ≤ 100
  unfold sgn b2i
  (repeat' split) <;> omega
theorem sp_number_sgn (w : World) (wv v : Value) (N : Num) (l : Addr) (k : Nat) (news : Led) (ok : N.Ok) (hv : NumIn news v N) (hl : (l, listOf #[v] k) ∈ news) :
    Sp w 2 24 283 [wv, .ref l] news (fun r tl => RN news (100 * sgn N.units) r tl) := by
  unfold Sp
  intro p loose mean mg mb dp un gd cn cs a ccd cl outer A₀ base h₀ L m s Q E B F X N T hk hd hu hret
  refine wpAny_call ?_
  k_dflt ktr_enter
  repeat' (first | (k_unfold; (try dsimp only)) | walk1 | (dsimp only; walk1) | (leave1; try dsimp only))
  all_goals exact hret _ [] _ _ (by k_asm) (cb_drop (by assumption) (by kcj_all)) (by first | ktn_ord | exact ord_sub (by assumption) (by kcj_all)) (RN.int sgn_ok.1 sgn_ok.2)
theorem sp_number_int (w : World) (wv v : Value) (x dx : Addr) (es : List DictEntry) (n : Nat) (tb td : Tok) (N : Num) (l : Addr) (k : Nat) (news : Led) (hw : WorldIn news wv x dx es n tb td) (ok : N.Ok) (hv : NumIn news v N) (hl : (l, listOf #[v] k) ∈ news) :
    Sp w 5 48 290 [wv, .ref l] news (fun r tl => RN news (100 * (N.units / 100)) r tl) := by
  obtain ⟨rfl, ho, hd', hb, hg⟩ := hw
  cases N with
  | i i1 =>
    obtain ⟨t, rfl⟩ := hv.invI
    unfold Sp
    intro p loose mean mg mb dp un gd cn cs a ccd cl outer A₀ base h₀ L m s Q E B F X N T hk hd hu hret
    refine wpAny_call ?_
    k_dflt ktr_enter
    repeat' (first | (k_unfold; (try dsimp only)) | walk1 | (dsimp only; walk1) | (leave1; try dsimp only))
    all_goals exact hret _ [] _ _ (by k_asm) (cb_drop (by assumption) (by kcj_all)) (by first | ktn_ord | exact ord_sub (by assumption) (by kcj_all)) (RN.int ok (by show 100 * i1 = 100 * (100 * i1 / 100); omega))
  | d c e =>
    obtain ⟨a, t1, t2, k1, rfl, hm⟩ := hv.invD
    unfold Sp
    intro p loose mean mg mb dp un gd cn cs a ccd cl outer A₀ base h₀ L m s Q E B F X N T hk hd hu hret
    refine wpAny_call ?_
    k_dflt ktr_enter
    repeat' (first | (k_unfold; (try dsimp only)) | walk1 | (dsimp only; walk1) | (leave1; try dsimp only))
    all_goals exact hret _ _ _ _ (by k_asm) (cb_drop (by assumption) (by kcj_all)) (by first | ktn_ord | exact ord_sub (by assumption) (by kcj_all)) (RN.dec (by assumption) (by assumption) (by assumption))
theorem sp_number_fix (w : World) (wv v : Value) (x dx : Addr) (es : List DictEntry) (n : Nat) (tb td : Tok) (N : Num) (l : Addr) (k : Nat) (news : Led) (hw : WorldIn news wv x dx es n tb td) (ok : N.Ok) (hv : NumIn news v N) (hl : (l, listOf #[v] k) ∈ news) :
    Sp w 6 56 297 [wv, .ref l] news (fun r tl => RN news (Fx N.units) r tl) := by
  obtain ⟨rfl, ho, hd', hb, hg⟩ := hw
  cases N with
  | i i1 =>
    obtain ⟨t, rfl⟩ := hv.invI
    unfold Sp
    intro p loose mean mg mb dp un gd cn cs a ccd cl outer A₀ base h₀ L m s Q E B F X N T hk hd hu hret
    refine wpAny_call ?_
    k_dflt ktr_enter
    repeat' (first | (k_unfold; (try dsimp only)) | walk1 | (dsimp only; walk1) | (leave1; try dsimp only))
    all_goals exact hret _ [] _ _ (by k_asm) (cb_drop (by assumption) (by kcj_all)) (by first | ktn_ord | exact ord_sub (by assumption) (by kcj_all)) (RN.int ok (by show 100 * i1 = Fx (100 * i1); unfold Fx; split <;> omega))
  | d c e =>
    obtain ⟨a, t1, t2, k1, rfl, hm⟩ := hv.invD
    unfold Sp
    intro p loose mean mg mb dp un gd cn cs a ccd cl outer A₀ base h₀ L m s Q E B F X N T hk hd hu hret
    refine wpAny_call ?_
    k_dflt ktr_enter
    repeat' (first | (k_unfold; (try dsimp only)) | walk1 | (dsimp only; walk1) | (leave1; try dsimp only))
    all_goals exact hret _ _ _ _ (by k_asm) (cb_drop (by assumption) (by kcj_all)) (by first | ktn_ord | exact ord_sub (by assumption) (by kcj_all)) (RN.dec (by assumption) (by assumption) (by assumption))
theorem sp_number_cint (w : World) (wv v : Value) (x dx : Addr) (es : List DictEntry) (n : Nat) (tb td : Tok) (N : Num) (l : Addr) (k : Nat) (news : Led) (hw : WorldIn news wv x dx es n tb td) (ok : N.Ok) (hv : NumIn news v N) (hl : (l, listOf #[v] k) ∈ news) :
    Sp w 5 48 304 [wv, .ref l] news (fun r tl => RN news (100 * Rn N.units) r tl) := by
  obtain ⟨rfl, ho, hd', hb, hg⟩ := hw
  unfold Sp
  intro p loose mean mg mb dp un gd cn cs a ccd cl outer A₀ base h₀ L m s Q E B F X N T hk hd hu hret
  refine wpAny_call ?_
  k_dflt ktr_enter
  repeat' (first | (k_unfold; (try dsimp only)) | walk1 | (dsimp only; walk1) | (leave1; try dsimp only))
  all_goals exact hret _ [] _ _ (by k_asm) (cb_drop (by assumption) (by kcj_all)) (by first | ktn_ord | exact ord_sub (by assumption) (by kcj_all)) (RN.int (Rn_le ok) rfl)
theorem icmp_lt {a b : Int} : icmp a b < 0 ↔ a < b := by
  unfold icmp b2i
  (repeat' split) <;> simp_all <;> omega
theorem icmp_gt {a b : Int} : 0 < icmp a b ↔ b < a := by
  unfold icmp b2i
  (repeat' split) <;> simp_all <;> omega
theorem sp_number_min (w : World) (wv v v2 : Value) (N N2 : Num) (l : Addr) (k : Nat) (news : Led) (ok : N.Ok) (ok2 : N2.Ok) (hv : NumIn news v N) (hv2 : NumIn news v2 N2) (hl : (l, listOf #[v, v2] k) ∈ news) :
    Sp w 4 40 311 [wv, .ref l] news (fun r tl => r = (if N2.units < N.units then v2 else v) ∧ tl = []) := by
  unfold Sp
  intro p loose mean mg mb dp un gd cn cs a ccd cl outer A₀ base h₀ L m s Q E B F X N T hk hd hu hret
  refine wpAny_call ?_
  k_dflt ktr_enter
  repeat' (first | (k_unfold; (try dsimp only)) | walk1 | (dsimp only; walk1) | (leave1; try dsimp only))
  all_goals first
    | exact hret _ [] _ _ (by k_asm) (cb_drop (by assumption) (by kcj_all)) ktn_ord0 ⟨(if_pos (icmp_lt.mp (by assumption))).symm, rfl⟩
    | exact hret _ [] _ _ (by k_asm) (cb_drop (by assumption) (by kcj_all)) ktn_ord0 ⟨(if_neg (fun q => (by assumption : ¬ _) (icmp_lt.mpr q))).symm, rfl⟩
theorem sp_number_max (w : World) (wv v v2 : Value) (N N2 : Num) (l : Addr) (k : Nat) (news : Led) (ok : N.Ok) (ok2 : N2.Ok) (hv : NumIn news v N) (hv2 : NumIn news v2 N2) (hl : (l, listOf #[v, v2] k) ∈ news) :
    Sp w 4 40 318 [wv, .ref l] news (fun r tl => r = (if N.units < N2.units then v2 else v) ∧ tl = []) := by
  unfold Sp
  intro p loose mean mg mb dp un gd cn cs a ccd cl outer A₀ base h₀ L m s Q E B F X N T hk hd hu hret
  refine wpAny_call ?_
  k_dflt ktr_enter
  repeat' (first | (k_unfold; (try dsimp only)) | walk1 | (dsimp only; walk1) | (leave1; try dsimp only))
  all_goals first
    | exact hret _ [] _ _ (by k_asm) (cb_drop (by assumption) (by kcj_all)) ktn_ord0 ⟨(if_pos (icmp_gt.mp (by assumption))).symm, rfl⟩
    | exact hret _ [] _ _ (by k_asm) (cb_drop (by assumption) (by kcj_all)) ktn_ord0 ⟨(if_neg (fun q => (by assumption : ¬ _) (icmp_gt.mpr q))).symm, rfl⟩
end Mine
end
section
open PySem PySem.W PyProof.Rows PySem.Calls
open Sem (wp)
set_option maxRecDepth 100000
set_option maxHeartbeats 4000000
set_option linter.unusedVariables false
namespace Mine
example : True := by (k_with_none; trivial)
/-- the names that a dict object holds -/
def NsO (o : Obj) (m : Str → Option Value) : Prop := ∃ es ep, o.data = .dict es ep ∧ StrKeys es ∧ ∀ x, nsFind es x = m x
theorem NsO.ns {o : Obj} {m : Str → Option Value} {h : Heap} {C : Addr} (n : NsO o m) (e : h.get? C = some o) : h.Ns C m :=
  let ⟨es, ep, a, b, c⟩ := n; ⟨o, es, ep, e, a, b, c⟩
theorem NsO.of {h : Heap} {C : Addr} {m : Str → Option Value} (n : h.Ns C m) : ∃ o, h.get? C = some o ∧ NsO o m :=
  let ⟨o, es, ep, e, a, b, c⟩ := n; ⟨o, e, es, ep, a, b, c⟩
theorem fr_ext {h₀ h h' : Heap} {L D : Addr} {m : Str → Option Value} (F : Fr h₀ L h m) (hs : Heap.ExtBut D h h') (hD : h₀.get? D = none) (hL : D ≠ L) : Fr h₀ L h' m :=
  ⟨F.ns.extBut hs (Ne.symm hL), fun b o e => hs b o (fun q => by rw [q, hD] at e; cases e) (F.keep b o e), F.above⟩
theorem news_ext {h₀ h h' : Heap} {L D : Addr} {led : Led} (N : News h₀ L h led) (hs : Heap.ExtBut D h h') (hl : ∀ p ∈ led, p.1 ≠ D) : News h₀ L h' led :=
  fun p hp => ⟨hs _ _ (hl p hp) (N p hp).1, (N p hp).2⟩
theorem fr_wr {h₀ h h' : Heap} {L : Addr} {wr : List Addr} {m : Str → Option Value} (F : Fr h₀ L h m) (hs : ∀ b o, b ∉ wr → h.get? b = some o → h'.get? b = some o) (hw : ∀ b ∈ wr, h₀.get? b = none) (hL : L ∉ wr) : Fr h₀ L h' m :=
  ⟨F.ns.at' fun o e => hs _ o hL e, fun b o e => hs b o (fun q => by rw [hw b q] at e; cases e) (F.keep b o e), F.above⟩
theorem news_wr {h₀ h h' : Heap} {L : Addr} {wr : List Addr} {led : Led} (N : News h₀ L h led) (hs : ∀ b o, b ∉ wr → h.get? b = some o → h'.get? b = some o) (hl : ∀ p ∈ led, p.1 ∉ wr) : News h₀ L h' led :=
  fun p hp => ⟨hs _ _ (hl p hp) (N p hp).1, (N p hp).2⟩
section
variable {prog : Program} {w : World} {A : Around} {E : Value → Shared → Prop} {R : Result → Shared → Prop} {s : Shared}
/-- the loop of a comprehension, any target -/
theorem compLoop_go {elt target iter : Expr} {ifs : List Expr} {scope : Scope} {pos : Pos} {it acc : Value} {env : Env} (I : Nat → Shared → Prop)
    (turn : ∀ n s, I n s → wpAny (model prog w) A (pyNext it) (fun r s₁ => match r with
      | none => R (.ok .next) s₁
      | some v => wpAny (model prog w) A (letOwnedTupleGo target it v) (fun _ s₁' => wpAny (model prog w) A (assign target env v) (fun _ s₂ =>
          wpAny (model prog w) A (forIn ifs true fun c r => if r = true then do let ok ← isTrue c env (eval c env); pure (ForInStep.yield ok) else pure (ForInStep.yield r)) (fun ok s₃ =>
            if ok = true then wpAny (model prog w) A (eval elt env) (fun x s₄ =>
              wpAny (model prog w) A (call (.builtin "list.append") [acc, x]) (fun _ s₅ => ∃ m, m < n ∧ I m s₅) (notedBy (model prog w) A env fun e s' => R (.error e) s') s₄) (notedBy (model prog w) A env fun e s' => R (.error e) s') s₃
            else ∃ m, m < n ∧ I m s₃) (notedBy (model prog w) A env fun e s' => R (.error e) s') s₂) (notedBy (model prog w) A env fun e s' => R (.error e) s') s₁') (notedBy (model prog w) A env fun e s' => R (.error e) s') s₁) (notedBy (model prog w) A env fun e s' => R (.error e) s') s)
    (n : Nat) (h : I n s) : codeAny (model prog w) A (.compLoop (.ListComp elt [⟨target, iter, ifs, 0⟩] scope pos) 0 it acc env) R s := by
  refine codeAny_loop rfl I (fun n s hI => ?_) n h
  show wpAny _ A ((compTurn (.ListComp elt [⟨target, iter, ifs, 0⟩] scope pos) 0 it acc env).onRaise (fun x => do noteFrame x env; theTreesLotGoes x)) _ _ s
  refine wpAny_noted ?_
  rw [compTurn_list]
  refine wpAny_bind (wpAny_standAt (wpAny_bind (wpAny_mono (turn n s hI) (fun r s₁ h₁ => ?_) fun _ _ q => q)))
  match r, h₁ with
  | none, h₁ => exact wpAny_pure h₁
  | some v, h₁ =>
    refine wpAny_bind (wpAny_mono h₁ (fun _ s₂ h₂ => wpAny_bind (wpAny_mono h₂ (fun _ s₃ h₃ => wpAny_bind (wpAny_mono h₃ (fun ok s₄ h₄ => ?_) fun _ _ q => q)) fun _ _ q => q)) fun _ _ q => q)
    match ok, h₄ with
    | false, h₄ => exact wpAny_pure ⟨rfl, h₄⟩
    | true, h₄ => exact wpAny_bind (wpAny_bind (wpAny_mono h₄ (fun x s₅ h₅ => wpAny_bind (wpAny_mono h₅ (fun _ s₆ h₆ => wpAny_pure (wpAny_pure ⟨rfl, h₆⟩)) fun _ _ q => q)) fun _ _ q => q))
/-- the end of a turn of a comprehension -/
inductive CStepI (h₀ : Heap) (L : Addr) (m : Str → Option Value) (C D : Addr) (wr : List Addr) (own : Led) (Inv : Nat → List Value → Led → Prop) (j : Nat) (ys : List Value) (g : Array GenState) (d : Drawn) (o : OsState) (s' : Shared) : Prop
  | mk (h' : Heap) (tk' : Nat) (oC' : Obj) (m' : Str → Option Value) (nx : Led) (e : s' = ⟨h', g, d, tk', o⟩) (F : Fr h₀ L h' m) (N : News h₀ L h' ((C, oC') :: (own ++ nx))) (nC : NsO oC' m') (hx : ∀ p ∈ nx, p.1 ∉ wr ∧ p.1 ≠ D ∧ p.1 ≠ C) (hI : Inv j ys nx)
abbrev CStep (h₀ : Heap) (L : Addr) (m : Str → Option Value) (C D : Addr) (wr : List Addr) (own : Led) (Inv : Nat → List Value → Led → Prop) (j : Nat) (ys : List Value) (s s' : Shared) : Prop := CStepI h₀ L m C D wr own Inv j ys s.gens s.drawn s.os s'
/-- what stands between the turns of a comprehension -/
inductive LoopAt (h₀ : Heap) (L : Addr) (m : Str → Option Value) (D C : Addr) (wr : List Addr) (n : Nat) (St : Nat → Heap → Prop) (J : Nat → List Value → Led → (Str → Option Value) → Prop) (s : Shared) (k : Nat) (s' : Shared) : Prop
  | mk (i : Nat) (h : Heap) (tk : Nat) (ys : List Value) (led : Led) (m₂ : Str → Option Value) (kk : Nat) (e : s' = { s with heap := h, toks := tk }) (ek : k = n + 1 - i) (hi : i ≤ n) (st : St i h) (F : Fr h₀ L h m) (N : News h₀ L h led) (hl : ∀ p ∈ led, p.1 ∉ wr ∧ p.1 ≠ D ∧ p.1 ≠ C) (ha : h.get? D = some (listOf ys.toArray kk)) (hc : h.Ns C m₂) (hJ : J i ys led m₂)
theorem comp_loop {elt target iter : Expr} {ifs : List Expr} {scope : Scope} {pos : Pos} {I D : Addr} {fp wr : List Addr} {n : Nat} {P : Nat → Value → Prop} {St : Nat → Heap → Prop} {cenv : Env}
    {h₀ : Heap} {L : Addr} {m m₀ : Str → Option Value} {led₀ : Led} (W : Walks prog w A I fp wr n P St) (Inv : Nat → List Value → Led → Prop) (hn : n ≤ sizeLine)
    (hLf : L ∉ fp) (hwr : ∀ b ∈ wr, h₀.get? b = none) (hD0 : h₀.get? D = none) (hDL : D ≠ L) (hC0 : h₀.get? cenv.locals = none) (hCL : cenv.locals ≠ L) (hDC : D ≠ cenv.locals) (hDf : D ∉ fp) (hCf : cenv.locals ∉ fp)
    (st : St 0 s.heap) (F : Fr h₀ L s.heap m) (N : News h₀ L s.heap led₀) (hled : ∀ p ∈ led₀, p.1 ∉ wr ∧ p.1 ≠ D ∧ p.1 ≠ cenv.locals) (hacc : s.heap.get? D = some (listOf #[] 0)) (hns : s.heap.Ns cenv.locals m₀) (h0 : Inv 0 [] led₀)
    (turn : ∀ i v ys led own oC m₂ h tk E', i < n → P i v → Inv i ys led → ys.length ≤ i → (∀ p ∈ led, p.1 ∉ wr ∧ p.1 ≠ D ∧ p.1 ≠ cenv.locals) → St (i + 1) h → Fr h₀ L h m → News h₀ L h ((cenv.locals, oC) :: (own ++ led)) → NsO oC m₂ → (∀ p ∈ own, p.1 ≠ cenv.locals) → (∃ k, (D, listOf ys.toArray k) ∈ own) → (∀ b ∈ fp, h₀.get? b = none → ∀ o, h.get? b = some o → (b, o) ∈ own) → (∀ p ∈ own, p.1 = D ∨ p.1 ∈ fp) →
      wpAny (model prog w) A (letOwnedTupleGo target (.ref I) v) (fun _ s₁ => wpAny (model prog w) A (assign target cenv v) (fun _ s₂ =>
        wpAny (model prog w) A (forIn ifs true fun c r => if r = true then do let ok ← isTrue c cenv (eval c cenv); pure (ForInStep.yield ok) else pure (ForInStep.yield r)) (fun ok s₃ =>
          if ok = true then wpAny (model prog w) A (eval elt cenv) (fun y s₄ => CStep h₀ L m cenv.locals D wr own Inv (i + 1) (ys ++ [y]) s s₄) E' s₃ else CStep h₀ L m cenv.locals D wr own Inv (i + 1) ys s s₃) E' s₂) E' s₁) E' { s with heap := h, toks := tk })
    (done : ∀ ys led oC m₂ k h tk, Inv n ys led → ys.length ≤ n → Fr h₀ L h m → News h₀ L h ((D, listOf ys.toArray k) :: (cenv.locals, oC) :: led) → NsO oC m₂ → (∀ p ∈ led, p.1 ≠ D ∧ p.1 ≠ cenv.locals) → R (.ok .next) { s with heap := h, toks := tk }) :
    codeAny (model prog w) A (.compLoop (.ListComp elt [⟨target, iter, ifs, 0⟩] scope pos) 0 (.ref I) (.ref D) cenv) R s := by
  have hLw : L ∉ wr := fun h => hLf (W.sub _ h)
  have hDw : D ∉ wr := fun h => hDf (W.sub _ h)
  have hCw : cenv.locals ∉ wr := fun h => hCf (W.sub _ h)
  refine compLoop_go (LoopAt h₀ L m D cenv.locals wr n St (fun i ys led _ => Inv i ys led ∧ ys.length ≤ i) s) ?_ (n + 1)
    ⟨0, s.heap, s.toks, [], led₀, m₀, 0, rfl, rfl, Nat.zero_le _, st, F, N, hled, hacc, hns, h0, Nat.le_refl _⟩
  rintro k s' ⟨i, h, tk, ys, led, m₂, kk, rfl, rfl, hi, sti, Fi, Ni, hl, ha, hc, ⟨hI, hy⟩⟩
  by_cases hlt : i < n
  · refine W.item i _ _ _ hlt sti fun v h₁ tk₁ hP st₁ hk₁ => ?_
    have F₁ := fr_wr Fi hk₁ hwr hLw
    have N₁ := news_wr Ni hk₁ fun p hp => (hl p hp).1
    have a₁ := hk₁ D _ hDw ha
    obtain ⟨oC, eC, nC⟩ := NsO.of (hc.at' fun o e => hk₁ _ o hCw e)
    have Nown : News h₀ L h₁ ((D, listOf ys.toArray kk) :: ownOf h₀ fp h₁) := by
      intro p hp
      rcases List.mem_cons.mp hp with rfl | hp
      · exact ⟨a₁, hDL, hD0⟩
      · exact news_ownOf hLf p hp
    have Nall : News h₀ L h₁ ((cenv.locals, oC) :: (((D, listOf ys.toArray kk) :: ownOf h₀ fp h₁) ++ led)) := by
      intro p hp
      rcases List.mem_cons.mp hp with rfl | hp
      · exact ⟨eC, hCL, hC0⟩
      · rcases List.mem_append.mp hp with hp | hp
        · exact Nown p hp
        · exact N₁ p hp
    have hoC : ∀ p ∈ (D, listOf ys.toArray kk) :: ownOf h₀ fp h₁, p.1 ≠ cenv.locals := by
      intro p hp
      rcases List.mem_cons.mp hp with rfl | hp
      · exact hDC
      · exact fun q => hCf (q ▸ ownOf_sub p hp)
    have keepSt : ∀ (h₃ : Heap) (oC' : Obj) (nx : Led), Fr h₀ L h₃ m → News h₀ L h₃ ((cenv.locals, oC') :: (((D, listOf ys.toArray kk) :: ownOf h₀ fp h₁) ++ nx)) → St (i + 1) h₃ := by
      intro h₃ oC' nx F₃ N₃
      refine W.frame _ _ _ st₁ fun b hb o e => ?_
      cases hn0 : h₀.get? b with
      | some o₀ =>
        have : o₀ = o := by have := F₁.keep b o₀ hn0; rw [e] at this; exact (Option.some.inj this).symm
        exact this ▸ F₃.keep b o₀ hn0
      | none => exact (N₃ (b, o) (.tail _ (List.mem_append_left _ (.tail _ (mem_ownOf hb hn0 e))))).1
    refine wpAny_mono (turn i v ys led _ oC m₂ h₁ tk₁ _ hlt hP hI hy hl st₁ F₁ Nall nC hoC ⟨kk, .head _⟩ (fun b hb hn0 o e => .tail _ (mem_ownOf hb hn0 e)) (fun p hp => (List.mem_cons.mp hp).imp (fun e => by rw [e]) fun hp => ownOf_sub p hp)) (fun _ s₁ q₁ => wpAny_mono q₁ (fun _ s₂ q₂ => wpAny_mono q₂ (fun ok s₃ q₃ => ?_) fun _ _ q => q) fun _ _ q => q) fun _ _ q => q
    match ok, q₃ with
    | false, q₃ =>
      obtain ⟨h₃, tk₃, oC', m', nx, rfl, F₃, N₃, nC', hx, hI'⟩ := q₃
      exact ⟨n + 1 - (i + 1), by omega, i + 1, h₃, tk₃, ys, nx, m', kk, rfl, rfl, hlt, keepSt h₃ oC' nx F₃ N₃, F₃, fun p hp => N₃ p (.tail _ (List.mem_append_right _ hp)), hx, (N₃ _ (.tail _ (List.mem_append_left _ (.head _)))).1, nC'.ns (N₃ _ (.head _)).1, hI', Nat.le_succ_of_le hy⟩
    | true, q₃ =>
      refine wpAny_mono q₃ (fun y s₄ q₄ => ?_) fun _ _ q => q
      obtain ⟨h₃, tk₃, oC', m', nx, rfl, F₃, N₃, nC', hx, hI'⟩ := q₄
      have hsz : (ys.toArray).size ≤ sizeLine := by rw [List.size_toArray]; omega
      refine wpAny_list_append_plain (items := ys.toArray) (hsz := hsz) ⟨kk, (N₃ _ (.tail _ (List.mem_append_left _ (.head _)))).1⟩ fun h₅ hl₅ hs₅ => ?_
      obtain ⟨k₅, e₅⟩ := hl₅
      rw [List.push_toArray] at e₅
      refine ⟨n + 1 - (i + 1), by omega, i + 1, h₅, tk₃, ys ++ [y], nx, m', k₅, rfl, rfl, hlt, ?_, fr_ext F₃ hs₅.extBut hD0 hDL, news_ext (fun p hp => N₃ p (.tail _ (List.mem_append_right _ hp))) hs₅.extBut fun p hp => (hx p hp).2.1, hx, e₅, (nC'.ns (N₃ _ (.head _)).1).extBut hs₅.extBut (Ne.symm hDC), hI', ?_⟩
      · exact W.frame _ _ _ (keepSt h₃ oC' nx F₃ N₃) fun b hb o e => hs₅.extBut b o (fun q => hDf (q ▸ hb)) e
      · rw [List.length_append, List.length_singleton]; omega
  · have hin : i = n := by omega
    subst hin
    refine W.done _ _ _ sti fun h₁ tk₁ hk₁ => ?_
    obtain ⟨oC, eC, nC⟩ := NsO.of (hc.at' fun o e => hk₁ _ o hCw e)
    refine done ys led oC m₂ kk h₁ tk₁ hI hy (fr_wr Fi hk₁ hwr hLw) ?_ nC fun p hp => (hl p hp).2
    intro p hp
    rcases List.mem_cons.mp hp with rfl | hp
    · exact ⟨hk₁ D _ hDw ha, hDL, hD0⟩
    · rcases List.mem_cons.mp hp with rfl | hp
      · exact ⟨eC, hCL, hC0⟩
      · exact news_wr Ni hk₁ (fun p hp => (hl p hp).1) p hp
end
end Mine
end
section
open PySem PySem.W PyProof.Rows PySem.Calls
open Sem (wp)
set_option maxRecDepth 100000
set_option maxHeartbeats 4000000
set_option linter.unusedVariables false
namespace Mine
example : True := by (k_with_none; trivial)
section
variable {prog : Program} {w : World} {A : Around} {E : Value → Shared → Prop} {s : Shared} {env : Env}
/-- the tests of a clause -/
abbrev tests (ifs : List Expr) (env : Env) : Sem Bool := forIn ifs true fun c r => if r = true then do let ok ← isTrue c env (eval c env); pure (ForInStep.yield ok) else pure (ForInStep.yield r)
/-- a turn of a comprehension, wherever its block and its list lie -/
def CTurn (prog : Program) (w : World) (A : Around) (env : Env) (target elt : Expr) (ifs : List Expr) (scope : Scope) (cl : List (Str × Addr)) (I : Addr) (fp wr : List Addr) (n : Nat) (P : Nat → Value → Prop) (St : Nat → Heap → Prop) (h₀ : Heap) (L : Addr) (m : Str → Option Value) (Inv : Nat → List Value → Led → Prop) (s : Shared) : Prop :=
  ∀ C D i v ys led own oC m₂ h tk E', i < n → P i v → Inv i ys led → ys.length ≤ i → (∀ p ∈ led, p.1 ∉ wr ∧ p.1 ≠ D ∧ p.1 ≠ C) → St (i + 1) h → Fr h₀ L h m → News h₀ L h ((C, oC) :: (own ++ led)) → NsO oC m₂ → (∀ p ∈ own, p.1 ≠ C) → (∃ k, (D, listOf ys.toArray k) ∈ own) → (∀ b ∈ fp, h₀.get? b = none → ∀ o, h.get? b = some o → (b, o) ∈ own) → (∀ p ∈ own, p.1 = D ∨ p.1 ∈ fp) →
    wpAny (model prog w) A (letOwnedTupleGo target (.ref I) v) (fun _ s₁ => wpAny (model prog w) A (assign target (compEnvC scope cl C env) v) (fun _ s₂ =>
      wpAny (model prog w) A (tests ifs (compEnvC scope cl C env)) (fun ok s₃ =>
        if ok = true then wpAny (model prog w) A (eval elt (compEnvC scope cl C env)) (fun y s₄ => CStep h₀ L m C D wr own Inv (i + 1) (ys ++ [y]) s s₄) E' s₃ else CStep h₀ L m C D wr own Inv (i + 1) ys s s₃) E' s₂) E' s₁) E' { s with heap := h, toks := tk }
inductive CompAt (prog : Program) (w : World) (A : Around) (env : Env) (target elt : Expr) (ifs : List Expr) (scope : Scope) (cl : List (Str × Addr)) (h₀ : Heap) (L : Addr) (m : Str → Option Value) (md : Addr → Str → Option Value) (Qd : Addr → Shared → Prop) (it : Value) (s₂ : Shared) : Prop
  | mk (I : Addr) (fp wr : List Addr) (n : Nat) (P : Nat → Value → Prop) (St : Nat → Heap → Prop) (led₀ : Led) (Inv : Nat → List Value → Led → Prop) (ei : it = .ref I) (W : Walks prog w A I fp wr n P St) (hn : n ≤ sizeLine) (st : St 0 s₂.heap) (hfp : (∀ b ∈ fp, b < s₂.heap.objs.size)) (hLf : L ∉ fp) (hwr : (∀ b ∈ wr, h₀.get? b = none)) (F : Fr h₀ L s₂.heap m) (N : News h₀ L s₂.heap led₀) (hled : (∀ p ∈ led₀, p.1 ∉ wr)) (h0 : Inv 0 [] led₀) (turn : CTurn prog w A env target elt ifs scope cl I fp wr n P St h₀ L m Inv s₂) (done : ∀ D ys led k h' tk, Inv n ys led → ys.length ≤ n → Fr h₀ L h' (md D) → News h₀ L h' ((D, listOf ys.toArray k) :: led) → (∀ p ∈ led, p.1 ≠ D) → (∀ p ∈ led₀, p.1 < D) → Qd D { s₂ with heap := h', toks := tk })
theorem comp_block {target elt iter : Expr} {ifs : List Expr} {scope : Scope} {cl : List (Str × Addr)} {pos : Pos} {I : Addr} {fp wr : List Addr} {n : Nat} {P : Nat → Value → Prop} {St : Nat → Heap → Prop} {h₀ : Heap} {L : Addr} {m : Str → Option Value} {led₀ : Led} {Inv : Nat → List Value → Led → Prop} {RR : Value → Addr → Result → Shared → Prop}
    (W : Walks prog w A I fp wr n P St) (hn : n ≤ sizeLine) (hcell : ∀ y ∈ scope.names, y.2 ≠ .cell) (hkind : scope.kind = .function)
    (st : St 0 s.heap) (hfp : ∀ b ∈ fp, b < s.heap.objs.size) (hLf : L ∉ fp) (hwr : ∀ b ∈ wr, h₀.get? b = none) (F : Fr h₀ L s.heap m) (N : News h₀ L s.heap led₀) (hled : ∀ p ∈ led₀, p.1 ∉ wr) (h0 : Inv 0 [] led₀)
    (turn : CTurn prog w A env target elt ifs scope cl I fp wr n P St h₀ L m Inv s)
    (done : ∀ D C ys led oC m₂ k h' tk, D ≠ C → s.heap.get? C = none → s.heap.objs.size ≤ D → Inv n ys led → ys.length ≤ n → Fr h₀ L h' m → News h₀ L h' ((D, listOf ys.toArray k) :: (C, oC) :: led) → NsO oC m₂ → (∀ p ∈ led, p.1 ≠ D ∧ p.1 ≠ C) → RR (.ref D) C (.ok .next) { s with heap := h', toks := tk }) :
    wpAny (model prog w) A (newList []) (fun acc s₃ => wpAny (model prog w) A (newFunctionEnv scope env.globals cl [] env.qual none .none (some env)) (fun cenv s₄ =>
      codeAny (model prog w) A (.compStart (.ListComp elt [⟨target, iter, ifs, 0⟩] scope pos) 0 (.ref I) acc { cenv with scope := relabel scope env }) (RR acc cenv.locals) s₄) E s₃) E s := by
  refine wpAny_newObj_type (wpAny_newFunctionEnv hcell (by intro y hy; simp at hy) (fun h₁ hns hsb => ?_) hkind)
  dsimp only at hns hsb ⊢
  have fresh : ∀ a, s.heap.objs.size ≤ a → s.heap.get? a = none := fun a ha => by
    cases e : s.heap.get? a with
    | none => rfl
    | some o => exact absurd (Heap.lt_size e) (Nat.not_lt.mpr ha)
  have new₀ : ∀ a, s.heap.objs.size ≤ a → h₀.get? a = none := fun a ha => by
    cases e : h₀.get? a with
    | none => rfl
    | some o => exact absurd (Heap.lt_size (F.keep _ _ e)) (Nat.not_lt.mpr ha)
  have hLs : L < s.heap.objs.size := F.ns.lt
  generalize hH : s.heap.push { cls := .type "list", dict := none, data := .seq ([] : List Value).toArray } = H at hns hsb ⊢
  have hz : H.objs.size = s.heap.objs.size + 1 := by rw [← hH, Heap.size_push]
  rw [hz] at hns hsb ⊢
  have DC : s.heap.objs.size ≠ s.heap.objs.size + 1 := Nat.ne_of_lt (Nat.lt_succ_self _)
  have old : ∀ b o, s.heap.get? b = some o → h₁.get? b = some o := fun b o e => by
    refine hsb.extBut b o (Nat.ne_of_lt (Nat.lt_succ_of_lt (Heap.lt_size e))) (Heap.get?_push_of_some _ ?_)
    rw [← hH]; exact Heap.get?_push_of_some _ e
  have hacc : h₁.get? s.heap.objs.size = some (listOf #[] 0) := hsb.extBut _ _ DC (Heap.get?_push_of_some _ (by rw [← hH]; exact Heap.get?_push_size _ rfl))
  have F₁ : Fr h₀ L h₁ m := ⟨F.ns.keeps old, fun b o e => old b o (F.keep b o e), F.above⟩
  have N₁ : News h₀ L h₁ led₀ := fun p hp => ⟨old _ _ (N p hp).1, (N p hp).2⟩
  have st₁ : St 0 h₁ := W.frame _ _ _ st fun b _ o e => old b o e
  have loop : ∀ s₃ : Shared, s₃ = { s with heap := h₁, toks := s.toks + ([] : List (Str × Value)).length } →
      codeAny (model prog w) A (.compLoop (.ListComp elt [⟨target, iter, ifs, 0⟩] scope pos) 0 (.ref I) (.ref s.heap.objs.size) (compEnvC scope cl (s.heap.objs.size + 1) env)) (RR (.ref s.heap.objs.size) (s.heap.objs.size + 1)) s₃ := by
    rintro s₃ rfl
    refine comp_loop (cenv := compEnvC scope cl (s.heap.objs.size + 1) env) W Inv hn hLf hwr (new₀ _ (Nat.le_refl _)) (Nat.ne_of_gt hLs) (new₀ _ (Nat.le_succ _)) (Nat.ne_of_gt (Nat.lt_succ_of_lt hLs)) DC
      (fun q => Nat.lt_irrefl _ (hfp _ q)) (fun q => Nat.lt_irrefl _ (Nat.lt_of_succ_lt (hfp _ q))) st₁ F₁ N₁ (fun p hp => ⟨hled p hp, Nat.ne_of_lt (Heap.lt_size (N p hp).1), Nat.ne_of_lt (Nat.lt_succ_of_lt (Heap.lt_size (N p hp).1))⟩) hacc hns h0
      (fun i v ys led own oC m₂ h tk E' a1 a2 a3 a4 a5 a6 a7 a8 a9 b1 b2 b3 b4 => turn (s.heap.objs.size + 1) s.heap.objs.size i v ys led own oC m₂ h tk E' a1 a2 a3 a4 a5 a6 a7 a8 a9 b1 b2 b3 b4)
      (fun ys led oC m₂ k h tk a1 a2 a3 a4 a5 a6 => done _ _ ys led oC m₂ k h tk DC (fresh _ (Nat.le_succ _)) (Nat.le_refl _) a1 a2 a3 a4 a5 a6)
  exact codeAny_compStart_list (loop _ rfl) (W.self 0 _ _ _ st₁ (loop _ rfl))
theorem comp_eval {target elt iter : Expr} {ifs : List Expr} {scope : Scope} {cl : List (Str × Addr)} {pos : Pos} {h₀ : Heap} {L : Addr} {m : Str → Option Value} {Q : Value → Shared → Prop}
    (_F : Fr h₀ L s.heap m) (hclos : closureFor scope env = pure cl) (hcell : ∀ y ∈ scope.names, y.2 ≠ .cell) (hkind : scope.kind = .function) (hnames : ∀ y ∈ scope.names, y.2 = .local → scope.names.lookup y.1 = some .local)
    (hs : ∀ x, foldedSetIterable iter env x = pure x)
    (h : wpAny (model prog w) A (eval iter env) (fun xv s₁ => wpAny (model prog w) A (pyIter xv) (CompAt prog w A env target elt ifs scope cl h₀ L m (fun _ => m) (fun D s' => Q (.ref D) s')) E s₁) E s) :
    wpAny (model prog w) A (eval (.ListComp elt [⟨target, iter, ifs, 0⟩] scope pos) env) Q E s := by
  rw [eval_ListComp]
  refine wpAny_comprehension_free (use := none) rfl hs hclos hkind hnames (wpAny_mono h (fun xv s₁ h₁ => wpAny_mono h₁ (fun it s₂ h₂ => ?_) fun _ _ e => e) fun _ _ e => e)
  obtain ⟨I, fp, wr, n, P, St, led₀, Inv, rfl, W, hn, st, hfp, hLf, hwr, F, N, hled, h0, turn, done⟩ := h₂
  refine comp_block (RR := fun acc C => compPost (model prog w) A E none Q acc C) W hn hcell hkind st hfp hLf hwr F N hled h0 turn ?_
  intro D C ys led oC m₂ k h' tk hDC hCn hDn hI hy F' N' nC hl
  refine ⟨m₂, nC.ns (N' _ (.tail _ (.head _))).1, fun h'' hs'' => done D ys led k h'' tk hI hy (fr_ext F' hs''.extBut ?_ (N' _ (.tail _ (.head _))).2.1) ?_ (fun p hp => (hl p hp).1) fun p hp => Nat.lt_of_lt_of_le (Heap.lt_size (N p hp).1) hDn⟩
  · exact (N' _ (.tail _ (.head _))).2.2
  · refine news_ext (fun p hp => N' p ?_) hs''.extBut fun p hp => ?_
    · rcases List.mem_cons.mp hp with rfl | hp
      · exact .head _
      · exact .tail _ (.tail _ hp)
    · rcases List.mem_cons.mp hp with rfl | hp
      · exact hDC
      · exact (hl p hp).2
theorem comp_assign {target elt iter : Expr} {ifs : List Expr} {scope : Scope} {cl : List (Str × Addr)} {pos spos py : Pos} {y : Str} {h₀ : Heap} {m : Str → Option Value} {Q : Flow → Shared → Prop}
    (_F : Fr h₀ env.locals s.heap m) (hsw : swapsWith (.ListComp elt [⟨target, iter, ifs, 0⟩] scope pos) (some (.Name y py)) spos.line env = pure true)
    (hclos : closureFor scope env = pure cl) (hcell : ∀ z ∈ scope.names, z.2 ≠ .cell) (hkind : scope.kind = .function) (hnames : ∀ z ∈ scope.names, z.2 = .local → scope.names.lookup z.1 = some .local)
    (hs : ∀ x, foldedSetIterable iter env x = pure x) (hy : env.kindOf y = some .local) (hp : (env.scope.kind == .class || (env.scope.kind == .module && env.locals != env.globals)) = false)
    (h : wpAny (model prog w) A (eval iter env) (fun xv s₁ => wpAny (model prog w) A (pyIter xv) (CompAt prog w A env target elt ifs scope cl h₀ env.locals m (fun D z => if z = y then some (.ref D) else m z) (fun _ s' => Q .next s')) E s₁) E s) :
    wpAny (model prog w) A (exec (.Assign [.Name y py] (.ListComp elt [⟨target, iter, ifs, 0⟩] scope pos) spos) env) Q E s := by
  rw [exec_Assign_Name_used _ _ _ _ hsw]
  refine wpAny_bind (wpAny_standAt (wpAny_bind ?_))
  show wpAny _ A (do let _ ← comprehension (.ListComp elt [⟨target, iter, ifs, 0⟩] scope pos) scope env _ (newList []) false (eval iter env) (some (assign (.Name y py) env))) _ _ s
  refine wpAny_bind (wpAny_mono (wpAny_comprehension_free (use := some (assign (.Name y py) env)) (Q := fun _ s' => Q .next s') rfl hs hclos hkind hnames
    (wpAny_mono h (fun xv s₁ h₁ => wpAny_mono h₁ (fun it s₂ h₂ => ?_) fun _ _ e => e) fun _ _ e => e)) (fun _ s' hq => wpAny_pure (wpAny_pure hq)) fun _ _ e => e)
  obtain ⟨I, fp, wr, n, P, St, led₀, Inv, rfl, W, hn, st, hfp, hLf, hwr, F, N, hled, h0, turn, done⟩ := h₂
  refine comp_block (RR := fun acc C => compPost (model prog w) A E (some (assign (.Name y py) env)) (fun _ s' => Q .next s') acc C) W hn hcell hkind st hfp hLf hwr F N hled h0 turn ?_
  intro D C ys led oC m₂ k h' tk hDC hCn hDn hI hyl F' N' nC hl
  have hCL : C ≠ env.locals := (N' _ (.tail _ (.head _))).2.1
  have hDL : D ≠ env.locals := (N' _ (.head _)).2.1
  have hC0 := (N' (C, oC) (.tail _ (.head _))).2.2
  show wpAny _ A (assign (.Name y py) env (.ref D)) _ _ _
  refine wpAny_assign_Name (wpAny_storeName_local hy F'.ns (fun h₂ hn₂ hs₂ => ?_) hp)
  have nC₂ : h₂.Ns C m₂ := (nC.ns (N' _ (.tail _ (.head _))).1).sameBut hs₂ hCL
  refine ⟨m₂, nC₂, fun h₃ hs₃ => ?_⟩
  have F₂ : Fr h₀ env.locals h₂ (fun z => if z = y then some (.ref D) else m z) := F'.set hn₂ hs₂
  have N₂ : News h₀ env.locals h₂ ((D, listOf ys.toArray k) :: led) := by
    refine News.set (fun p hp => N' p ?_) hs₂
    rcases List.mem_cons.mp hp with rfl | hp
    · exact .head _
    · exact .tail _ (.tail _ hp)
  refine done D ys led k h₃ _ hI hyl (fr_ext F₂ hs₃.extBut hC0 hCL) (news_ext N₂ hs₃.extBut fun p hp => ?_) (fun p hp => (hl p hp).1) fun p hp => Nat.lt_of_lt_of_le (Heap.lt_size (N p hp).1) hDn
  rcases List.mem_cons.mp hp with rfl | hp
  · exact hDC
  · exact (hl p hp).2
end
end Mine
end
section
open PySem PySem.W PyProof.Rows PySem.Calls
open Sem (wp)
set_option maxRecDepth 100000
set_option maxHeartbeats 4000000
set_option linter.unusedVariables false
namespace Mine
example : True := by (k_with_none; trivial)
section
variable {prog : Program} {w : World} {A : Around} {E : Value → Shared → Prop} {s : Shared} {env : Env}
/-- a step that only adds: all that stood stands -/
inductive PStepI (h₀ : Heap) (L : Addr) (m : Str → Option Value) (all led : Led) (J : Led → Prop) (g : Array GenState) (d : Drawn) (o : OsState) (s' : Shared) : Prop
  | mk (h' : Heap) (tk' : Nat) (tl : Led) (e : s' = ⟨h', g, d, tk', o⟩) (F : Fr h₀ L h' m) (N : News h₀ L h' (tl ++ all)) (l : ∀ q ∈ all, ∀ p ∈ tl, q.1 < p.1) (j : J (tl ++ led))
abbrev PStep (h₀ : Heap) (L : Addr) (m : Str → Option Value) (all led : Led) (J : Led → Prop) (s s' : Shared) : Prop := PStepI h₀ L m all led J s.gens s.drawn s.os s'
theorem PStep.intro {h₀ h' : Heap} {L : Addr} {m : Str → Option Value} {all led : Led} {J : Led → Prop} {s : Shared} {tk' : Nat} (tl : Led) (F : Fr h₀ L h' m) (N : News h₀ L h' (tl ++ all)) (l : ∀ q ∈ all, ∀ p ∈ tl, q.1 < p.1) (j : J (tl ++ led)) : PStep h₀ L m all led J s { s with heap := h', toks := tk' } := ⟨h', tk', tl, rfl, F, N, l, j⟩
theorem cstep_of {h₀ : Heap} {L C D : Addr} {m m₂ : Str → Option Value} {oC : Obj} {wr : List Addr} {own led : Led} {Inv : Nat → List Value → Led → Prop} {j : Nat} {ys ys' : List Value} {s s' : Shared} {k : Nat}
    (nC : NsO oC m₂) (hD : (D, listOf ys'.toArray k) ∈ own) (hw : ∀ b ∈ wr, ∃ o, (b, o) ∈ own) (hl : ∀ p ∈ led, p.1 ∉ wr ∧ p.1 ≠ D ∧ p.1 ≠ C)
    (q : PStep h₀ L m ((C, oC) :: (own ++ led)) led (Inv j ys) s s') : CStep h₀ L m C D wr own Inv j ys s s' := by
  obtain ⟨h', tk', tl, rfl, F, N, l, J⟩ := q
  refine ⟨h', tk', oC, m₂, tl ++ led, rfl, F, fun p hp => N p ?_, nC, fun p hp => ?_, J⟩
  · rcases List.mem_cons.mp hp with rfl | hp
    · exact List.mem_append_right _ (.head _)
    · rcases List.mem_append.mp hp with hp | hp
      · exact List.mem_append_right _ (.tail _ (List.mem_append_left _ hp))
      · rcases List.mem_append.mp hp with hp | hp
        · exact List.mem_append_left _ hp
        · exact List.mem_append_right _ (.tail _ (List.mem_append_right _ hp))
  · rcases List.mem_append.mp hp with hp | hp
    · refine ⟨fun hb => ?_, Nat.ne_of_gt (l _ (.tail _ (List.mem_append_left _ hD)) p hp), Nat.ne_of_gt (l _ (.head _) p hp)⟩
      obtain ⟨o, ho⟩ := hw _ hb
      exact Nat.lt_irrefl _ (l _ (.tail _ (List.mem_append_left _ ho)) p hp)
    · exact hl p hp
/-- a turn whose target is a name -/
theorem cturn_name {x : Str} {px : Pos} {elt : Expr} {ifs : List Expr} {scope : Scope} {cl : List (Str × Addr)} {I : Addr} {fp wr : List Addr} {n : Nat} {P : Nat → Value → Prop} {St : Nat → Heap → Prop} {h₀ : Heap} {L : Addr} {m : Str → Option Value} {Inv : Nat → List Value → Led → Prop}
    (hx : scope.names.lookup x = some .local) (hkind : scope.kind = .function) (hob : ∀ i h, St i h → ∀ b ∈ wr, ∃ o, h.get? b = some o) (hsub : ∀ b ∈ wr, b ∈ fp) (hwr : ∀ b ∈ wr, h₀.get? b = none) (hT : ∀ i h, St i h → ∀ b ∈ fp, ∀ o, h.get? b = some o → o.cls ≠ .type "tuple")
    (ok : ∀ C i v ys led own oC m₂ h tk E', i < n → P i v → Inv i ys led → Fr h₀ L h m → News h₀ L h ((C, oC) :: (own ++ led)) → NsO oC m₂ → m₂ x = some v → (∀ p ∈ own, p.2.cls ≠ .type "tuple") →
      wpAny (model prog w) A (tests ifs (compEnvC scope cl C env)) (fun b s₃ => if b = true then wpAny (model prog w) A (eval elt (compEnvC scope cl C env)) (fun y s₄ => PStep h₀ L m ((C, oC) :: (own ++ led)) led (Inv (i + 1) (ys ++ [y])) s s₄) E' s₃ else PStep h₀ L m ((C, oC) :: (own ++ led)) led (Inv (i + 1) ys) s s₃) E' { s with heap := h, toks := tk }) :
    CTurn prog w A env (.Name x px) elt ifs scope cl I fp wr n P St h₀ L m Inv s := by
  intro C D i v ys led own oC m₂ h tk E' hi hP hI hy hl st F N nC hoC hD hown hownD
  show wpAny _ A (pure ()) _ _ _
  refine wpAny_pure ?_
  have nCh := nC.ns (N _ (.head _)).1
  have hC0 := (N (C, oC) (.head _)).2.2
  have hCL : C ≠ L := (N (C, oC) (.head _)).2.1
  refine wpAny_assign_Name (wpAny_storeName_local (lookup_relabel_local hx) nCh (fun h₂ hn₂ hs₂ => ?_) (by simp [compEnvC, relabel, hkind]))
  replace hs₂ : Heap.SameBut C h h₂ := hs₂
  obtain ⟨oC', eC', nC'⟩ := NsO.of hn₂
  have F₂ := fr_ext F hs₂.extBut hC0 hCL
  have N₂ : News h₀ L h₂ ((C, oC') :: (own ++ led)) := by
    intro p hp
    rcases List.mem_cons.mp hp with rfl | hp
    · exact ⟨eC', hCL, hC0⟩
    · refine news_ext (fun q hq => N q (.tail _ hq)) hs₂.extBut (fun q hq => ?_) p hp
      rcases List.mem_append.mp hq with hq | hq
      · exact hoC q hq
      · exact (hl q hq).2.2
  obtain ⟨k, hD⟩ := hD
  have hw : ∀ b ∈ wr, ∃ o, (b, o) ∈ own := fun b hb => by
    obtain ⟨o, ho⟩ := hob _ _ st b hb
    exact ⟨o, hown b (hsub b hb) (hwr b hb) o ho⟩
  have hno : ∀ p ∈ own, p.2.cls ≠ .type "tuple" := fun p hp => by
    have e := (N p (.tail _ (List.mem_append_left _ hp))).1
    rcases hownD p hp with q | q
    · have e' := (N _ (.tail _ (List.mem_append_left _ hD))).1
      rw [← q, e] at e'
      rw [Option.some.inj e']
      intro q9; simp [W.listOf] at q9
    · exact hT _ _ st _ q _ e
  refine wpAny_mono (ok C i v ys led own oC' _ h₂ _ E' hi hP hI F₂ N₂ nC' (by simp) hno) (fun b s₃ q => ?_) fun _ _ q => q
  match b, q with
  | false, q => exact cstep_of nC' hD hw hl q
  | true, q => exact wpAny_mono q (fun y s₄ q => cstep_of nC' hD hw hl q) fun _ _ q => q
theorem lst_new {h : Heap} {L : Addr} {h₀ : Heap} {m : Str → Option Value} (F : Fr h₀ L h m) : ∀ b ∈ [h.objs.size], h₀.get? b = none := fun b hb => by
  rw [List.mem_singleton.mp hb]; exact next_is_new F
/-- a list of the ledger is iterated -/
theorem iter_list {target elt : Expr} {ifs : List Expr} {scope : Scope} {cl : List (Str × Addr)} {h₀ : Heap} {L ax : Addr} {vs : List Value} {k : Nat} {led : Led} {m : Str → Option Value} {md : Addr → Str → Option Value} {Qd : Addr → Shared → Prop} (Inv : Nat → List Value → Led → Prop)
    (hh : A.handled = none) (F : Fr h₀ L s.heap m) (N : News h₀ L s.heap led) (hm : (ax, listOf vs.toArray k) ∈ led) (hsz : vs.length ≤ sizeLine) (h0 : Inv 0 [] led)
    (turn : ∀ I, h₀.get? I = none → CTurn prog w A env target elt ifs scope cl I [I, ax] [I] vs.length (fun i v => vs[i]? = some v) (fun i h => h.IsListIter I ax i ∧ h.IsList ax vs.toArray) h₀ L m Inv s)
    (done : ∀ D ys led' k h' tk, Inv vs.length ys led' → ys.length ≤ vs.length → Fr h₀ L h' (md D) → News h₀ L h' ((D, listOf ys.toArray k) :: led') → (∀ p ∈ led', p.1 ≠ D) → (∀ p ∈ led, p.1 < D) → Qd D { s with heap := h', toks := tk }) :
    wpAny (model prog w) A (pyIter (.ref ax)) (CompAt prog w A env target elt ifs scope cl h₀ L m md Qd) E s := by
  have hl : s.heap.IsList ax vs.toArray := isListOf N hm
  have hax := Heap.lt_size (N _ hm).1
  refine wpAny_pyIter_list hl ?_
  have W := Walks.list (prog := prog) (w := w) hh s.heap.objs.size ax (Nat.ne_of_lt hax) vs.toArray
  have hz : vs.toArray.size = vs.length := List.size_toArray ..
  rw [hz] at W
  refine ⟨s.heap.objs.size, [s.heap.objs.size, ax], [s.heap.objs.size], vs.length, _, _, led, Inv, rfl, W, hsz, ⟨⟨_, Heap.get?_push_size _ rfl, rfl, rfl⟩, hl.at fun o e => Heap.get?_push_of_some _ e⟩, ?_, ?_, lst_new F, F.push _, (fun p hp => ⟨Heap.get?_push_of_some _ (N p hp).1, (N p hp).2⟩), ?_, h0, ?_, done⟩
  · intro b hb
    show b < (s.heap.push _).objs.size
    rw [Heap.size_push]
    rcases List.mem_cons.mp hb with rfl | hb
    · exact Nat.lt_succ_self _
    · rw [List.mem_singleton.mp hb]; exact Nat.lt_succ_of_lt hax
  · intro q
    rcases List.mem_cons.mp q with q | q
    · exact absurd F.ns.lt (q ▸ Nat.lt_irrefl _)
    · exact (N _ hm).2.1 (List.mem_singleton.mp q).symm
  · intro p hp q
    exact absurd (Heap.lt_size (N p hp).1) ((List.mem_singleton.mp q) ▸ Nat.lt_irrefl _)
  · have := turn s.heap.objs.size (next_is_new F)
    have e : (fun (i : Nat) (v : Value) => vs.toArray[i]? = some v) = fun i v => vs[i]? = some v := by funext i v; rw [List.getElem?_toArray]
    rw [e]
    exact this
theorem listiter_ob {I ax : Addr} {vs : List Value} : ∀ (i : Nat) (h : Heap), (h.IsListIter I ax i ∧ h.IsList ax vs.toArray) → ∀ b ∈ [I], ∃ o, h.get? b = some o := fun i h st b hb => by
  rw [List.mem_singleton.mp hb]; exact ⟨_, st.1.choose_spec.1⟩
theorem listiter_nt {I ax : Addr} {vs : List Value} : ∀ (i : Nat) (h : Heap), (h.IsListIter I ax i ∧ h.IsList ax vs.toArray) → ∀ b ∈ [I, ax], ∀ o, h.get? b = some o → o.cls ≠ .type "tuple" := fun i h st b hb o e => by
  obtain ⟨⟨o1, e1, c1, _⟩, ⟨o2, e2, c2, _⟩⟩ := st
  rcases List.mem_cons.mp hb with rfl | hb
  · rw [e] at e1; cases e1
    rw [c1]; intro q; simp at q
  · rw [List.mem_singleton.mp hb] at e
    rw [e] at e2; cases e2
    rw [c2]; intro q; simp at q
/-- [elt for x in xs], xs a list of the ledger -/
theorem comp_map_list {x : Str} {px : Pos} {elt : Expr} {scope : Scope} {cl : List (Str × Addr)} {h₀ : Heap} {L ax : Addr} {vs : List Value} {k : Nat} {led : Led} {m : Str → Option Value} {md : Addr → Str → Option Value} {Qd : Addr → Shared → Prop} (Inv : Nat → List Value → Led → Prop)
    (hx : scope.names.lookup x = some .local) (hkind : scope.kind = .function)
    (hh : A.handled = none) (F : Fr h₀ L s.heap m) (N : News h₀ L s.heap led) (hm : (ax, listOf vs.toArray k) ∈ led) (hsz : vs.length ≤ sizeLine) (h0 : Inv 0 [] led)
    (ok : ∀ C i v ys led' own oC m₂ h tk E', vs[i]? = some v → Inv i ys led' → Fr h₀ L h m → News h₀ L h ((C, oC) :: (own ++ led')) → NsO oC m₂ → m₂ x = some v → (∀ p ∈ own, p.2.cls ≠ .type "tuple") →
      wpAny (model prog w) A (eval elt (compEnvC scope cl C env)) (fun y s₄ => PStep h₀ L m ((C, oC) :: (own ++ led')) led' (Inv (i + 1) (ys ++ [y])) s s₄) E' { s with heap := h, toks := tk })
    (done : ∀ D ys led' k h' tk, Inv vs.length ys led' → ys.length ≤ vs.length → Fr h₀ L h' (md D) → News h₀ L h' ((D, listOf ys.toArray k) :: led') → (∀ p ∈ led', p.1 ≠ D) → (∀ p ∈ led, p.1 < D) → Qd D { s with heap := h', toks := tk }) :
    wpAny (model prog w) A (pyIter (.ref ax)) (CompAt prog w A env (.Name x px) elt [] scope cl h₀ L m md Qd) E s := by
  refine iter_list Inv hh F N hm hsz h0 (fun I hI0 => ?_) done
  refine cturn_name hx hkind listiter_ob (fun b hb => by rw [List.mem_singleton.mp hb]; exact .head _) (fun b hb => by rw [List.mem_singleton.mp hb]; exact hI0) listiter_nt ?_
  intro C i v ys led' own oC m₂ h tk E' hi hP hI F' N' nC hm₂ hno
  refine wpAny_tests_nil ?_
  rw [if_pos rfl]
  exact ok C i v ys led' own oC m₂ h tk E' hP hI F' N' nC hm₂ hno
/-- [elt for x in xs if c] -/
theorem comp_filter_list {x : Str} {px : Pos} {elt c : Expr} {scope : Scope} {cl : List (Str × Addr)} {h₀ : Heap} {L ax : Addr} {vs : List Value} {k : Nat} {led : Led} {m : Str → Option Value} {md : Addr → Str → Option Value} {Qd : Addr → Shared → Prop} (Inv : Nat → List Value → Led → Prop)
    (hx : scope.names.lookup x = some .local) (hkind : scope.kind = .function)
    (hh : A.handled = none) (F : Fr h₀ L s.heap m) (N : News h₀ L s.heap led) (hm : (ax, listOf vs.toArray k) ∈ led) (hsz : vs.length ≤ sizeLine) (h0 : Inv 0 [] led)
    (ok : ∀ C i v ys led' own oC m₂ h tk E', vs[i]? = some v → Inv i ys led' → Fr h₀ L h m → News h₀ L h ((C, oC) :: (own ++ led')) → NsO oC m₂ → m₂ x = some v → (∀ p ∈ own, p.2.cls ≠ .type "tuple") →
      wpAny (model prog w) A (isTrue c (compEnvC scope cl C env) (eval c (compEnvC scope cl C env))) (fun b s₃ => if b = true then wpAny (model prog w) A (eval elt (compEnvC scope cl C env)) (fun y s₄ => PStep h₀ L m ((C, oC) :: (own ++ led')) led' (Inv (i + 1) (ys ++ [y])) s s₄) E' s₃ else PStep h₀ L m ((C, oC) :: (own ++ led')) led' (Inv (i + 1) ys) s s₃) E' { s with heap := h, toks := tk })
    (done : ∀ D ys led' k h' tk, Inv vs.length ys led' → ys.length ≤ vs.length → Fr h₀ L h' (md D) → News h₀ L h' ((D, listOf ys.toArray k) :: led') → (∀ p ∈ led', p.1 ≠ D) → (∀ p ∈ led, p.1 < D) → Qd D { s with heap := h', toks := tk }) :
    wpAny (model prog w) A (pyIter (.ref ax)) (CompAt prog w A env (.Name x px) elt [c] scope cl h₀ L m md Qd) E s := by
  refine iter_list Inv hh F N hm hsz h0 (fun I hI0 => ?_) done
  refine cturn_name hx hkind listiter_ob (fun b hb => by rw [List.mem_singleton.mp hb]; exact .head _) (fun b hb => by rw [List.mem_singleton.mp hb]; exact hI0) listiter_nt ?_
  intro C i v ys led' own oC m₂ h tk E' hi hP hI F' N' nC hm₂ hno
  exact wpAny_tests_one (ok C i v ys led' own oC m₂ h tk E' hP hI F' N' nC hm₂ hno)
/-- a name of the block -/
theorem comp_local {M : Model} {scope : Scope} {cl : List (Str × Addr)} {C L : Addr} {h₀ : Heap} {x : Str} {pos : Pos} {v : Value} {led : Led} {oC : Obj} {m₂ : Str → Option Value} {Q : Value → Shared → Prop}
    (N : News h₀ L s.heap led) (hm : (C, oC) ∈ led) (nC : NsO oC m₂) (hv : m₂ x = some v) (h : Q v s)
    (hk : (compEnvC scope cl C env).scope.kind = .function) (hl : (compEnvC scope cl C env).kindOf x = some .local) (hd : (x == ("__debug__" : Str)) = false) :
    wpAny M A (eval (.Name x pos) (compEnvC scope cl C env)) Q E s := wpAny_Name (wpAny_loadName_local hk hl (nC.ns (N _ hm).1) hv h) hd
theorem comp_cell {M : Model} {scope : Scope} {cl : List (Str × Addr)} {C L c : Addr} {h₀ : Heap} {x : Str} {pos : Pos} {v : Value} {led : Led} {oc : Obj} {Q : Value → Shared → Prop}
    (N : News h₀ L s.heap led) (hm : (c, oc) ∈ led) (hd' : oc.data = .cell (some v)) (h : Q v s)
    (hk : (compEnvC scope cl C env).scope.kind = .function) (hl : (compEnvC scope cl C env).kindOf x = some .cell) (hc : (compEnvC scope cl C env).cells.lookup x = some c) (hd : (x == ("__debug__" : Str)) = false) :
    wpAny M A (eval (.Name x pos) (compEnvC scope cl C env)) Q E s := wpAny_Name (wpAny_loadName_cell hk hl hc ⟨oc, (N _ hm).1, hd'⟩ h) hd
end
/-- kept out of the walk's sight -/
def Hold (P : Prop) : Prop := P
theorem held {P : Prop} (h : Hold P) : P := h
end Mine
end
section
open PySem PySem.W PyProof.Rows PySem.Calls
open Sem (wp)
set_option maxRecDepth 100000
set_option maxHeartbeats 4000000
set_option linter.unusedVariables false
namespace Mine
example : True := by (k_with_none; trivial)
section
variable {prog : Program} {w : World} {A : Around} {E : Value → Shared → Prop} {s : Shared} {env : Env}
theorem set_any {D L : Addr} {vs : List Value} {n : Nat} {k : Int} {t : Tok} {v : Value} {h₀ : Heap} {m : Str → Option Value} {news news' : Led} {Q : Unit → Shared → Prop} (F : Fr h₀ L s.heap m) (N : News h₀ L s.heap news)
    (U : Upd D (listOf vs.toArray n) (listOf (vs.set k.toNat v).toArray n) news news') (h0 : 0 ≤ k) (h1 : k < vs.length) (hfit : k < 2 ^ 63)
    (h : ∀ h', Fr h₀ L h' m → News h₀ L h' news' → Q () { s with heap := h' }) : wpAny (model prog w) A (setItem (.ref D) (.int k t) v) Q E s := by
  obtain ⟨pre, post, rfl, rfl, a, b⟩ := U.split
  have z := N (D, listOf vs.toArray n) (List.mem_append.mpr (.inr (.head _)))
  have hs : vs.toArray.size = vs.length := List.size_toArray ..
  refine ki_setAt z.1 h0 hfit (by omega) (h _ (F.change (Heap.SameBut.update ..) z.2.1 z.2.2) (ki_turn _ N a b ?_ ?_))
  · apply Array.toList_inj.mp; simp
  · simp
theorem pick_all (vs : List Value) : slicePick vs.toArray none none none = vs.toArray := by
  have e : sliceBounds none none none vs.toArray.size = (((0 : Nat) : Int), ((vs.toArray.size : Nat) : Int), 1) := by
    simp only [sliceBounds, Option.getD_none, show (1 : Int) > 0 by decide, if_true]
    rfl
  rw [kmk_pick_nat _ e]
  simp
theorem pick_upto (vs : List Value) {y : Int} (h : 0 ≤ y) : slicePick vs.toArray none (some y) none = (vs.take y.toNat).toArray := by
  have e : sliceBounds none (some y) none vs.toArray.size = (((0 : Nat) : Int), ((min y.toNat vs.toArray.size : Nat) : Int), 1) := by
    simp only [sliceBounds, Option.getD_none, show (1 : Int) > 0 by decide, if_true, if_neg (show ¬ (y < 0) by omega)]
    congr 1
    congr 1
    omega
  rw [kmk_pick_nat _ e]
  simp only [List.drop_zero, Nat.sub_zero, List.size_toArray, kmk_take_min]
theorem pick_from (vs : List Value) {x : Int} (h : 0 ≤ x) : slicePick vs.toArray (some x) none none = (vs.drop x.toNat).toArray := by
  have e : sliceBounds (some x) none none vs.toArray.size = (((min x.toNat vs.toArray.size : Nat) : Int), ((vs.toArray.size : Nat) : Int), 1) := by
    simp only [sliceBounds, Option.getD_none, show (1 : Int) > 0 by decide, if_true, if_neg (show ¬ (x < 0) by omega)]
    congr 1
    omega
  rw [kmk_pick_nat _ e]
  simp only [List.size_toArray, kmk_drop_min]
  rw [List.take_of_length_le (by rw [List.length_drop]; omega)]
/-- the same, the word told of the ledger ahead -/
theorem comp_map_listG {x : Str} {px : Pos} {elt : Expr} {scope : Scope} {cl : List (Str × Addr)} {h₀ : Heap} {L ax : Addr} {vs : List Value} {k : Nat} {led : Led} {m : Str → Option Value} {md : Addr → Str → Option Value} {Qd : Addr → Shared → Prop} (Inv : Led → Nat → List Value → Led → Prop)
    (hx : scope.names.lookup x = some .local) (hkind : scope.kind = .function)
    (hh : A.handled = none) (F : Fr h₀ L s.heap m) (N : News h₀ L s.heap led) (hm : (ax, listOf vs.toArray k) ∈ led) (hsz : vs.length ≤ sizeLine) (h0 : Inv led 0 [] led)
    (ok : ∀ C i v ys led' own oC m₂ h tk E', vs[i]? = some v → Inv led i ys led' → Fr h₀ L h m → News h₀ L h ((C, oC) :: (own ++ led')) → NsO oC m₂ → m₂ x = some v → (∀ p ∈ own, p.2.cls ≠ .type "tuple") →
      wpAny (model prog w) A (eval elt (compEnvC scope cl C env)) (fun y s₄ => PStep h₀ L m ((C, oC) :: (own ++ led')) led' (Inv led (i + 1) (ys ++ [y])) s s₄) E' { s with heap := h, toks := tk })
    (done : ∀ D ys led' k h' tk, Inv led vs.length ys led' → ys.length ≤ vs.length → Fr h₀ L h' (md D) → News h₀ L h' ((D, listOf ys.toArray k) :: led') → (∀ p ∈ led', p.1 ≠ D) → (∀ p ∈ led, p.1 < D) → Qd D { s with heap := h', toks := tk }) :
    wpAny (model prog w) A (pyIter (.ref ax)) (CompAt prog w A env (.Name x px) elt [] scope cl h₀ L m md Qd) E s := comp_map_list (Inv led) hx hkind hh F N hm hsz h0 ok done
theorem comp_filter_listG {x : Str} {px : Pos} {elt c : Expr} {scope : Scope} {cl : List (Str × Addr)} {h₀ : Heap} {L ax : Addr} {vs : List Value} {k : Nat} {led : Led} {m : Str → Option Value} {md : Addr → Str → Option Value} {Qd : Addr → Shared → Prop} (Inv : Led → Nat → List Value → Led → Prop)
    (hx : scope.names.lookup x = some .local) (hkind : scope.kind = .function)
    (hh : A.handled = none) (F : Fr h₀ L s.heap m) (N : News h₀ L s.heap led) (hm : (ax, listOf vs.toArray k) ∈ led) (hsz : vs.length ≤ sizeLine) (h0 : Inv led 0 [] led)
    (ok : ∀ C i v ys led' own oC m₂ h tk E', vs[i]? = some v → Inv led i ys led' → Fr h₀ L h m → News h₀ L h ((C, oC) :: (own ++ led')) → NsO oC m₂ → m₂ x = some v → (∀ p ∈ own, p.2.cls ≠ .type "tuple") →
      wpAny (model prog w) A (isTrue c (compEnvC scope cl C env) (eval c (compEnvC scope cl C env))) (fun b s₃ => if b = true then wpAny (model prog w) A (eval elt (compEnvC scope cl C env)) (fun y s₄ => PStep h₀ L m ((C, oC) :: (own ++ led')) led' (Inv led (i + 1) (ys ++ [y])) s s₄) E' s₃ else PStep h₀ L m ((C, oC) :: (own ++ led')) led' (Inv led (i + 1) ys) s s₃) E' { s with heap := h, toks := tk })
    (done : ∀ D ys led' k h' tk, Inv led vs.length ys led' → ys.length ≤ vs.length → Fr h₀ L h' (md D) → News h₀ L h' ((D, listOf ys.toArray k) :: led') → (∀ p ∈ led', p.1 ≠ D) → (∀ p ∈ led, p.1 < D) → Qd D { s with heap := h', toks := tk }) :
    wpAny (model prog w) A (pyIter (.ref ax)) (CompAt prog w A env (.Name x px) elt [c] scope cl h₀ L m md Qd) E s := comp_filter_list (Inv led) hx hkind hh F N hm hsz h0 ok done
/-- the end of a for's turn -/
inductive FStepI (h₀ : Heap) (L : Addr) (own : Led) (I : Addr) (Jn : (Str → Option Value) → Led → Prop) (g : Array GenState) (d : Drawn) (o : OsState) (f : Flow) (s' : Shared) : Prop
  | mk (ef : f = .next) (h' : Heap) (tk' : Nat) (m' : Str → Option Value) (nx : Led) (e : s' = ⟨h', g, d, tk', o⟩) (F : Fr h₀ L h' m') (N : News h₀ L h' (own ++ nx)) (off : ∀ p ∈ nx, p.1 ≠ I) (j : Jn m' nx)
abbrev FStep (h₀ : Heap) (L : Addr) (own : Led) (I : Addr) (Jn : (Str → Option Value) → Led → Prop) (s₁ : Shared) (f : Flow) (s' : Shared) : Prop := FStepI h₀ L own I Jn s₁.gens s₁.drawn s₁.os f s'
theorem FStep.intro {h₀ h' : Heap} {L I : Addr} {own nx : Led} {Jn : (Str → Option Value) → Led → Prop} {s₁ : Shared} {tk' : Nat} {m' : Str → Option Value} (F : Fr h₀ L h' m') (N : News h₀ L h' (own ++ nx)) (o : ∀ p ∈ nx, p.1 ≠ I) (j : Jn m' nx) : FStep h₀ L own I Jn s₁ .next { s₁ with heap := h', toks := tk' } := ⟨rfl, h', tk', m', nx, rfl, F, N, o, j⟩
/-- a for over a list of the ledger, any target: J holds between the turns, of the frame and the ledger -/
theorem for_list {target : Expr} {body : List Stmt} {h₀ : Heap} {ax : Addr} {vs : List Value} {k : Nat} {led : Led} {m : Str → Option Value} {Q : Flow → Shared → Prop} (J : Nat → (Str → Option Value) → Led → Prop)
    (hh : A.handled = none) (F : Fr h₀ env.locals s.heap m) (N : News h₀ env.locals s.heap led) (hm : (ax, listOf vs.toArray k) ∈ led) (h0 : J 0 m led)
    (turn : ∀ i v m₁ led₁ own I s₁, vs[i]? = some v → J i m₁ led₁ → (∀ p ∈ led₁, p.1 ≠ I) → Fr h₀ env.locals s₁.heap m₁ → News h₀ env.locals s₁.heap (own ++ led₁) → (∃ oI, (I, oI) ∈ own) → (∀ p ∈ own, p.1 = I ∨ p.1 = ax) →
      wpAny (model prog w) A (assign target env v) (fun _ s₃ => wpAny (model prog w) A (execs body env) (FStep h₀ env.locals own I (J (i + 1)) s₁) E s₃) E s₁)
    (done : ∀ h' tk m' led', J vs.length m' led' → Fr h₀ env.locals h' m' → News h₀ env.locals h' led' → Q .next { s with heap := h', toks := tk }) :
    wpAny (model prog w) A (pyIter (.ref ax)) (fun it s₂ => LoopAtT prog w A h₀ env target body Q E it s₂) E s := by
  have hl : s.heap.IsList ax vs.toArray := isListOf N hm
  have hax := Heap.lt_size (N _ hm).1
  refine wpAny_pyIter_list hl ?_
  have W := Walks.list (prog := prog) (w := w) hh s.heap.objs.size ax (Nat.ne_of_lt hax) vs.toArray
  have hz : vs.toArray.size = vs.length := List.size_toArray ..
  rw [hz] at W
  refine ⟨s.heap.objs.size, [s.heap.objs.size, ax], [s.heap.objs.size], vs.length, _, _, m, led, J, rfl, W, ?_, lst_new F, ?_, ⟨⟨_, Heap.get?_push_size _ rfl, rfl, rfl⟩, hl.at fun o e => Heap.get?_push_of_some _ e⟩, F.push _, (fun p hp => ⟨Heap.get?_push_of_some _ (N p hp).1, (N p hp).2⟩), (fun i s' v Q' st hQ' => letGo_listiter st.1 hQ'), h0, ?_, fun h' tk m' led' F' N' _ hJ => done h' tk m' led' hJ F' N'⟩
  · intro q
    rcases List.mem_cons.mp q with q | q
    · exact absurd F.ns.lt (q ▸ Nat.lt_irrefl _)
    · exact (N _ hm).2.1 (List.mem_singleton.mp q).symm
  · intro p hp q
    exact absurd (Heap.lt_size (N p hp).1) ((List.mem_singleton.mp q) ▸ Nat.lt_irrefl _)
  · intro i v m₁ led₁ s₁ own hi hP hJ hoff hsub hget hown st F₁ N₁
    obtain ⟨⟨oI, hoI, _⟩, _⟩ := st
    have hv : vs[i]? = some v := by rw [← List.getElem?_toArray]; exact hP
    refine wpAny_mono (turn i v m₁ led₁ own s.heap.objs.size s₁ hv hJ (fun p hp q => hoff p hp (by rw [q]; exact .head _)) F₁ N₁ ⟨oI, hown _ (.head _) (next_is_new F) oI hoI⟩ (fun p hp => (List.mem_cons.mp (hsub p hp)).imp id List.mem_singleton.mp)) (fun _ s₃ q => wpAny_mono q (fun f s' q => ?_) fun _ _ x => x) fun _ _ x => x
    obtain ⟨rfl, h', tk', m', nx, rfl, F', N', o', j'⟩ := q
    exact ⟨rfl, h', tk', m', nx, rfl, F', N', fun p hp q => o' p hp (List.mem_singleton.mp q), j'⟩
end
end Mine
end
section
open PySem PySem.W PyProof.Rows PySem.Calls
open Sem (wp)
set_option maxRecDepth 100000
set_option maxHeartbeats 4000000
set_option linter.unusedVariables false
namespace Mine
example : True := by (k_with_none; trivial)
section
variable {prog : Program} {w : World} {A : Around} {E : Value → Shared → Prop} {R : Result → Shared → Prop} {s : Shared}
abbrev LC2 (elt t0 i0 t1 i1 : Expr) (scope : Scope) (pos : Pos) : Expr := .ListComp elt [⟨t0, i0, [], 0⟩, ⟨t1, i1, [], 0⟩] scope pos
theorem compTurn2_in (elt t0 i0 t1 i1 : Expr) (scope : Scope) (pos : Pos) (it acc : Value) (env : Env) :
    compTurn (LC2 elt t0 i0 t1 i1 scope pos) 1 it acc env = (standAt i1.pos >>= fun _ => pyNext it >>= fun r => match r with
      | none => pure (.done .next)
      | some v => letOwnedTupleGo t1 it v >>= fun _ => assign t1 env v >>= fun _ =>
        (eval elt env >>= fun x => call (.builtin "list.append") [acc, x] >>= fun _ => pure ()) >>= fun _ =>
          again (.compLoop (LC2 elt t0 i0 t1 i1 scope pos) 1 it acc env)) := by rfl
theorem compTurn2_out (elt t0 i0 t1 i1 : Expr) (scope : Scope) (pos : Pos) (it acc : Value) (env : Env) :
    compTurn (LC2 elt t0 i0 t1 i1 scope pos) 0 it acc env = (standAt i0.pos >>= fun _ => pyNext it >>= fun r => match r with
      | none => pure (.done .next)
      | some v => letOwnedTupleGo t0 it v >>= fun _ => assign t0 env v >>= fun _ =>
        eval i1 env >>= fun x => standAt i1.pos >>= fun _ => foldedSetIterable i1 env x >>= fun x' => holding [x'] (pyIter x') >>= fun it' =>
          runOwn (.compStart (LC2 elt t0 i0 t1 i1 scope pos) 1 it' acc env) env >>= fun _ =>
          again (.compLoop (LC2 elt t0 i0 t1 i1 scope pos) 0 it acc env)) := by rfl
theorem comp2In_go {elt t0 i0 t1 i1 : Expr} {scope : Scope} {pos : Pos} {it acc : Value} {env : Env} (I : Nat → Shared → Prop)
    (turn : ∀ n s, I n s → wpAny (model prog w) A (pyNext it) (fun r s₁ => match r with
      | none => R (.ok .next) s₁
      | some v => wpAny (model prog w) A (letOwnedTupleGo t1 it v) (fun _ s₁' => wpAny (model prog w) A (assign t1 env v) (fun _ s₂ =>
          wpAny (model prog w) A (eval elt env) (fun x s₄ =>
              wpAny (model prog w) A (call (.builtin "list.append") [acc, x]) (fun _ s₅ => ∃ m, m < n ∧ I m s₅) (notedBy (model prog w) A env fun e s' => R (.error e) s') s₄) (notedBy (model prog w) A env fun e s' => R (.error e) s') s₂) (notedBy (model prog w) A env fun e s' => R (.error e) s') s₁') (notedBy (model prog w) A env fun e s' => R (.error e) s') s₁) (notedBy (model prog w) A env fun e s' => R (.error e) s') s)
    (n : Nat) (h : I n s) : codeAny (model prog w) A (.compLoop (LC2 elt t0 i0 t1 i1 scope pos) 1 it acc env) R s := by
  refine codeAny_loop rfl I (fun n s hI => ?_) n h
  show wpAny _ A ((compTurn (LC2 elt t0 i0 t1 i1 scope pos) 1 it acc env).onRaise (fun x => do noteFrame x env; theTreesLotGoes x)) _ _ s
  refine wpAny_noted ?_
  rw [compTurn2_in]
  refine wpAny_bind (wpAny_standAt (wpAny_bind (wpAny_mono (turn n s hI) (fun r s₁ h₁ => ?_) fun _ _ q => q)))
  match r, h₁ with
  | none, h₁ => exact wpAny_pure h₁
  | some v, h₁ =>
    refine wpAny_bind (wpAny_mono h₁ (fun _ s₂ h₂ => wpAny_bind (wpAny_mono h₂ (fun _ s₃ h₃ => ?_) fun _ _ q => q)) fun _ _ q => q)
    exact wpAny_bind (wpAny_bind (wpAny_mono h₃ (fun x s₅ h₅ => wpAny_bind (wpAny_mono h₅ (fun _ s₆ h₆ => wpAny_pure (wpAny_pure ⟨rfl, h₆⟩)) fun _ _ q => q)) fun _ _ q => q))
theorem comp2Out_go {elt t0 i0 t1 i1 : Expr} {scope : Scope} {pos : Pos} {it acc : Value} {env : Env} (I : Nat → Shared → Prop) (hs : ∀ x, foldedSetIterable i1 env x = pure x)
    (turn : ∀ n s, I n s → wpAny (model prog w) A (pyNext it) (fun r s₁ => match r with
      | none => R (.ok .next) s₁
      | some v => wpAny (model prog w) A (letOwnedTupleGo t0 it v) (fun _ s₁' => wpAny (model prog w) A (assign t0 env v) (fun _ s₂ =>
          wpAny (model prog w) A (eval i1 env) (fun x s₃ => wpAny (model prog w) A (pyIter x) (fun it' s₄ =>
            codeAny (model prog w) (A.mark none) (.compStart (LC2 elt t0 i0 t1 i1 scope pos) 1 it' acc env) (fun r s' => match r with | .ok _ => ∃ m, m < n ∧ I m s' | .error x => cameBackBy (model prog w) A env (notedBy (model prog w) A env fun e s' => R (.error e) s') x s') s₄)
            (notedBy (model prog w) A env fun e s' => R (.error e) s') s₃) (notedBy (model prog w) A env fun e s' => R (.error e) s') s₂) (notedBy (model prog w) A env fun e s' => R (.error e) s') s₁') (notedBy (model prog w) A env fun e s' => R (.error e) s') s₁) (notedBy (model prog w) A env fun e s' => R (.error e) s') s)
    (n : Nat) (h : I n s) : codeAny (model prog w) A (.compLoop (LC2 elt t0 i0 t1 i1 scope pos) 0 it acc env) R s := by
  refine codeAny_loop rfl I (fun n s hI => ?_) n h
  show wpAny _ A ((compTurn (LC2 elt t0 i0 t1 i1 scope pos) 0 it acc env).onRaise (fun x => do noteFrame x env; theTreesLotGoes x)) _ _ s
  refine wpAny_noted ?_
  rw [compTurn2_out]
  refine wpAny_bind (wpAny_standAt (wpAny_bind (wpAny_mono (turn n s hI) (fun r s₁ h₁ => ?_) fun _ _ q => q)))
  match r, h₁ with
  | none, h₁ => exact wpAny_pure h₁
  | some v, h₁ =>
    refine wpAny_bind (wpAny_mono h₁ (fun _ s₂ h₂ => wpAny_bind (wpAny_mono h₂ (fun _ s₃ h₃ => ?_) fun _ _ q => q)) fun _ _ q => q)
    refine wpAny_bind (wpAny_mono h₃ (fun x s₄ h₄ => wpAny_bind (wpAny_standAt (wpAny_bind (wpAny_of_eq (hs x) (wpAny_bind (wpAny_holding (wpAny_mono h₄ (fun it' s₅ h₅ => ?_) fun _ _ q => q))))))) fun _ _ q => q)
    exact wpAny_bind (wpAny_runOwn (codeAny_mono h₅ fun r s' hr => by
      cases r with
      | ok f => exact wpAny_pure ⟨rfl, hr⟩
      | error x => exact hr))
theorem codeAny_compStart_in {elt t0 i0 t1 i1 : Expr} {scope : Scope} {pos : Pos} {it acc : Value} {env : Env}
    (h0 : codeAny (model prog w) A (.compLoop (LC2 elt t0 i0 t1 i1 scope pos) 1 it acc env) R s)
    (h : wpAny (model prog w) A (pyIter it) (fun it' s' => codeAny (model prog w) A (.compLoop (LC2 elt t0 i0 t1 i1 scope pos) 1 it' acc env) R s')
      (notedBy (model prog w) A env fun x s' => R (.error x) s') s) :
    codeAny (model prog w) A (.compStart (LC2 elt t0 i0 t1 i1 scope pos) 1 it acc env) R s := by
  refine codeAny_of_tree ?_
  show wpAny _ _ ((compStart (LC2 elt t0 i0 t1 i1 scope pos) 1 it acc env).onRaise (fun x => do noteFrame x env; standAt theWindowsPlace)) _ _ s
  refine wpAny_notedAt ?_
  unfold compStart
  show wpAny _ _ (ask >>= _) _ _ s
  refine wpAny_bind (wpAny_askSetting (wpAny_ite ?_))
  split
  · first
      | exact wpAny_bind (wpAny_pure (wpAny_pure (And.intro rfl h0)))
      | exact wpAny_pure (And.intro rfl h0)
  · first
      | exact wpAny_bind (wpAny_rule (wpAny_bind (wpAny_standAt (wpAny_bind (wpAny_mono h (fun it' s' h' => wpAny_pure (And.intro rfl h')) fun _ _ x => x)))))
      | (refine wpAny_bind (wpAny_rule ?_); show wpAny _ _ (standAt i1.pos >>= _) _ _ s; exact wpAny_bind (wpAny_standAt (wpAny_bind (wpAny_mono h (fun it' s' h' => wpAny_pure (And.intro rfl h')) fun _ _ x => x))))
end
end Mine
end
section
open PySem PySem.W PyProof.Rows PySem.Calls
open Sem (wp)
set_option maxRecDepth 100000
set_option maxHeartbeats 4000000
set_option linter.unusedVariables false
namespace Mine
example : True := by (k_with_none; trivial)
section
variable {prog : Program} {w : World} {A : Around} {E : Value → Shared → Prop} {R : Result → Shared → Prop} {s : Shared}
/-- the inner loop -/
theorem comp2_in {elt t0 i0 t1 i1 : Expr} {scope : Scope} {pos : Pos} {I D : Addr} {fp wr : List Addr} {n : Nat} {P : Nat → Value → Prop} {St : Nat → Heap → Prop} {cenv : Env}
    {h₀ : Heap} {L : Addr} {m m₀ : Str → Option Value} {led₀ : Led} {ys₀ : List Value} {k₀ : Nat} (W : Walks prog w A I fp wr n P St) (Inv : Nat → List Value → Led → Prop) (hn : n + ys₀.length ≤ sizeLine)
    (hLf : L ∉ fp) (hwr : ∀ b ∈ wr, h₀.get? b = none) (hD0 : h₀.get? D = none) (hDL : D ≠ L) (hC0 : h₀.get? cenv.locals = none) (hCL : cenv.locals ≠ L) (hDC : D ≠ cenv.locals) (hDf : D ∉ fp) (hCf : cenv.locals ∉ fp)
    (st : St 0 s.heap) (F : Fr h₀ L s.heap m) (N : News h₀ L s.heap led₀) (hled : ∀ p ∈ led₀, p.1 ∉ wr ∧ p.1 ≠ D ∧ p.1 ≠ cenv.locals) (hacc : s.heap.get? D = some (listOf ys₀.toArray k₀)) (hns : s.heap.Ns cenv.locals m₀) (h0 : Inv 0 ys₀ led₀)
    (Pm : (Str → Option Value) → Prop) (hPm : Pm m₀)
    (turn : ∀ i v ys led own oC m₂ h tk E', i < n → P i v → Inv i ys led → Pm m₂ → (∀ p ∈ led, p.1 ∉ wr ∧ p.1 ≠ D ∧ p.1 ≠ cenv.locals) → St (i + 1) h → Fr h₀ L h m → News h₀ L h ((cenv.locals, oC) :: (own ++ led)) → NsO oC m₂ → (∀ p ∈ own, p.1 ≠ cenv.locals) → (∃ k, (D, listOf ys.toArray k) ∈ own) → (∀ b ∈ fp, h₀.get? b = none → ∀ o, h.get? b = some o → (b, o) ∈ own) →
      wpAny (model prog w) A (letOwnedTupleGo t1 (.ref I) v) (fun _ s₁ => wpAny (model prog w) A (assign t1 cenv v) (fun _ s₂ =>
          wpAny (model prog w) A (eval elt cenv) (fun y s₄ => CStep h₀ L m cenv.locals D wr own Inv (i + 1) (ys ++ [y]) s s₄ ∧ ∀ m', s₄.heap.Ns cenv.locals m' → Pm m') E' s₂) E' s₁) E' { s with heap := h, toks := tk })
    (done : ∀ ys led oC m₂ k h tk, Inv n ys led → ys.length = n + ys₀.length → Pm m₂ → Fr h₀ L h m → News h₀ L h ((D, listOf ys.toArray k) :: (cenv.locals, oC) :: led) → NsO oC m₂ → (∀ p ∈ led, p.1 ≠ D ∧ p.1 ≠ cenv.locals) → R (.ok .next) { s with heap := h, toks := tk }) :
    codeAny (model prog w) A (.compLoop (LC2 elt t0 i0 t1 i1 scope pos) 1 (.ref I) (.ref D) cenv) R s := by
  have hLw : L ∉ wr := fun h => hLf (W.sub _ h)
  have hDw : D ∉ wr := fun h => hDf (W.sub _ h)
  have hCw : cenv.locals ∉ wr := fun h => hCf (W.sub _ h)
  refine comp2In_go (LoopAt h₀ L m D cenv.locals wr n St (fun i ys led m₂ => Inv i ys led ∧ ys.length = i + ys₀.length ∧ Pm m₂) s) ?_ (n + 1)
    ⟨0, s.heap, s.toks, ys₀, led₀, m₀, k₀, rfl, rfl, Nat.zero_le _, st, F, N, hled, hacc, hns, h0, (Nat.zero_add _).symm, hPm⟩
  rintro k s' ⟨i, h, tk, ys, led, m₂, kk, rfl, rfl, hi, sti, Fi, Ni, hl, ha, hc, ⟨hI, hy, hpm⟩⟩
  by_cases hlt : i < n
  · refine W.item i _ _ _ hlt sti fun v h₁ tk₁ hP st₁ hk₁ => ?_
    have F₁ := fr_wr Fi hk₁ hwr hLw
    have N₁ := news_wr Ni hk₁ fun p hp => (hl p hp).1
    have a₁ := hk₁ D _ hDw ha
    obtain ⟨oC, eC, nC⟩ := NsO.of (hc.at' fun o e => hk₁ _ o hCw e)
    have Nown : News h₀ L h₁ ((D, listOf ys.toArray kk) :: ownOf h₀ fp h₁) := by
      intro p hp
      rcases List.mem_cons.mp hp with rfl | hp
      · exact ⟨a₁, hDL, hD0⟩
      · exact news_ownOf hLf p hp
    have Nall : News h₀ L h₁ ((cenv.locals, oC) :: (((D, listOf ys.toArray kk) :: ownOf h₀ fp h₁) ++ led)) := by
      intro p hp
      rcases List.mem_cons.mp hp with rfl | hp
      · exact ⟨eC, hCL, hC0⟩
      · rcases List.mem_append.mp hp with hp | hp
        · exact Nown p hp
        · exact N₁ p hp
    have hoC : ∀ p ∈ (D, listOf ys.toArray kk) :: ownOf h₀ fp h₁, p.1 ≠ cenv.locals := by
      intro p hp
      rcases List.mem_cons.mp hp with rfl | hp
      · exact hDC
      · exact fun q => hCf (q ▸ ownOf_sub p hp)
    have keepSt : ∀ (h₃ : Heap) (oC' : Obj) (nx : Led), Fr h₀ L h₃ m → News h₀ L h₃ ((cenv.locals, oC') :: (((D, listOf ys.toArray kk) :: ownOf h₀ fp h₁) ++ nx)) → St (i + 1) h₃ := by
      intro h₃ oC' nx F₃ N₃
      refine W.frame _ _ _ st₁ fun b hb o e => ?_
      cases hn0 : h₀.get? b with
      | some o₀ =>
        have : o₀ = o := by have := F₁.keep b o₀ hn0; rw [e] at this; exact (Option.some.inj this).symm
        exact this ▸ F₃.keep b o₀ hn0
      | none => exact (N₃ (b, o) (.tail _ (List.mem_append_left _ (.tail _ (mem_ownOf hb hn0 e))))).1
    refine wpAny_mono (turn i v ys led _ oC m₂ h₁ tk₁ _ hlt hP hI hpm hl st₁ F₁ Nall nC hoC ⟨kk, .head _⟩ (fun b hb hn0 o e => .tail _ (mem_ownOf hb hn0 e))) (fun _ s₁ q₁ => wpAny_mono q₁ (fun _ s₂ q₂ => wpAny_mono q₂ (fun y s₄ q₄ => ?_) fun _ _ q => q) fun _ _ q => q) fun _ _ q => q
    obtain ⟨q₄, qp⟩ := q₄
    obtain ⟨h₃, tk₃, oC', m', nx, rfl, F₃, N₃, nC', hx, hI'⟩ := q₄
    have hsz : (ys.toArray).size ≤ sizeLine := by rw [List.size_toArray]; omega
    refine wpAny_list_append_plain (items := ys.toArray) (hsz := hsz) ⟨kk, (N₃ _ (.tail _ (List.mem_append_left _ (.head _)))).1⟩ fun h₅ hl₅ hs₅ => ?_
    obtain ⟨k₅, e₅⟩ := hl₅
    rw [List.push_toArray] at e₅
    refine ⟨n + 1 - (i + 1), by omega, i + 1, h₅, tk₃, ys ++ [y], nx, m', k₅, rfl, rfl, hlt, ?_, fr_ext F₃ hs₅.extBut hD0 hDL, news_ext (fun p hp => N₃ p (.tail _ (List.mem_append_right _ hp))) hs₅.extBut fun p hp => (hx p hp).2.1, hx, e₅, (nC'.ns (N₃ _ (.head _)).1).extBut hs₅.extBut (Ne.symm hDC), hI', ?_, qp _ (nC'.ns (N₃ _ (.head _)).1)⟩
    · exact W.frame _ _ _ (keepSt h₃ oC' nx F₃ N₃) fun b hb o e => hs₅.extBut b o (fun q => hDf (q ▸ hb)) e
    · rw [List.length_append, List.length_singleton]; omega
  · have hin : i = n := by omega
    subst hin
    refine W.done _ _ _ sti fun h₁ tk₁ hk₁ => ?_
    obtain ⟨oC, eC, nC⟩ := NsO.of (hc.at' fun o e => hk₁ _ o hCw e)
    refine done ys led oC m₂ kk h₁ tk₁ hI hy hpm (fr_wr Fi hk₁ hwr hLw) ?_ nC fun p hp => (hl p hp).2
    intro p hp
    rcases List.mem_cons.mp hp with rfl | hp
    · exact ⟨hk₁ D _ hDw ha, hDL, hD0⟩
    · rcases List.mem_cons.mp hp with rfl | hp
      · exact ⟨eC, hCL, hC0⟩
      · exact news_wr Ni hk₁ (fun p hp => (hl p hp).1) p hp
/-- the end of a turn of the outer loop -/
inductive OStepI (h₀ : Heap) (L : Addr) (m : Str → Option Value) (C D : Addr) (wr : List Addr) (own : Led) (Inv : Nat → List Value → Led → Prop) (j : Nat) (g : Array GenState) (d : Drawn) (o : OsState) (s' : Shared) : Prop
  | mk (h' : Heap) (tk' : Nat) (oC' : Obj) (m' : Str → Option Value) (nx : Led) (ys' : List Value) (kk' : Nat) (e : s' = ⟨h', g, d, tk', o⟩) (F : Fr h₀ L h' m) (N : News h₀ L h' ((C, oC') :: (D, listOf ys'.toArray kk') :: (own ++ nx))) (nC : NsO oC' m') (hx : ∀ p ∈ nx, p.1 ∉ wr ∧ p.1 ≠ D ∧ p.1 ≠ C) (hI : Inv j ys' nx)
abbrev OStep (h₀ : Heap) (L : Addr) (m : Str → Option Value) (C D : Addr) (wr : List Addr) (own : Led) (Inv : Nat → List Value → Led → Prop) (j : Nat) (s s' : Shared) : Prop := OStepI h₀ L m C D wr own Inv j s.gens s.drawn s.os s'
/-- the outer loop -/
theorem comp2_out {elt t0 i0 t1 i1 : Expr} {scope : Scope} {pos : Pos} {I D : Addr} {fp wr : List Addr} {n : Nat} {P : Nat → Value → Prop} {St : Nat → Heap → Prop} {cenv : Env}
    {h₀ : Heap} {L : Addr} {m m₀ : Str → Option Value} {led₀ : Led} (W : Walks prog w A I fp wr n P St) (Inv : Nat → List Value → Led → Prop) (hs : ∀ x, foldedSetIterable i1 cenv x = pure x)
    (hLf : L ∉ fp) (hwr : ∀ b ∈ wr, h₀.get? b = none) (hD0 : h₀.get? D = none) (hDL : D ≠ L) (hC0 : h₀.get? cenv.locals = none) (hCL : cenv.locals ≠ L) (hDC : D ≠ cenv.locals) (hDf : D ∉ fp) (hCf : cenv.locals ∉ fp)
    (st : St 0 s.heap) (F : Fr h₀ L s.heap m) (N : News h₀ L s.heap led₀) (hled : ∀ p ∈ led₀, p.1 ∉ wr ∧ p.1 ≠ D ∧ p.1 ≠ cenv.locals) (hacc : s.heap.get? D = some (listOf #[] 0)) (hns : s.heap.Ns cenv.locals m₀) (h0 : Inv 0 [] led₀)
    (turn : ∀ i v ys led own oC m₂ kk h tk E', i < n → P i v → Inv i ys led → (∀ p ∈ led, p.1 ∉ wr ∧ p.1 ≠ D ∧ p.1 ≠ cenv.locals) → St (i + 1) h → Fr h₀ L h m → News h₀ L h ((cenv.locals, oC) :: (D, listOf ys.toArray kk) :: (own ++ led)) → NsO oC m₂ → (∀ p ∈ own, p.1 ≠ cenv.locals ∧ p.1 ≠ D ∧ p.1 ∈ fp) → (∀ b ∈ fp, h₀.get? b = none → ∀ o, h.get? b = some o → (b, o) ∈ own) →
      wpAny (model prog w) A (letOwnedTupleGo t0 (.ref I) v) (fun _ s₁ => wpAny (model prog w) A (assign t0 cenv v) (fun _ s₂ =>
          wpAny (model prog w) A (eval i1 cenv) (fun x s₃ => wpAny (model prog w) A (pyIter x) (fun it' s₄ =>
            codeAny (model prog w) A (.compStart (LC2 elt t0 i0 t1 i1 scope pos) 1 it' (.ref D) cenv) (fun r s' => r = .ok .next ∧ OStep h₀ L m cenv.locals D wr own Inv (i + 1) s s') s₄) E' s₃) E' s₂) E' s₁) E' { s with heap := h, toks := tk })
    (done : ∀ ys led oC m₂ k h tk, Inv n ys led → Fr h₀ L h m → News h₀ L h ((D, listOf ys.toArray k) :: (cenv.locals, oC) :: led) → NsO oC m₂ → (∀ p ∈ led, p.1 ≠ D ∧ p.1 ≠ cenv.locals) → R (.ok .next) { s with heap := h, toks := tk }) :
    codeAny (model prog w) A (.compLoop (LC2 elt t0 i0 t1 i1 scope pos) 0 (.ref I) (.ref D) cenv) R s := by
  have hLw : L ∉ wr := fun h => hLf (W.sub _ h)
  have hDw : D ∉ wr := fun h => hDf (W.sub _ h)
  have hCw : cenv.locals ∉ wr := fun h => hCf (W.sub _ h)
  refine comp2Out_go (LoopAt h₀ L m D cenv.locals wr n St (fun i ys led _ => Inv i ys led) s) hs ?_ (n + 1)
    ⟨0, s.heap, s.toks, [], led₀, m₀, 0, rfl, rfl, Nat.zero_le _, st, F, N, hled, hacc, hns, h0⟩
  rintro k s' ⟨i, h, tk, ys, led, m₂, kk, rfl, rfl, hi, sti, Fi, Ni, hl, ha, hc, hI⟩
  by_cases hlt : i < n
  · refine W.item i _ _ _ hlt sti fun v h₁ tk₁ hP st₁ hk₁ => ?_
    have F₁ := fr_wr Fi hk₁ hwr hLw
    have N₁ := news_wr Ni hk₁ fun p hp => (hl p hp).1
    have a₁ := hk₁ D _ hDw ha
    obtain ⟨oC, eC, nC⟩ := NsO.of (hc.at' fun o e => hk₁ _ o hCw e)
    have Nall : News h₀ L h₁ ((cenv.locals, oC) :: (D, listOf ys.toArray kk) :: (ownOf h₀ fp h₁ ++ led)) := by
      intro p hp
      rcases List.mem_cons.mp hp with rfl | hp
      · exact ⟨eC, hCL, hC0⟩
      · rcases List.mem_cons.mp hp with rfl | hp
        · exact ⟨a₁, hDL, hD0⟩
        · rcases List.mem_append.mp hp with hp | hp
          · exact news_ownOf hLf p hp
          · exact N₁ p hp
    have hoC : ∀ p ∈ ownOf h₀ fp h₁, p.1 ≠ cenv.locals ∧ p.1 ≠ D ∧ p.1 ∈ fp := fun p hp => ⟨fun q => hCf (q ▸ ownOf_sub p hp), fun q => hDf (q ▸ ownOf_sub p hp), ownOf_sub p hp⟩
    have keepSt : ∀ (h₃ : Heap) (oC' : Obj) (oD : Obj) (nx : Led), Fr h₀ L h₃ m → News h₀ L h₃ ((cenv.locals, oC') :: (D, oD) :: (ownOf h₀ fp h₁ ++ nx)) → St (i + 1) h₃ := by
      intro h₃ oC' oD nx F₃ N₃
      refine W.frame _ _ _ st₁ fun b hb o e => ?_
      cases hn0 : h₀.get? b with
      | some o₀ =>
        have : o₀ = o := by have := F₁.keep b o₀ hn0; rw [e] at this; exact (Option.some.inj this).symm
        exact this ▸ F₃.keep b o₀ hn0
      | none => exact (N₃ (b, o) (.tail _ (.tail _ (List.mem_append_left _ (mem_ownOf hb hn0 e))))).1
    refine wpAny_mono (turn i v ys led _ oC m₂ kk h₁ tk₁ _ hlt hP hI hl st₁ F₁ Nall nC hoC (fun b hb hn0 o e => mem_ownOf hb hn0 e)) (fun _ s₁ q₁ => wpAny_mono q₁ (fun _ s₂ q₂ => wpAny_mono q₂ (fun x s₃ q₃ => wpAny_mono q₃ (fun it' s₄ q₄ => ?_) fun _ _ q => q) fun _ _ q => q) fun _ _ q => q) fun _ _ q => q
    refine codeAny_mono q₄ fun r s' hr => ?_
    obtain ⟨rfl, ⟨h₃, tk₃, oC', m', nx, ys', kk', rfl, F₃, N₃, nC', hx, hI'⟩⟩ := hr
    exact ⟨n + 1 - (i + 1), by omega, i + 1, h₃, tk₃, ys', nx, m', kk', rfl, rfl, hlt, keepSt h₃ oC' _ nx F₃ N₃, F₃, fun p hp => N₃ p (.tail _ (.tail _ (List.mem_append_right _ hp))), hx, (N₃ _ (.tail _ (.head _))).1, nC'.ns (N₃ _ (.head _)).1, hI'⟩
  · have hin : i = n := by omega
    subst hin
    refine W.done _ _ _ sti fun h₁ tk₁ hk₁ => ?_
    obtain ⟨oC, eC, nC⟩ := NsO.of (hc.at' fun o e => hk₁ _ o hCw e)
    refine done ys led oC m₂ kk h₁ tk₁ hI (fr_wr Fi hk₁ hwr hLw) ?_ nC fun p hp => (hl p hp).2
    intro p hp
    rcases List.mem_cons.mp hp with rfl | hp
    · exact ⟨hk₁ D _ hDw ha, hDL, hD0⟩
    · rcases List.mem_cons.mp hp with rfl | hp
      · exact ⟨eC, hCL, hC0⟩
      · exact news_wr Ni hk₁ (fun p hp => (hl p hp).1) p hp
end
end Mine
end
section
open PySem PySem.W PyProof.Rows PySem.Calls
open Sem (wp)
set_option maxRecDepth 100000
set_option maxHeartbeats 4000000
set_option linter.unusedVariables false
namespace Mine
example : True := by (k_with_none; trivial)
section
variable {prog : Program} {w : World} {A : Around} {E : Value → Shared → Prop} {s : Shared} {env : Env}
theorem NsO.same {o : Obj} {m m' : Str → Option Value} (a : NsO o m) (b : NsO o m') (x : Str) : m x = m' x := by
  obtain ⟨es, ep, h1, _, h2⟩ := a
  obtain ⟨es', ep', h1', _, h2'⟩ := b
  rw [h1] at h1'
  cases h1'
  rw [← h2, ← h2']
/-- the inner list stands ready -/
inductive InAtI (prog : Program) (w : World) (A : Around) (env : Env) (x y : Str) (elt : Expr) (scope : Scope) (cl : List (Str × Addr)) (h₀ : Heap) (L C : Addr) (m : Str → Option Value) (all led : Led) (v : Value) (ys : List Value) (Nx : List Value → Led → Prop) (g : Array GenState) (d : Drawn) (o : OsState) (it' : Value) (s₄ : Shared) : Prop
  | mk (h' : Heap) (tk' : Nat) (tl : Led) (I1 : Addr) (fp1 : List Addr) (n1 : Nat) (P1 : Nat → Value → Prop) (St1 : Nat → Heap → Prop) (Inv1 : Nat → List Value → Led → Prop) (es : s₄ = ⟨h', g, d, tk', o⟩) (ei : it' = .ref I1) (W : Walks prog w A I1 fp1 [I1] n1 P1 St1) (st : St1 0 h') (F : Fr h₀ L h' m) (N : News h₀ L h' (tl ++ all)) (l : (∀ q ∈ all, ∀ p ∈ tl, q.1 < p.1)) (lI : (∀ q ∈ tl ++ all, q.1 < I1)) (nI : h₀.get? I1 = none) (nL : I1 ≠ L) (hob : (∀ j h, St1 j h → ∃ o, h.get? I1 = some o)) (hfp : (∀ b ∈ fp1, b = I1 ∨ (∃ o, (b, o) ∈ tl) ∨ (∃ o, h₀.get? b = some o))) (hLf : L ∉ fp1) (hsz : n1 + ys.length ≤ sizeLine) (i0 : Inv1 0 ys (tl ++ led)) (iend : (∀ ys' led', Inv1 n1 ys' led' → Nx ys' led')) (turn : ∀ j v1 ys led own oC m₃ h tk E', j < n1 → P1 j v1 → Inv1 j ys led → Fr h₀ L h m → News h₀ L h ((C, oC) :: (own ++ led)) → NsO oC m₃ → m₃ x = some v → m₃ y = some v1 →   wpAny (model prog w) A (eval elt (compEnvC scope cl C env)) (fun z s₄ => PStep h₀ L m ((C, oC) :: (own ++ led)) led (Inv1 (j + 1) (ys ++ [z])) ⟨h', g, d, tk', o⟩ s₄) E' ⟨h, g, d, tk, o⟩)
abbrev InAt (prog : Program) (w : World) (A : Around) (env : Env) (x y : Str) (elt : Expr) (scope : Scope) (cl : List (Str × Addr)) (h₀ : Heap) (L C : Addr) (m : Str → Option Value) (all led : Led) (v : Value) (ys : List Value) (Nx : List Value → Led → Prop) (s : Shared) (it' : Value) (s₄ : Shared) : Prop := InAtI prog w A env x y elt scope cl h₀ L C m all led v ys Nx s.gens s.drawn s.os it' s₄
theorem cturn2 {x y : Str} {px py : Pos} {elt i0 i1 : Expr} {scope : Scope} {pos : Pos} {cl : List (Str × Addr)} {I C D : Addr} {fp wr : List Addr} {n : Nat} {P : Nat → Value → Prop} {St : Nat → Heap → Prop} {h₀ : Heap} {L : Addr} {m : Str → Option Value} {Inv : Nat → List Value → Led → Prop}
    (hx : scope.names.lookup x = some .local) (hy : scope.names.lookup y = some .local) (hxy : (x == y) = false) (hkind : scope.kind = .function) (hob : ∀ i h, St i h → ∀ b ∈ wr, ∃ o, h.get? b = some o) (hsub : ∀ b ∈ wr, b ∈ fp) (hwr : ∀ b ∈ wr, h₀.get? b = none)
    (hD0 : h₀.get? D = none) (hDL : D ≠ L) (hDC : D ≠ C)
    (ok : ∀ i v ys led own oC m₂ h tk E', i < n → P i v → Inv i ys led → Fr h₀ L h m → News h₀ L h ((C, oC) :: (own ++ led)) → NsO oC m₂ → m₂ x = some v →
      wpAny (model prog w) A (eval i1 (compEnvC scope cl C env)) (fun xv s₃ => wpAny (model prog w) A (pyIter xv) (InAt prog w A env x y elt scope cl h₀ L C m ((C, oC) :: (own ++ led)) led v ys (Inv (i + 1)) s) E' s₃) E' { s with heap := h, toks := tk }) :
    ∀ i v ys led own oC m₂ kk h tk E', i < n → P i v → Inv i ys led → (∀ p ∈ led, p.1 ∉ wr ∧ p.1 ≠ D ∧ p.1 ≠ C) → St (i + 1) h → Fr h₀ L h m → News h₀ L h ((C, oC) :: (D, listOf ys.toArray kk) :: (own ++ led)) → NsO oC m₂ → (∀ p ∈ own, p.1 ≠ C ∧ p.1 ≠ D ∧ p.1 ∈ fp) → (∀ b ∈ fp, h₀.get? b = none → ∀ o, h.get? b = some o → (b, o) ∈ own) →
      wpAny (model prog w) A (letOwnedTupleGo (.Name x px) (.ref I) v) (fun _ s₁ => wpAny (model prog w) A (assign (.Name x px) (compEnvC scope cl C env) v) (fun _ s₂ =>
          wpAny (model prog w) A (eval i1 (compEnvC scope cl C env)) (fun x' s₃ => wpAny (model prog w) A (pyIter x') (fun it' s₄ =>
            codeAny (model prog w) A (.compStart (LC2 elt (.Name x px) i0 (.Name y py) i1 scope pos) 1 it' (.ref D) (compEnvC scope cl C env)) (fun r s' => r = .ok .next ∧ OStep h₀ L m C D wr own Inv (i + 1) s s') s₄) E' s₃) E' s₂) E' s₁) E' { s with heap := h, toks := tk } := by
  intro i v ys led own oC m₂ kk h tk E' hi hP hI hl st F N nC hoC hown
  show wpAny _ A (pure ()) _ _ _
  refine wpAny_pure ?_
  have nCh := nC.ns (N _ (.head _)).1
  have hC0 := (N (C, oC) (.head _)).2.2
  have hCL : C ≠ L := (N (C, oC) (.head _)).2.1
  refine wpAny_assign_Name (wpAny_storeName_local (lookup_relabel_local hx) nCh (fun h₂ hn₂ hs₂ => ?_) (by simp [compEnvC, relabel, hkind]))
  replace hs₂ : Heap.SameBut C h h₂ := hs₂
  obtain ⟨oC', eC', nC'⟩ := NsO.of hn₂
  have F₂ := fr_ext F hs₂.extBut hC0 hCL
  have N₂ : News h₀ L h₂ ((C, oC') :: (((D, listOf ys.toArray kk) :: own) ++ led)) := by
    intro p hp
    rcases List.mem_cons.mp hp with rfl | hp
    · exact ⟨eC', hCL, hC0⟩
    · refine news_ext (fun q hq => N q (.tail _ hq)) hs₂.extBut (fun q hq => ?_) p hp
      rcases List.mem_cons.mp hq with rfl | hq
      · exact hDC
      · rcases List.mem_append.mp hq with hq | hq
        · exact (hoC q hq).1
        · exact (hl q hq).2.2
  have hw : ∀ b ∈ wr, ∃ o, (b, o) ∈ own := fun b hb => by
    obtain ⟨o, ho⟩ := hob _ _ st b hb
    exact ⟨o, hown b (hsub b hb) (hwr b hb) o ho⟩
  refine wpAny_mono (ok i v ys led ((D, listOf ys.toArray kk) :: own) oC' _ h₂ _ E' hi hP hI F₂ N₂ nC' (by simp)) (fun xv s₃ q => wpAny_mono q (fun it' s₄ q => ?_) fun _ _ q => q) fun _ _ q => q
  obtain ⟨h', tk', tl, I1, fp1, n1, P1, St1, Inv1, rfl, rfl, W1, st1, F', N', ord, hI1, hI0, hIL, hobI, hfp, hLf, hsz, hi0, hend, turn1⟩ := q
  have hCmem : (C, oC') ∈ (C, oC') :: (((D, listOf ys.toArray kk) :: own) ++ led) := .head _
  have hDmem : (D, listOf ys.toArray kk) ∈ (C, oC') :: (((D, listOf ys.toArray kk) :: own) ++ led) := .tail _ (.head _)
  have hnf : ∀ a o, (a, o) ∈ (C, oC') :: (((D, listOf ys.toArray kk) :: own) ++ led) → h₀.get? a = none → a ∉ fp1 := by
    intro a o ha h0 hf
    rcases hfp a hf with e | ⟨o', e⟩ | ⟨o', e⟩
    · exact Nat.lt_irrefl _ (e ▸ hI1 _ (List.mem_append_right _ ha))
    · exact Nat.lt_irrefl _ (ord (a, o) ha (a, o') e)
    · rw [h0] at e; cases e
  have hown' : ∀ p ∈ own, p ∈ (C, oC') :: (((D, listOf ys.toArray kk) :: own) ++ led) := fun p hp => .tail _ (.tail _ (List.mem_append_left _ hp))
  have hled' : ∀ p ∈ led, p ∈ (C, oC') :: (((D, listOf ys.toArray kk) :: own) ++ led) := fun p hp => .tail _ (.tail _ (List.mem_append_right _ hp))
  have offtl : ∀ p ∈ tl, p.1 ∉ wr ∧ p.1 ≠ D ∧ p.1 ≠ C := fun p hp => ⟨fun hb => by
    obtain ⟨o, ho⟩ := hw _ hb
    exact Nat.lt_irrefl _ (ord _ (hown' _ ho) p hp), Nat.ne_of_gt (ord _ hDmem p hp), Nat.ne_of_gt (ord _ hCmem p hp)⟩
  have loop : codeAny (model prog w) A (.compLoop (LC2 elt (.Name x px) i0 (.Name y py) i1 scope pos) 1 (.ref I1) (.ref D) (compEnvC scope cl C env)) (fun r s' => r = .ok .next ∧ OStep h₀ L m C D wr own Inv (i + 1) s s') { s with heap := h', toks := tk' } := by
    refine comp2_in (cenv := compEnvC scope cl C env) (led₀ := tl ++ (own ++ led)) (m₀ := _) W1 (fun j ys ledx => (∀ p ∈ own, p ∈ ledx) ∧ ∃ nx, (∀ p ∈ nx, p ∈ ledx) ∧ (∀ p ∈ nx, p.1 ∉ wr ∧ p.1 ≠ D ∧ p.1 ≠ C) ∧ Inv1 j ys nx) hsz hLf (fun b hb => by rw [List.mem_singleton.mp hb]; exact hI0) hD0 hDL hC0 hCL hDC
      (hnf _ _ hDmem hD0) (hnf _ _ hCmem hC0) st1 F' ?_ ?_ (N' _ (List.mem_append_right _ hDmem)).1 (nC'.ns (N' _ (List.mem_append_right _ hCmem)).1) ⟨fun p hp => List.mem_append_right _ (List.mem_append_left _ hp), tl ++ led, ?_, ?_, hi0⟩ (fun m' => m' x = some v) (by simp) ?_ ?_
    · intro p hp
      refine N' p ?_
      rcases List.mem_append.mp hp with hp | hp
      · exact List.mem_append_left _ hp
      · refine List.mem_append_right _ ?_
        rcases List.mem_append.mp hp with hp | hp
        · exact hown' p hp
        · exact hled' p hp
    · intro p hp
      refine ⟨fun hb => ?_, ?_⟩
      · have e := List.mem_singleton.mp hb
        refine Nat.lt_irrefl _ (e ▸ hI1 p ?_)
        rcases List.mem_append.mp hp with hp | hp
        · exact List.mem_append_left _ hp
        · refine List.mem_append_right _ ?_
          rcases List.mem_append.mp hp with hp | hp
          · exact hown' p hp
          · exact hled' p hp
      · rcases List.mem_append.mp hp with hp | hp
        · exact (offtl p hp).2
        · rcases List.mem_append.mp hp with hp | hp
          · exact ⟨(hoC p hp).2.1, (hoC p hp).1⟩
          · exact (hl p hp).2
    · intro p hp
      rcases List.mem_append.mp hp with hp | hp
      · exact List.mem_append_left _ hp
      · exact List.mem_append_right _ (List.mem_append_right _ hp)
    · intro p hp
      rcases List.mem_append.mp hp with hp | hp
      · exact offtl p hp
      · exact hl p hp
    · intro j v1 ys' ledx own1 oC1 m₃ h₃ tk₃ E'' hj hP1 hI' hpm hl1 st1' F1 N1 nC1 hoC1 hD1 hown1
      obtain ⟨ho, nx, hnx, hoff, hI1'⟩ := hI'
      show wpAny _ A (pure ()) _ _ _
      refine wpAny_pure ?_
      have hC1 := N1 _ (.head _)
      refine wpAny_assign_Name (wpAny_storeName_local (lookup_relabel_local hy) (nC1.ns hC1.1) (fun h₄ hn₄ hs₄ => ?_) (by simp [compEnvC, relabel, hkind]))
      replace hs₄ : Heap.SameBut C h₃ h₄ := hs₄
      obtain ⟨oC2, eC2, nC2⟩ := NsO.of hn₄
      have F₄ := fr_ext F1 hs₄.extBut hC0 hCL
      have N₄ : News h₀ L h₄ ((C, oC2) :: ((own1 ++ ledx) ++ nx)) := by
        intro p hp
        rcases List.mem_cons.mp hp with rfl | hp
        · exact ⟨eC2, hCL, hC0⟩
        · have hp' : p ∈ own1 ++ ledx := by
            rcases List.mem_append.mp hp with hp | hp
            · exact hp
            · exact List.mem_append_right _ (hnx p hp)
          refine news_ext (fun q hq => N1 q (.tail _ hq)) hs₄.extBut (fun q hq => ?_) p hp'
          rcases List.mem_append.mp hq with hq | hq
          · exact hoC1 q hq
          · exact (hl1 q hq).2.2
      have hxn : (fun z => if z = y then some v1 else m₃ z) x = some v := by
        have : ¬ x = y := fun e => by rw [e] at hxy; simp at hxy
        simp only [if_neg this]; exact hpm
      refine wpAny_mono (turn1 j v1 ys' nx (own1 ++ ledx) oC2 _ h₄ _ E'' hj hP1 hI1' F₄ N₄ nC2 hxn (by simp)) (fun z s₄ q => ?_) fun _ _ q => q
      obtain ⟨k1, hD1⟩ := hD1
      obtain ⟨h₅, tk₅, tl5, rfl, F₅, N₅, l5, J5⟩ := q
      have sub5 : ∀ p ∈ (C, oC2) :: (own1 ++ ledx), p ∈ (C, oC2) :: ((own1 ++ ledx) ++ nx) := fun p hp => by
        rcases List.mem_cons.mp hp with rfl | hp
        · exact .head _
        · exact .tail _ (List.mem_append_left _ hp)
      refine ⟨cstep_of (s := { s with heap := h', toks := tk' }) nC2 hD1 (fun b hb => ?_) hl1 ⟨h₅, tk₅, tl5, rfl, F₅, fun p hp => N₅ p ?_, fun q hq p hp => l5 q (sub5 q hq) p hp, ?_, tl5 ++ nx, ?_, ?_, J5⟩, fun m' hm' => ?_⟩
      · rw [List.mem_singleton.mp hb]
        obtain ⟨o, ho'⟩ : ∃ o, h₃.get? I1 = some o := hobI _ _ st1'
        exact ⟨o, hown1 _ (W1.sub _ (.head _)) hI0 o ho'⟩
      · rcases List.mem_append.mp hp with hp | hp
        · exact List.mem_append_left _ hp
        · exact List.mem_append_right _ (sub5 p hp)
      · exact fun p hp => List.mem_append_right _ (ho p hp)
      · intro p hp
        rcases List.mem_append.mp hp with hp | hp
        · exact List.mem_append_left _ hp
        · exact List.mem_append_right _ (hnx p hp)
      · intro p hp
        rcases List.mem_append.mp hp with hp | hp
        · refine ⟨fun hb => ?_, Nat.ne_of_gt (l5 _ (.tail _ (List.mem_append_left _ (List.mem_append_left _ hD1))) p hp), Nat.ne_of_gt (l5 _ (.head _) p hp)⟩
          obtain ⟨o, ho'⟩ := hw _ hb
          exact Nat.lt_irrefl _ (l5 _ (.tail _ (List.mem_append_left _ (List.mem_append_right _ (ho _ ho')))) p hp)
        · exact hoff p hp
      · obtain ⟨o6, e6, n6⟩ := NsO.of hm'
        have e7 := (N₅ _ (List.mem_append_right _ (.head _))).1
        replace e6 : h₅.get? C = some o6 := e6
        rw [e7] at e6
        cases e6
        exact (n6.same nC2 x).trans hxn
    · intro ys' ledx oC1 m₃ k h₃ tk₃ hI' hy hpm F1 N1 nC1 hne
      obtain ⟨ho, nx, hnx, hoff, hI1'⟩ := hI'
      refine ⟨rfl, h₃, tk₃, oC1, m₃, nx, ys', k, rfl, F1, fun p hp => N1 p ?_, nC1, hoff, hend _ _ hI1'⟩
      rcases List.mem_cons.mp hp with rfl | hp
      · exact .tail _ (.head _)
      · rcases List.mem_cons.mp hp with rfl | hp
        · exact .head _
        · rcases List.mem_append.mp hp with hp | hp
          · exact .tail _ (.tail _ (ho p hp))
          · exact .tail _ (.tail _ (hnx p hp))
  exact codeAny_compStart_in loop (W1.self 0 _ _ _ st1 loop)
end
end Mine
end
section
open PySem PySem.W PyProof.Rows PySem.Calls
open Sem (wp)
set_option maxRecDepth 100000
set_option maxHeartbeats 4000000
set_option linter.unusedVariables false
namespace Mine
example : True := by (k_with_none; trivial)
section
variable {prog : Program} {w : World} {A : Around} {E : Value → Shared → Prop} {s : Shared} {env : Env}
inductive CompAt2 (prog : Program) (w : World) (A : Around) (env : Env) (x y : Str) (elt i1 : Expr) (scope : Scope) (cl : List (Str × Addr)) (h₀ : Heap) (L : Addr) (m : Str → Option Value) (md : Addr → Str → Option Value) (Qd : Addr → Shared → Prop) (it : Value) (s₂ : Shared) : Prop
  | mk (I : Addr) (fp wr : List Addr) (n : Nat) (P : Nat → Value → Prop) (St : Nat → Heap → Prop) (led₀ : Led) (Inv : Nat → List Value → Led → Prop) (ei : it = .ref I) (W : Walks prog w A I fp wr n P St) (st : St 0 s₂.heap) (hfp : (∀ b ∈ fp, b < s₂.heap.objs.size)) (hLf : L ∉ fp) (hwr : (∀ b ∈ wr, h₀.get? b = none)) (hob : (∀ i h, St i h → ∀ b ∈ wr, ∃ o, h.get? b = some o)) (F : Fr h₀ L s₂.heap m) (N : News h₀ L s₂.heap led₀) (hled : (∀ p ∈ led₀, p.1 ∉ wr)) (h0 : Inv 0 [] led₀) (turn : (∀ C i v ys led own oC m₂ h tk E', i < n → P i v → Inv i ys led → Fr h₀ L h m → News h₀ L h ((C, oC) :: (own ++ led)) → NsO oC m₂ → m₂ x = some v →   wpAny (model prog w) A (eval i1 (compEnvC scope cl C env)) (fun xv s₃ => wpAny (model prog w) A (pyIter xv) (InAt prog w A env x y elt scope cl h₀ L C m ((C, oC) :: (own ++ led)) led v ys (Inv (i + 1)) s₂) E' s₃) E' { s₂ with heap := h, toks := tk })) (done : ∀ D ys led k h' tk, Inv n ys led → Fr h₀ L h' (md D) → News h₀ L h' ((D, listOf ys.toArray k) :: led) → (∀ p ∈ led, p.1 ≠ D) → (∀ p ∈ led₀, p.1 < D) → Qd D { s₂ with heap := h', toks := tk })
theorem comp2_block {x y : Str} {px py : Pos} {elt i0 i1 : Expr} {scope : Scope} {cl : List (Str × Addr)} {pos : Pos} {I : Addr} {fp wr : List Addr} {n : Nat} {P : Nat → Value → Prop} {St : Nat → Heap → Prop} {h₀ : Heap} {L : Addr} {m : Str → Option Value} {led₀ : Led} {Inv : Nat → List Value → Led → Prop} {RR : Value → Addr → Result → Shared → Prop}
    (W : Walks prog w A I fp wr n P St) (hcell : ∀ y ∈ scope.names, y.2 ≠ .cell) (hkind : scope.kind = .function) (hx : scope.names.lookup x = some .local) (hy : scope.names.lookup y = some .local) (hxy : (x == y) = false) (hs : ∀ C z, foldedSetIterable i1 (compEnvC scope cl C env) z = pure z)
    (st : St 0 s.heap) (hfp : ∀ b ∈ fp, b < s.heap.objs.size) (hLf : L ∉ fp) (hwr : ∀ b ∈ wr, h₀.get? b = none) (hob : ∀ i h, St i h → ∀ b ∈ wr, ∃ o, h.get? b = some o) (F : Fr h₀ L s.heap m) (N : News h₀ L s.heap led₀) (hled : ∀ p ∈ led₀, p.1 ∉ wr) (h0 : Inv 0 [] led₀)
    (turn : ∀ C i v ys led own oC m₂ h tk E', i < n → P i v → Inv i ys led → Fr h₀ L h m → News h₀ L h ((C, oC) :: (own ++ led)) → NsO oC m₂ → m₂ x = some v →
      wpAny (model prog w) A (eval i1 (compEnvC scope cl C env)) (fun xv s₃ => wpAny (model prog w) A (pyIter xv) (InAt prog w A env x y elt scope cl h₀ L C m ((C, oC) :: (own ++ led)) led v ys (Inv (i + 1)) s) E' s₃) E' { s with heap := h, toks := tk })
    (done : ∀ D C ys led oC m₂ k h' tk, D ≠ C → s.heap.get? C = none → s.heap.objs.size ≤ D → Inv n ys led → Fr h₀ L h' m → News h₀ L h' ((D, listOf ys.toArray k) :: (C, oC) :: led) → NsO oC m₂ → (∀ p ∈ led, p.1 ≠ D ∧ p.1 ≠ C) → RR (.ref D) C (.ok .next) { s with heap := h', toks := tk }) :
    wpAny (model prog w) A (newList []) (fun acc s₃ => wpAny (model prog w) A (newFunctionEnv scope env.globals cl [] env.qual none .none (some env)) (fun cenv s₄ =>
      codeAny (model prog w) A (.compStart (LC2 elt (.Name x px) i0 (.Name y py) i1 scope pos) 0 (.ref I) acc { cenv with scope := relabel scope env }) (RR acc cenv.locals) s₄) E s₃) E s := by
  refine wpAny_newObj_type (wpAny_newFunctionEnv hcell (by intro y hy; simp at hy) (fun h₁ hns hsb => ?_) hkind)
  dsimp only at hns hsb ⊢
  have fresh : ∀ a, s.heap.objs.size ≤ a → s.heap.get? a = none := fun a ha => by
    cases e : s.heap.get? a with
    | none => rfl
    | some o => exact absurd (Heap.lt_size e) (Nat.not_lt.mpr ha)
  have new₀ : ∀ a, s.heap.objs.size ≤ a → h₀.get? a = none := fun a ha => by
    cases e : h₀.get? a with
    | none => rfl
    | some o => exact absurd (Heap.lt_size (F.keep _ _ e)) (Nat.not_lt.mpr ha)
  have hLs : L < s.heap.objs.size := F.ns.lt
  generalize hH : s.heap.push { cls := .type "list", dict := none, data := .seq ([] : List Value).toArray } = H at hns hsb ⊢
  have hz : H.objs.size = s.heap.objs.size + 1 := by rw [← hH, Heap.size_push]
  rw [hz] at hns hsb ⊢
  have DC : s.heap.objs.size ≠ s.heap.objs.size + 1 := Nat.ne_of_lt (Nat.lt_succ_self _)
  have old : ∀ b o, s.heap.get? b = some o → h₁.get? b = some o := fun b o e => by
    refine hsb.extBut b o (Nat.ne_of_lt (Nat.lt_succ_of_lt (Heap.lt_size e))) (Heap.get?_push_of_some _ ?_)
    rw [← hH]; exact Heap.get?_push_of_some _ e
  have hacc : h₁.get? s.heap.objs.size = some (listOf #[] 0) := hsb.extBut _ _ DC (Heap.get?_push_of_some _ (by rw [← hH]; exact Heap.get?_push_size _ rfl))
  have F₁ : Fr h₀ L h₁ m := ⟨F.ns.keeps old, fun b o e => old b o (F.keep b o e), F.above⟩
  have N₁ : News h₀ L h₁ led₀ := fun p hp => ⟨old _ _ (N p hp).1, (N p hp).2⟩
  have st₁ : St 0 h₁ := W.frame _ _ _ st fun b _ o e => old b o e
  have loop : ∀ s₃ : Shared, s₃ = { s with heap := h₁, toks := s.toks + ([] : List (Str × Value)).length } →
      codeAny (model prog w) A (.compLoop (LC2 elt (.Name x px) i0 (.Name y py) i1 scope pos) 0 (.ref I) (.ref s.heap.objs.size) (compEnvC scope cl (s.heap.objs.size + 1) env)) (RR (.ref s.heap.objs.size) (s.heap.objs.size + 1)) s₃ := by
    rintro s₃ rfl
    exact comp2_out (cenv := compEnvC scope cl (s.heap.objs.size + 1) env) W Inv (hs _) hLf hwr (new₀ _ (Nat.le_refl _)) (Nat.ne_of_gt hLs) (new₀ _ (Nat.le_succ _)) (Nat.ne_of_gt (Nat.lt_succ_of_lt hLs)) DC
      (fun q => Nat.lt_irrefl _ (hfp _ q)) (fun q => Nat.lt_irrefl _ (Nat.lt_of_succ_lt (hfp _ q))) st₁ F₁ N₁ (fun p hp => ⟨hled p hp, Nat.ne_of_lt (Heap.lt_size (N p hp).1), Nat.ne_of_lt (Nat.lt_succ_of_lt (Heap.lt_size (N p hp).1))⟩) hacc hns h0
      (cturn2 (s := { s with heap := h₁, toks := s.toks + ([] : List (Str × Value)).length }) hx hy hxy hkind hob W.sub hwr (new₀ _ (Nat.le_refl _)) (Nat.ne_of_gt hLs) DC (fun i v ys led own oC m₂ h tk E' a1 a2 a3 a4 a5 a6 a7 => turn (s.heap.objs.size + 1) i v ys led own oC m₂ h tk E' a1 a2 a3 a4 a5 a6 a7))
      (fun ys led oC m₂ k h tk a1 a3 a4 a5 a6 => done _ _ ys led oC m₂ k h tk DC (fresh _ (Nat.le_succ _)) (Nat.le_refl _) a1 a3 a4 a5 a6)
  exact codeAny_compStart_list (loop _ rfl) (W.self 0 _ _ _ st₁ (loop _ rfl))
theorem comp2_eval {x y : Str} {px py : Pos} {elt i0 i1 : Expr} {scope : Scope} {cl : List (Str × Addr)} {pos : Pos} {h₀ : Heap} {L : Addr} {m : Str → Option Value} {Q : Value → Shared → Prop}
    (_F : Fr h₀ L s.heap m) (hclos : closureFor scope env = pure cl) (hcell : ∀ y ∈ scope.names, y.2 ≠ .cell) (hkind : scope.kind = .function) (hnames : ∀ y ∈ scope.names, y.2 = .local → scope.names.lookup y.1 = some .local)
    (hx : scope.names.lookup x = some .local) (hy : scope.names.lookup y = some .local) (hxy : (x == y) = false) (hs1 : ∀ C z, foldedSetIterable i1 (compEnvC scope cl C env) z = pure z)
    (hs : ∀ x, foldedSetIterable i0 env x = pure x)
    (h : wpAny (model prog w) A (eval i0 env) (fun xv s₁ => wpAny (model prog w) A (pyIter xv) (CompAt2 prog w A env x y elt i1 scope cl h₀ L m (fun _ => m) (fun D s' => Q (.ref D) s')) E s₁) E s) :
    wpAny (model prog w) A (eval (LC2 elt (.Name x px) i0 (.Name y py) i1 scope pos) env) Q E s := by
  rw [eval_ListComp]
  refine wpAny_comprehension_free (use := none) rfl hs hclos hkind hnames (wpAny_mono h (fun xv s₁ h₁ => wpAny_mono h₁ (fun it s₂ h₂ => ?_) fun _ _ e => e) fun _ _ e => e)
  obtain ⟨I, fp, wr, n, P, St, led₀, Inv, rfl, W, st, hfp, hLf, hwr, hob, F, N, hled, h0, turn, done⟩ := h₂
  refine comp2_block (RR := fun acc C => compPost (model prog w) A E none Q acc C) W hcell hkind hx hy hxy hs1 st hfp hLf hwr hob F N hled h0 turn ?_
  intro D C ys led oC m₂ k h' tk hDC hCn hDn hI F' N' nC hl
  refine ⟨m₂, nC.ns (N' _ (.tail _ (.head _))).1, fun h'' hs'' => done D ys led k h'' tk hI (fr_ext F' hs''.extBut ?_ (N' _ (.tail _ (.head _))).2.1) ?_ (fun p hp => (hl p hp).1) fun p hp => Nat.lt_of_lt_of_le (Heap.lt_size (N p hp).1) hDn⟩
  · exact (N' _ (.tail _ (.head _))).2.2
  · refine news_ext (fun p hp => N' p ?_) hs''.extBut fun p hp => ?_
    · rcases List.mem_cons.mp hp with rfl | hp
      · exact .head _
      · exact .tail _ (.tail _ hp)
    · rcases List.mem_cons.mp hp with rfl | hp
      · exact hDC
      · exact (hl p hp).2
theorem comp2_assign {x y : Str} {px py : Pos} {elt i0 i1 : Expr} {scope : Scope} {cl : List (Str × Addr)} {pos spos pz : Pos} {z : Str} {h₀ : Heap} {m : Str → Option Value} {Q : Flow → Shared → Prop}
    (_F : Fr h₀ env.locals s.heap m) (hsw : swapsWith (LC2 elt (.Name x px) i0 (.Name y py) i1 scope pos) (some (.Name z pz)) spos.line env = pure true)
    (hclos : closureFor scope env = pure cl) (hcell : ∀ z ∈ scope.names, z.2 ≠ .cell) (hkind : scope.kind = .function) (hnames : ∀ z ∈ scope.names, z.2 = .local → scope.names.lookup z.1 = some .local)
    (hx : scope.names.lookup x = some .local) (hy : scope.names.lookup y = some .local) (hxy : (x == y) = false) (hs1 : ∀ C z, foldedSetIterable i1 (compEnvC scope cl C env) z = pure z)
    (hs : ∀ x, foldedSetIterable i0 env x = pure x) (hz : env.kindOf z = some .local) (hp : (env.scope.kind == .class || (env.scope.kind == .module && env.locals != env.globals)) = false)
    (h : wpAny (model prog w) A (eval i0 env) (fun xv s₁ => wpAny (model prog w) A (pyIter xv) (CompAt2 prog w A env x y elt i1 scope cl h₀ env.locals m (fun D u => if u = z then some (.ref D) else m u) (fun _ s' => Q .next s')) E s₁) E s) :
    wpAny (model prog w) A (exec (.Assign [.Name z pz] (LC2 elt (.Name x px) i0 (.Name y py) i1 scope pos) spos) env) Q E s := by
  rw [exec_Assign_Name_used _ _ _ _ hsw]
  refine wpAny_bind (wpAny_standAt (wpAny_bind ?_))
  show wpAny _ A (do let _ ← comprehension (LC2 elt (.Name x px) i0 (.Name y py) i1 scope pos) scope env _ (newList []) false (eval i0 env) (some (assign (.Name z pz) env))) _ _ s
  refine wpAny_bind (wpAny_mono (wpAny_comprehension_free (use := some (assign (.Name z pz) env)) (Q := fun _ s' => Q .next s') rfl hs hclos hkind hnames
    (wpAny_mono h (fun xv s₁ h₁ => wpAny_mono h₁ (fun it s₂ h₂ => ?_) fun _ _ e => e) fun _ _ e => e)) (fun _ s' hq => wpAny_pure (wpAny_pure hq)) fun _ _ e => e)
  obtain ⟨I, fp, wr, n, P, St, led₀, Inv, rfl, W, st, hfp, hLf, hwr, hob, F, N, hled, h0, turn, done⟩ := h₂
  refine comp2_block (RR := fun acc C => compPost (model prog w) A E (some (assign (.Name z pz) env)) (fun _ s' => Q .next s') acc C) W hcell hkind hx hy hxy hs1 st hfp hLf hwr hob F N hled h0 turn ?_
  intro D C ys led oC m₂ k h' tk hDC hCn hDn hI F' N' nC hl
  have hCL : C ≠ env.locals := (N' _ (.tail _ (.head _))).2.1
  have hDL : D ≠ env.locals := (N' _ (.head _)).2.1
  have hC0 := (N' (C, oC) (.tail _ (.head _))).2.2
  show wpAny _ A (assign (.Name z pz) env (.ref D)) _ _ _
  refine wpAny_assign_Name (wpAny_storeName_local hz F'.ns (fun h₂ hn₂ hs₂ => ?_) hp)
  have nC₂ : h₂.Ns C m₂ := (nC.ns (N' _ (.tail _ (.head _))).1).sameBut hs₂ hCL
  refine ⟨m₂, nC₂, fun h₃ hs₃ => ?_⟩
  have F₂ : Fr h₀ env.locals h₂ (fun u => if u = z then some (.ref D) else m u) := F'.set hn₂ hs₂
  have N₂ : News h₀ env.locals h₂ ((D, listOf ys.toArray k) :: led) := by
    refine News.set (fun p hp => N' p ?_) hs₂
    rcases List.mem_cons.mp hp with rfl | hp
    · exact .head _
    · exact .tail _ (.tail _ hp)
  refine done D ys led k h₃ _ hI (fr_ext F₂ hs₃.extBut hC0 hCL) (news_ext N₂ hs₃.extBut fun p hp => ?_) (fun p hp => (hl p hp).1) fun p hp => Nat.lt_of_lt_of_le (Heap.lt_size (N p hp).1) hDn
  rcases List.mem_cons.mp hp with rfl | hp
  · exact hDC
  · exact (hl p hp).2
/-- the outer list is a list of the ledger -/
theorem comp2_list {x y : Str} {elt i1 : Expr} {scope : Scope} {cl : List (Str × Addr)} {h₀ : Heap} {L ax : Addr} {vs : List Value} {k : Nat} {led : Led} {m : Str → Option Value} {md : Addr → Str → Option Value} {Qd : Addr → Shared → Prop} (Inv : Led → Nat → List Value → Led → Prop)
    (hh : A.handled = none) (F : Fr h₀ L s.heap m) (N : News h₀ L s.heap led) (hm : (ax, listOf vs.toArray k) ∈ led) (h0 : Inv led 0 [] led)
    (ok : ∀ C i v ys led' own oC m₂ h tk E', vs[i]? = some v → Inv led i ys led' → Fr h₀ L h m → News h₀ L h ((C, oC) :: (own ++ led')) → NsO oC m₂ → m₂ x = some v →
      wpAny (model prog w) A (eval i1 (compEnvC scope cl C env)) (fun xv s₃ => wpAny (model prog w) A (pyIter xv) (InAt prog w A env x y elt scope cl h₀ L C m ((C, oC) :: (own ++ led')) led' v ys (Inv led (i + 1)) s) E' s₃) E' { s with heap := h, toks := tk })
    (done : ∀ D ys led' k h' tk, Inv led vs.length ys led' → Fr h₀ L h' (md D) → News h₀ L h' ((D, listOf ys.toArray k) :: led') → (∀ p ∈ led', p.1 ≠ D) → (∀ p ∈ led, p.1 < D) → Qd D { s with heap := h', toks := tk }) :
    wpAny (model prog w) A (pyIter (.ref ax)) (CompAt2 prog w A env x y elt i1 scope cl h₀ L m md Qd) E s := by
  have hl : s.heap.IsList ax vs.toArray := isListOf N hm
  have hax := Heap.lt_size (N _ hm).1
  refine wpAny_pyIter_list hl ?_
  have W := Walks.list (prog := prog) (w := w) hh s.heap.objs.size ax (Nat.ne_of_lt hax) vs.toArray
  have hz : vs.toArray.size = vs.length := List.size_toArray ..
  rw [hz] at W
  refine ⟨s.heap.objs.size, [s.heap.objs.size, ax], [s.heap.objs.size], vs.length, _, _, led, Inv led, rfl, W, ⟨⟨_, Heap.get?_push_size _ rfl, rfl, rfl⟩, hl.at fun o e => Heap.get?_push_of_some _ e⟩, ?_, ?_, lst_new F, listiter_ob, F.push _, (fun p hp => ⟨Heap.get?_push_of_some _ (N p hp).1, (N p hp).2⟩), ?_, h0, ?_, done⟩
  · intro b hb
    show b < (s.heap.push _).objs.size
    rw [Heap.size_push]
    rcases List.mem_cons.mp hb with rfl | hb
    · exact Nat.lt_succ_self _
    · rw [List.mem_singleton.mp hb]; exact Nat.lt_succ_of_lt hax
  · intro q
    rcases List.mem_cons.mp q with q | q
    · exact absurd F.ns.lt (q ▸ Nat.lt_irrefl _)
    · exact (N _ hm).2.1 (List.mem_singleton.mp q).symm
  · intro p hp q
    exact absurd (Heap.lt_size (N p hp).1) ((List.mem_singleton.mp q) ▸ Nat.lt_irrefl _)
  · intro C i v ys led' own oC m₂ h tk E' hi hP hI F' N' nC hm₂
    exact ok C i v ys led' own oC m₂ h tk E' (by rw [← List.getElem?_toArray]; exact hP) hI F' N' nC hm₂
abbrev rangeO (a b c : Int) (t u v : Tok) : Obj := { cls := .type "range", dict := none, data := .fields #[.int a t, .int b u, .int c v], slots := #[] }
/-- the outer list is a range of the ledger -/
theorem comp2_range {x y : Str} {elt i1 : Expr} {scope : Scope} {cl : List (Str × Addr)} {h₀ : Heap} {L ax : Addr} {n : Nat} {t u v : Tok} {led : Led} {m : Str → Option Value} {md : Addr → Str → Option Value} {Qd : Addr → Shared → Prop} (Inv : Led → Nat → List Value → Led → Prop)
    (hh : A.handled = none) (F : Fr h₀ L s.heap m) (N : News h₀ L s.heap led) (hm : (ax, rangeO 0 n 1 t u v) ∈ led) (hsmall : Builtin.Range.small 0 n 1 = true) (hn : Builtin.Range.rangeSize 0 n 1 = (n : Int)) (h0 : Inv led 0 [] led)
    (ok : ∀ C (i : Nat) tv ys led' own oC m₂ h tk E', i < n → Inv led i ys led' → Fr h₀ L h m → News h₀ L h ((C, oC) :: (own ++ led')) → NsO oC m₂ → m₂ x = some (.int i tv) →
      wpAny (model prog w) A (eval i1 (compEnvC scope cl C env)) (fun xv s₃ => wpAny (model prog w) A (pyIter xv) (InAt prog w A env x y elt scope cl h₀ L C m ((C, oC) :: (own ++ led')) led' (.int i tv) ys (Inv led (i + 1)) s) E' s₃) E' { s with heap := h, toks := tk })
    (done : ∀ D ys led' k h' tk, Inv led n ys led' → Fr h₀ L h' (md D) → News h₀ L h' ((D, listOf ys.toArray k) :: led') → (∀ p ∈ led', p.1 ≠ D) → (∀ p ∈ led, p.1 < D) → Qd D { s with heap := h', toks := tk }) :
    wpAny (model prog w) A (pyIter (.ref ax)) (CompAt2 prog w A env x y elt i1 scope cl h₀ L m md Qd) E s := by
  refine wpAny_pyIter_range (N _ hm).1 hsmall ?_
  have W : Walks prog w A s.heap.objs.size [s.heap.objs.size] [s.heap.objs.size] n (fun i v => i < n ∧ ∃ t, v = .int (0 + i * 1) t)
      (fun i h => IsRangeIter h s.heap.objs.size (0 + (i : Nat) * 1) ((n : Int) - (i : Nat)) 1) := (Walks.range hh _ 0 1 n).bound
  refine ⟨s.heap.objs.size, [s.heap.objs.size], [s.heap.objs.size], n, _, _, led, Inv led, rfl, W, (by show IsRangeIter _ _ _ _ _; rw [hn]; simpa using Heap.get?_push_size _ rfl), ?_, ?_, lst_new F, (fun i h st b hb => by rw [List.mem_singleton.mp hb]; exact ⟨_, st⟩), F.push _, (fun p hp => ⟨Heap.get?_push_of_some _ (N p hp).1, (N p hp).2⟩), ?_, h0, ?_, done⟩
  · intro b hb
    show b < (s.heap.push _).objs.size
    rw [Heap.size_push, List.mem_singleton.mp hb]
    exact Nat.lt_succ_self _
  · intro q
    exact absurd F.ns.lt ((List.mem_singleton.mp q) ▸ Nat.lt_irrefl _)
  · intro p hp q
    exact absurd (Heap.lt_size (N p hp).1) ((List.mem_singleton.mp q) ▸ Nat.lt_irrefl _)
  · rintro C i v ys led' own oC m₂ h tk E' hi ⟨_, t, rfl⟩ hI F' N' nC hm₂
    rw [show (0 : Int) + (i : Int) * 1 = (i : Int) by omega] at hm₂ ⊢
    exact ok C i t ys led' own oC m₂ h tk E' hi hI F' N' nC hm₂
/-- a comprehension over a range of the ledger -/
theorem comp_range {x : Str} {px : Pos} {elt : Expr} {ifs : List Expr} {scope : Scope} {cl : List (Str × Addr)} {h₀ : Heap} {L ax : Addr} {n : Nat} {t u v : Tok} {led : Led} {m : Str → Option Value} {md : Addr → Str → Option Value} {Qd : Addr → Shared → Prop} (Inv : Led → Nat → List Value → Led → Prop)
    (hx : scope.names.lookup x = some .local) (hkind : scope.kind = .function) (hz : n ≤ sizeLine)
    (hh : A.handled = none) (F : Fr h₀ L s.heap m) (N : News h₀ L s.heap led) (hm : (ax, rangeO 0 n 1 t u v) ∈ led) (hsmall : Builtin.Range.small 0 n 1 = true) (hn : Builtin.Range.rangeSize 0 n 1 = (n : Int)) (h0 : Inv led 0 [] led)
    (ok : ∀ C (i : Nat) tv ys led' own oC m₂ h tk E', i < n → Inv led i ys led' → Fr h₀ L h m → News h₀ L h ((C, oC) :: (own ++ led')) → NsO oC m₂ → m₂ x = some (.int i tv) → (∀ p ∈ own, p.2.cls ≠ .type "tuple") →
      wpAny (model prog w) A (tests ifs (compEnvC scope cl C env)) (fun b s₃ => if b = true then wpAny (model prog w) A (eval elt (compEnvC scope cl C env)) (fun y s₄ => PStep h₀ L m ((C, oC) :: (own ++ led')) led' (Inv led (i + 1) (ys ++ [y])) s s₄) E' s₃ else PStep h₀ L m ((C, oC) :: (own ++ led')) led' (Inv led (i + 1) ys) s s₃) E' { s with heap := h, toks := tk })
    (done : ∀ D ys led' k h' tk, Inv led n ys led' → ys.length ≤ n → Fr h₀ L h' (md D) → News h₀ L h' ((D, listOf ys.toArray k) :: led') → (∀ p ∈ led', p.1 ≠ D) → (∀ p ∈ led, p.1 < D) → Qd D { s with heap := h', toks := tk }) :
    wpAny (model prog w) A (pyIter (.ref ax)) (CompAt prog w A env (.Name x px) elt ifs scope cl h₀ L m md Qd) E s := by
  refine wpAny_pyIter_range (N _ hm).1 hsmall ?_
  have W : Walks prog w A s.heap.objs.size [s.heap.objs.size] [s.heap.objs.size] n (fun i v => i < n ∧ ∃ t, v = .int (0 + i * 1) t)
      (fun i h => IsRangeIter h s.heap.objs.size (0 + (i : Nat) * 1) ((n : Int) - (i : Nat)) 1) := (Walks.range hh _ 0 1 n).bound
  refine ⟨s.heap.objs.size, [s.heap.objs.size], [s.heap.objs.size], n, _, _, led, Inv led, rfl, W, hz, (by show IsRangeIter _ _ _ _ _; rw [hn]; simpa using Heap.get?_push_size _ rfl), ?_, ?_, lst_new F, F.push _, (fun p hp => ⟨Heap.get?_push_of_some _ (N p hp).1, (N p hp).2⟩), ?_, h0, ?_, done⟩
  · intro b hb
    show b < (s.heap.push _).objs.size
    rw [Heap.size_push, List.mem_singleton.mp hb]
    exact Nat.lt_succ_self _
  · intro q
    exact absurd F.ns.lt ((List.mem_singleton.mp q) ▸ Nat.lt_irrefl _)
  · intro p hp q
    exact absurd (Heap.lt_size (N p hp).1) ((List.mem_singleton.mp q) ▸ Nat.lt_irrefl _)
  · refine cturn_name hx hkind (fun i h st b hb => by rw [List.mem_singleton.mp hb]; exact ⟨_, st⟩) (fun b hb => hb) (lst_new F) (fun i h st b hb o e => by rw [List.mem_singleton.mp hb] at e; rw [show h.get? _ = some _ from st] at e; cases e; intro q; simp at q) ?_
    rintro C i v ys led' own oC m₂ h tk E' hi ⟨_, t, rfl⟩ hI F' N' nC hm₂ hno
    rw [show (0 : Int) + (i : Int) * 1 = (i : Int) by omega] at hm₂
    exact ok C i t ys led' own oC m₂ h tk E' hi hI F' N' nC hm₂ hno
end
end Mine
end
section
open PySem PySem.W PyProof.Rows
set_option maxRecDepth 100000
set_option maxHeartbeats 8000000
set_option linter.unusedVariables false
namespace Mine
example : True := by (k_with_none; trivial)
example : True := by ((k_with "u1" => ((case k1zz => k_asm); (case k2zz => k_asm); (case k3zz => k_asm); (case k4zz => k_asm); (case k5zz => k_asm))); trivial)
example : True := by ((k_with "u2" => ((case kKzz => first | exact rfl | assumption); (case kdzz => ktr_room); (case kuzz => ktr_units))); trivial)
example : True := by ((k_with "u3" => (intro r9zz tl9zz h9zz tk9zz F9zz N9zz l9zz o9zz; (try dsimp only at o9zz))); trivial)
example : True := by ((k_with "u4" => ((try simp only [List.nil_append, List.cons_append] at N9zz); (try dsimp only); (try k_fold))); trivial)
example : True := by ((k_with "suf" => (first | apply sub_refl | assumption | (refine sub_tail ?_; k_extra "suf") | (refine sub_app ?_; k_extra "suf") | apply sub_nil | (refine sub_appL ?_; k_extra "suf"))); trivial)
example : True := by ((k_with "in" => (first | assumption | apply in_head | (refine in_tail ?_; k_extra "in") | (refine in_app ?_; k_extra "in") | (refine in_appL ?_; k_extra "in"))); trivial)
example : True := by ((k_with "sub" => (first | k_extra "suf" | (refine sub_cons ?_ ?_; (focus k_extra "in"); k_extra "sub") | (refine sub_both ?_ ?_; (focus k_extra "sub"); k_extra "sub") | (refine sub_trans ?_ (by assumption); k_extra "suf"))); trivial)
example : True := by ((k_with "lt0" => (first | assumption | (refine Mine.pickA (by assumption) ?_; intro hz9zz; first | apply hz9zz.1 | (replace hz9zz := hz9zz.2; first | apply hz9zz.1 | (replace hz9zz := hz9zz.2; first | apply hz9zz.1 | (replace hz9zz := hz9zz.2; first | apply hz9zz.1 | (replace hz9zz := hz9zz.2; first | apply hz9zz.1 | (replace hz9zz := hz9zz.2; first | apply hz9zz.1 | (replace hz9zz := hz9zz.2; first | apply hz9zz.1 | (replace hz9zz := hz9zz.2; first | apply hz9zz.1 | (replace hz9zz := hz9zz.2; first | apply hz9zz.1 | (replace hz9zz := hz9zz.2; first | apply hz9zz.1 | (replace hz9zz := hz9zz.2; first | apply hz9zz.1 | (replace hz9zz := hz9zz.2; first | apply hz9zz.1 | (replace hz9zz := hz9zz.2; first | apply hz9zz.1 | (replace hz9zz := hz9zz.2; first | apply hz9zz.1 | apply hz9zz.2)))))))))))))))); trivial)
example : True := by ((k_with "lt1" => (first | apply Mine.sl1 | apply Mine.sl2 | apply Mine.sl3 | apply Mine.sl4 | exact Mine.dn1 (by assumption) | exact Mine.dn2 (by assumption) | exact Mine.dn3 (by assumption) | exact Mine.dn4 (by assumption) | exact Mine.upx (by assumption) (by assumption) | exact Mine.up4 (by assumption) | (refine Nat.lt_trans ?_ (by assumption); first | k_extra "lt0" | exact Mine.dn1 (by assumption) | exact Mine.dn2 (by assumption) | exact Mine.dn3 (by assumption) | exact Mine.dn4 (by assumption) | (refine Nat.lt_trans ?_ (by assumption); k_extra "lt0")))); trivial)
example : True := by ((k_with "LeaveK" => (k_dflt (refine' leaveK_ ?k1zz ?k2zz ?_; (case k1zz => k_asm); (case k2zz => k_asm); k_whole); intro kFzz kNzz; (try dsimp only))); trivial)
example : True := by ((k_with "k_mem" => (first | assumption | (refine' List.mem_append_right _ ?_; k_mem) | (refine' List.mem_append_left _ ?_; k_mem))); trivial)
example : True := by ((k_with "kcj_all" => (k_whole; first | (refine fun pzz hpzz => List.mem_append_right _ ?_; assumption) | (intro pzz hpzz; (simp only [List.mem_append, List.mem_cons, List.not_mem_nil, or_false, false_or] at hpzz ⊢); first | assumption | (simp only [hpzz, true_or, or_true]; done) | grind))); trivial)
example : True := by ((k_with "kcj_all" => (k_whole; with_reducible k_extra "sub")); trivial)
example : True := by ((k_with "newTuple" => (k_here; k_dflt (refine' kup_newTuple ?Fzz ?Nzz ?_ ?zzz; (case Fzz => k_asm); (case Nzz => k_asm); (case zzz => kmk_size)); intro D'zz h'zz F'zz N'zz l1zz; (try k_lt l1zz); (try k_sweep))); trivial)
example : True := by ((k_with "binaryOp Pow int int" => ((with_reducible refine pow_int_small ?kb1zz ?kb2zz ?kb3zz ?_); (case kb1zz => omega); (case kb2zz => omega); (case kb3zz => decide))); trivial)
example : True := by ((k_with "subscriptTail" => (k_here; (with_reducible show wpAny _ _ (subscriptTail _ _ (Value.ref _) (Value.int _ _)) _ _ _); (with_unfolding_all refine' item_litK ?k1zz ?k2zz ?k3zz ?k4zz ?_ ?k6zz; (case k1zz => exact isListOf (by k_asm) (by k_mem)); (case k2zz => first | decide | omega); (case k3zz => first | decide | omega); (case k4zz => first | rfl | assumption); (case k6zz => with_unfolding_all rfl); k_whole))); trivial)
example : True := by ((k_with "subscriptTail Name Name ref int" => (k_here; (with_reducible show wpAny _ _ (subscriptTail _ _ (Value.ref _) (Value.int _ _)) _ _ _); (with_unfolding_all refine' item_litK ?k1zz ?k2zz ?k3zz ?k4zz ?_ ?k6zz; (case k1zz => exact isListOf (by k_asm) (by k_mem)); (case k2zz => first | decide | omega); (case k3zz => first | decide | omega); (case k4zz => first | rfl | assumption); (case k6zz => with_unfolding_all rfl); k_whole))); trivial)
example : True := by ((k_with "subscriptTail Name Constant ref int" => (k_here; (with_reducible show wpAny _ _ (subscriptTail _ _ (Value.ref _) (Value.int _ _)) _ _ _); (with_unfolding_all refine' item_litK ?k1zz ?k2zz ?k3zz ?k4zz ?_ ?k6zz; (case k1zz => exact isListOf (by k_asm) (by k_mem)); (case k2zz => first | decide | omega); (case k3zz => first | decide | omega); (case k4zz => first | rfl | assumption); (case k6zz => with_unfolding_all rfl); k_whole))); trivial)
example : True := by ((k_with "call ref" => (k_here; (with_reducible show wpAny _ _ (call (Value.ref 255) _) _ _ _); k_dflt (refine' sp_use (sp_reckoned _ _ _ _ _ _ _ _ _ ?p1zz ?p2zz ?p3zz ?p4zz ?p5zz) ?k1zz ?k2zz ?k3zz ?k4zz ?k5zz ?kKzz ?kdzz ?kuzz ?_); k_extra "u1"; k_extra "u2"; (case p4zz => first | exact numIn_i | exact numIn_d (by k_mem) | exact NumIn.mono (by assumption) (by kcj_all) | assumption); (case p5zz => first | exact numIn_i | exact numIn_d (by k_mem) | exact NumIn.mono (by assumption) (by kcj_all) | assumption); (case p1zz => assumption); (case p2zz => assumption); (case p3zz => first | assumption | k_extra "sum"); k_extra "u3"; skip; k_extra "u4")); trivial)
example : True := by ((k_with "getAttr ref" => (k_here; k_dflt (refine' get_own ?k1zz ?k2zz ?k3zz ?k4zz ?k5zz ?k6zz ?k7zz ?k8zz ?k9zz ?_; (case k1zz => k_asm); (case k2zz => k_asm); (case k3zz => k_inst); (case k4zz => k_is); (case k5zz => k_is); (case k6zz => k_is); (case k7zz => k_is); (case k8zz => assumption); (case k9zz => exact rfl); k_whole))); trivial)
example : True := by ((k_with "call ref" => (k_here; (with_reducible show wpAny _ _ (call (Value.ref 262) _) _ _ _); k_dflt (refine' sp_use (sp_negated _ _ _ _ _ _ ?p1zz ?p2zz) ?k1zz ?k2zz ?k3zz ?k4zz ?k5zz ?kKzz ?kdzz ?kuzz ?_); k_extra "u1"; k_extra "u2"; (case p2zz => first | assumption | exact NumIn.mono (by assumption) (by kcj_all)); (case p1zz => assumption); k_extra "u3"; skip; k_extra "u4")); trivial)
example : True := by ((k_with "call ref" => (k_here; (with_reducible show wpAny _ _ (call (Value.ref 368) _) _ _ _); k_dflt (refine' sp_useI (sp_units _ _ _ _ ?p1zz ?p2zz) ?k1zz ?k2zz ?k3zz ?k4zz ?k5zz ?kKzz ?kdzz ?kuzz ?_); k_extra "u1"; k_extra "u2"; (case p2zz => first | assumption | exact NumIn.mono (by assumption) (by kcj_all)); (case p1zz => assumption); intro h9zz tk9zz F9zz t9zz N9zz; (try dsimp only); (try k_fold))); trivial)
example : True := by ((k_with "call ref" => (k_here; (with_reducible show wpAny _ _ (call (Value.ref 361) _) _ _ _); k_dflt (refine' sp_use (sp_law_number _ _ _ _ _ ?p1zz ?p2zz) ?k1zz ?k2zz ?k3zz ?k4zz ?k5zz ?kKzz ?kdzz ?kuzz ?_); k_extra "u1"; k_extra "u2"; (case p1zz => omega); (case p2zz => omega); k_extra "u3"; skip; k_extra "u4")); trivial)
example : True := by ((k_with "pyIter ref" => (first | k_extra "comp" | k_extra "for")); trivial)
example : True := by ((k_with "eval Name" => ((with_reducible show wpAny _ _ (eval _ (compEnvC _ _ _ _)) _ _ _); k_dflt (refine' comp_local ?Nzz ?hmzz ?nCzz ?hvzz ?_ ?azz ?bzz ?czz; (case bzz => exact rfl); (case azz => exact rfl); (case Nzz => k_asm); (case nCzz => assumption); (case hmzz => k_mem); (case hvzz => assumption); (case czz => decide)))); trivial)
example : True := by ((k_with "eval Name" => ((with_reducible show wpAny _ _ (eval _ (compEnvC _ _ _ _)) _ _ _); k_dflt (refine' comp_cell ?Nzz ?hmzz ?hd'zz ?_ ?azz ?bzz ?ezz ?czz; (case bzz => exact rfl); (case azz => exact rfl); (case ezz => exact rfl); (case Nzz => k_asm); (case hmzz => k_mem); (case hd'zz => assumption); (case czz => decide)))); trivial)
example : True := by ((k_with "exec Assign cons ListComp" => (k_dflt (refine' comp_assign ?aFzz ?a1zz ?a2zz ?a3zz ?a4zz ?a5zz ?a6zz ?a7zz ?a8zz ?_; (case aFzz => k_asm); (case a1zz => with_unfolding_all rfl); (case a2zz => with_unfolding_all rfl); (case a3zz => decide); (case a4zz => rfl); (case a5zz => decide); (case a6zz => intro _; with_unfolding_all rfl); (case a7zz => rfl); (case a8zz => rfl)))); trivial)
example : True := by ((k_with "eval ListComp" => (k_dflt (refine' comp_eval ?aFzz ?a2zz ?a3zz ?a4zz ?a5zz ?a6zz ?_; (case aFzz => k_asm); (case a2zz => with_unfolding_all rfl); (case a3zz => decide); (case a4zz => rfl); (case a5zz => decide); (case a6zz => intro _; with_unfolding_all rfl)))); trivial)
example : True := by ((k_with "call builtin:sorted" => (k_here; (with_reducible show wpAny _ _ (call (Value.builtin _) [Value.ref _]) _ _ _); (with_unfolding_all refine' kso_sorted ?k1zz ?k2zz ?k3zz ?k4zz ?k5zz ?_; (case k1zz => k_asm); (case k2zz => k_asm); (case k3zz => exact isListOf (by k_asm) (by k_mem)); (case k4zz => assumption); (case k5zz => assumption); k_whole); intro D'zz v'zz n'zz c'zz h'zz F'zz N'zz l1zz i'zz e'zz p'zz o'zz b'zz; (try k_lt l1zz); (try dsimp only))); trivial)
example : True := by ((k_with "compareOp Eq ref ref" => (k_here; (with_reducible show wpAny _ _ (compareOp CmpOp.Eq (Value.ref _) (Value.ref _)) _ _ _); k_dflt (refine' eq_intsK ?k1zz ?k2zz ?k3zz ?k4zz ?k5zz ?_; (case k1zz => exact isListOf (by k_asm) (by k_mem)); (case k3zz => exact isListOf (by k_asm) (by k_mem)); (case k2zz => assumption); (case k4zz => assumption); (case k5zz => ktr_units); k_whole))); trivial)
example : True := by ((k_with "exec For Tuple Name cons nil" => (k_here; (rename Fr _ _ _ _ => lF'zz); k_dflt (refine' For_invTF lF'zz ?_ ?hszz; (case hszz => intro _; with_unfolding_all rfl)))); trivial)
example : True := by ((k_with "k_all" => (assumption)); trivial)
example : True := by ((k_with "setItem ref int" => (k_here; k_dflt (refine' set_any ?k1zz ?k2zz ?k3zz ?k4zz ?k5zz ?k6zz ?_; (case k1zz => k_asm); (case k2zz => k_asm); (case k3zz => k_upd); (case k4zz => first | assumption | omega); (case k5zz => first | assumption | (simp only [List.length_set]; first | assumption | omega)); (case k6zz => omega); k_whole); intro h'zz F'zz N'zz; (try dsimp only))); trivial)
example : True := by ((k_with "subscriptTail Name Slice ref ref" => (k_here; k_dflt (refine' kmk_slice ?Fzz ?Nzz ?lzz ?pzz ?qzz ?_ ?szz ?tzz ?zzz; (case Fzz => k_asm); (case Nzz => k_asm); (case lzz => exact isListOf (by k_asm) (by k_mem)); (case pzz => kmk_part); (case qzz => kmk_part); (case szz => with_unfolding_all rfl); (case tzz => kmk_pure); (case zzz => (simp only [List.size_toArray, List.length_map, sizeLine_eq]; omega))); intro D'zz h'zz F'zz N'zz l1zz; (simp (disch := omega) only [pick_all, pick_upto, pick_from] at N'zz); (try k_lt l1zz); (try dsimp only))); trivial)
/-- a list of numbers -/
def NumsIn (news : Led) (xs : List (Value × Num)) : Prop := ∀ x ∈ xs, NumIn news x.1 x.2 ∧ x.2.Ok
theorem NumsIn.mono {news news' : Led} {xs : List (Value × Num)} (h : NumsIn news xs) (hs : ∀ p ∈ news, p ∈ news') : NumsIn news' xs := fun x hx => ⟨(h x hx).1.mono hs, (h x hx).2⟩
def unitsL (xs : List (Value × Num)) : List Int := xs.map fun x => x.2.units
theorem unitsL_snoc {xs : List (Value × Num)} {i : Nat} {x : Value × Num} (h : xs[i]? = some x) : unitsL (xs.take (i + 1)) = unitsL (xs.take i) ++ [x.2.units] := by
  unfold unitsL; rw [List.take_add_one, h]; simp
theorem riseEq {ns n' : List Int} (p : n'.Perm ns) (o : n'.Pairwise (· ≤ ·)) : decide (ns = n') = decide (ns.Pairwise (· ≤ ·)) := by
  by_cases h : ns = n'
  · subst h; rw [decide_eq_true rfl, decide_eq_true o]
  · rw [decide_eq_false h, decide_eq_false (fun q => h (List.Perm.eq_of_pairwise (le := (· ≤ ·)) (fun a b _ _ h1 h2 => Int.le_antisymm h1 h2) q o p.symm))]
theorem sp_law_rises (w : World) (ra : Addr) (xs : List (Value × Num)) (k : Nat) (news : Led) (hx : NumsIn news xs) (hl : (ra, listOf (xs.map (·.1)).toArray k) ∈ news) (hz : xs.length ≤ 60) :
    Sp w 4 140 385 [.ref ra] news (fun r tl => r = .bool (decide ((unitsL xs).Pairwise (· ≤ ·))) ∧ tl = []) := by
  unfold Sp
  intro p loose mean mg mb dp un gd cn cs a ccd cl outer A₀ base h₀ L m s Q E B F X N T hk hd hu hret
  refine wpAny_call ?_
  k_dflt ktr_enter
  k_with "comp" => refine comp_map_list (fun i ys led => led = news ∧ IntsAre ys (unitsL (xs.take i))) rfl rfl rfl (by k_asm) (by k_asm) (by k_mem) (held ?sz) (held ?h0) (held ?ok) (held ?dn)
  repeat' (first | (k_unfold; (try dsimp only)) | walk1 | (dsimp only; walk1) | (leave1; try dsimp only))
  case sz => exact Nat.le_trans (by rw [List.length_map]; exact hz) (by decide)
  case h0 => exact ⟨rfl, .nil⟩
  case ok =>
    intro C i v ys led' own oC m₂ h tk E' hv hI Fc Nc nC hm₂ hno
    obtain ⟨rfl, hi⟩ := hI
    obtain ⟨x, hxi, rfl⟩ : ∃ x, xs[i]? = some x ∧ x.1 = v := by simpa using hv
    have hxm := hx x (List.mem_of_getElem? hxi)
    obtain ⟨hxn, hxo⟩ := hxm
    repeat' (first | (k_unfold; (try dsimp only)) | walk1 | (dsimp only; walk1) | (leave1; try dsimp only))
    exact PStep.intro [] (by k_asm) (by assumption) ktn_ord0 ⟨rfl, by rw [unitsL_snoc hxi]; exact hi.append (.cons _ _ .nil)⟩
  case dn =>
    intro D ys led' k' h' tk' hInv hle F9 N9 hne hlt9
    obtain ⟨rfl, hi⟩ := hInv
    rw [List.length_map, List.take_length] at hi
    have h64 : (unitsL xs).length < 64 := by unfold unitsL; rw [List.length_map]; omega
    repeat' (first | (k_unfold; (try dsimp only)) | walk1 | (dsimp only; walk1) | (leave1; try dsimp only))
    all_goals exact hret _ [] _ _ (by k_asm) (cb_drop (by assumption) (by kcj_all)) (by first | ktn_ord | exact ord_sub (by assumption) (by kcj_all)) ⟨congrArg Value.bool (riseEq (by assumption) (by assumption)), rfl⟩
end Mine
end
section
open PySem PySem.W PyProof.Rows
set_option maxRecDepth 100000
set_option maxHeartbeats 8000000
set_option linter.unusedVariables false
namespace Mine
example : True := by (k_with_none; trivial)
example : True := by ((k_with "u1" => ((case k1zz => k_asm); (case k2zz => k_asm); (case k3zz => k_asm); (case k4zz => k_asm); (case k5zz => k_asm))); trivial)
example : True := by ((k_with "u2" => ((case kKzz => first | exact rfl | assumption); (case kdzz => ktr_room); (case kuzz => ktr_units))); trivial)
example : True := by ((k_with "u3" => (intro r9zz tl9zz h9zz tk9zz F9zz N9zz l9zz o9zz; (try dsimp only at o9zz))); trivial)
example : True := by ((k_with "u4" => ((try simp only [List.nil_append, List.cons_append] at N9zz); (try dsimp only); (try k_fold))); trivial)
example : True := by ((k_with "suf" => (first | apply sub_refl | assumption | (refine sub_tail ?_; k_extra "suf") | (refine sub_app ?_; k_extra "suf") | apply sub_nil | (refine sub_appL ?_; k_extra "suf"))); trivial)
example : True := by ((k_with "in" => (first | assumption | apply in_head | (refine in_tail ?_; k_extra "in") | (refine in_app ?_; k_extra "in") | (refine in_appL ?_; k_extra "in"))); trivial)
example : True := by ((k_with "sub" => (first | k_extra "suf" | (refine sub_cons ?_ ?_; (focus k_extra "in"); k_extra "sub") | (refine sub_both ?_ ?_; (focus k_extra "sub"); k_extra "sub") | (refine sub_trans ?_ (by assumption); k_extra "suf"))); trivial)
example : True := by ((k_with "lt0" => (first | assumption | (refine Mine.pickA (by assumption) ?_; intro hz9zz; first | apply hz9zz.1 | (replace hz9zz := hz9zz.2; first | apply hz9zz.1 | (replace hz9zz := hz9zz.2; first | apply hz9zz.1 | (replace hz9zz := hz9zz.2; first | apply hz9zz.1 | (replace hz9zz := hz9zz.2; first | apply hz9zz.1 | (replace hz9zz := hz9zz.2; first | apply hz9zz.1 | (replace hz9zz := hz9zz.2; first | apply hz9zz.1 | (replace hz9zz := hz9zz.2; first | apply hz9zz.1 | (replace hz9zz := hz9zz.2; first | apply hz9zz.1 | (replace hz9zz := hz9zz.2; first | apply hz9zz.1 | (replace hz9zz := hz9zz.2; first | apply hz9zz.1 | (replace hz9zz := hz9zz.2; first | apply hz9zz.1 | (replace hz9zz := hz9zz.2; first | apply hz9zz.1 | (replace hz9zz := hz9zz.2; first | apply hz9zz.1 | apply hz9zz.2)))))))))))))))); trivial)
example : True := by ((k_with "lt1" => (first | apply Mine.sl1 | apply Mine.sl2 | apply Mine.sl3 | apply Mine.sl4 | exact Mine.dn1 (by assumption) | exact Mine.dn2 (by assumption) | exact Mine.dn3 (by assumption) | exact Mine.dn4 (by assumption) | exact Mine.upx (by assumption) (by assumption) | exact Mine.up4 (by assumption) | (refine Nat.lt_trans ?_ (by assumption); first | k_extra "lt0" | exact Mine.dn1 (by assumption) | exact Mine.dn2 (by assumption) | exact Mine.dn3 (by assumption) | exact Mine.dn4 (by assumption) | (refine Nat.lt_trans ?_ (by assumption); k_extra "lt0")))); trivial)
example : True := by ((k_with "LeaveK" => (k_dflt (refine' leaveK_ ?k1zz ?k2zz ?_; (case k1zz => k_asm); (case k2zz => k_asm); k_whole); intro kFzz kNzz; (try dsimp only))); trivial)
example : True := by ((k_with "k_mem" => (first | assumption | (refine' List.mem_append_right _ ?_; k_mem) | (refine' List.mem_append_left _ ?_; k_mem))); trivial)
example : True := by ((k_with "kcj_all" => (k_whole; first | (refine fun pzz hpzz => List.mem_append_right _ ?_; assumption) | (intro pzz hpzz; (simp only [List.mem_append, List.mem_cons, List.not_mem_nil, or_false, false_or] at hpzz ⊢); first | assumption | (simp only [hpzz, true_or, or_true]; done) | grind))); trivial)
example : True := by ((k_with "kcj_all" => (k_whole; with_reducible k_extra "sub")); trivial)
example : True := by ((k_with "newTuple" => (k_here; k_dflt (refine' kup_newTuple ?Fzz ?Nzz ?_ ?zzz; (case Fzz => k_asm); (case Nzz => k_asm); (case zzz => kmk_size)); intro D'zz h'zz F'zz N'zz l1zz; (try k_lt l1zz); (try k_sweep))); trivial)
example : True := by ((k_with "binaryOp Pow int int" => ((with_reducible refine pow_int_small ?kb1zz ?kb2zz ?kb3zz ?_); (case kb1zz => omega); (case kb2zz => omega); (case kb3zz => decide))); trivial)
example : True := by ((k_with "subscriptTail" => (k_here; (with_reducible show wpAny _ _ (subscriptTail _ _ (Value.ref _) (Value.int _ _)) _ _ _); (with_unfolding_all refine' item_litK ?k1zz ?k2zz ?k3zz ?k4zz ?_ ?k6zz; (case k1zz => exact isListOf (by k_asm) (by k_mem)); (case k2zz => first | decide | omega); (case k3zz => first | decide | omega); (case k4zz => first | rfl | assumption); (case k6zz => with_unfolding_all rfl); k_whole))); trivial)
example : True := by ((k_with "subscriptTail Name Name ref int" => (k_here; (with_reducible show wpAny _ _ (subscriptTail _ _ (Value.ref _) (Value.int _ _)) _ _ _); (with_unfolding_all refine' item_litK ?k1zz ?k2zz ?k3zz ?k4zz ?_ ?k6zz; (case k1zz => exact isListOf (by k_asm) (by k_mem)); (case k2zz => first | decide | omega); (case k3zz => first | decide | omega); (case k4zz => first | rfl | assumption); (case k6zz => with_unfolding_all rfl); k_whole))); trivial)
example : True := by ((k_with "subscriptTail Name Constant ref int" => (k_here; (with_reducible show wpAny _ _ (subscriptTail _ _ (Value.ref _) (Value.int _ _)) _ _ _); (with_unfolding_all refine' item_litK ?k1zz ?k2zz ?k3zz ?k4zz ?_ ?k6zz; (case k1zz => exact isListOf (by k_asm) (by k_mem)); (case k2zz => first | decide | omega); (case k3zz => first | decide | omega); (case k4zz => first | rfl | assumption); (case k6zz => with_unfolding_all rfl); k_whole))); trivial)
example : True := by ((k_with "call ref" => (k_here; (with_reducible show wpAny _ _ (call (Value.ref 255) _) _ _ _); k_dflt (refine' sp_use (sp_reckoned _ _ _ _ _ _ _ _ _ ?p1zz ?p2zz ?p3zz ?p4zz ?p5zz) ?k1zz ?k2zz ?k3zz ?k4zz ?k5zz ?kKzz ?kdzz ?kuzz ?_); k_extra "u1"; k_extra "u2"; (case p4zz => first | exact numIn_i | exact numIn_d (by k_mem) | exact NumIn.mono (by assumption) (by kcj_all) | assumption); (case p5zz => first | exact numIn_i | exact numIn_d (by k_mem) | exact NumIn.mono (by assumption) (by kcj_all) | assumption); (case p1zz => assumption); (case p2zz => assumption); (case p3zz => first | assumption | k_extra "sum"); k_extra "u3"; skip; k_extra "u4")); trivial)
example : True := by ((k_with "getAttr ref" => (k_here; k_dflt (refine' get_own ?k1zz ?k2zz ?k3zz ?k4zz ?k5zz ?k6zz ?k7zz ?k8zz ?k9zz ?_; (case k1zz => k_asm); (case k2zz => k_asm); (case k3zz => k_inst); (case k4zz => k_is); (case k5zz => k_is); (case k6zz => k_is); (case k7zz => k_is); (case k8zz => assumption); (case k9zz => exact rfl); k_whole))); trivial)
example : True := by ((k_with "call ref" => (k_here; (with_reducible show wpAny _ _ (call (Value.ref 262) _) _ _ _); k_dflt (refine' sp_use (sp_negated _ _ _ _ _ _ ?p1zz ?p2zz) ?k1zz ?k2zz ?k3zz ?k4zz ?k5zz ?kKzz ?kdzz ?kuzz ?_); k_extra "u1"; k_extra "u2"; (case p2zz => first | assumption | exact NumIn.mono (by assumption) (by kcj_all)); (case p1zz => assumption); k_extra "u3"; skip; k_extra "u4")); trivial)
example : True := by ((k_with "call ref" => (k_here; (with_reducible show wpAny _ _ (call (Value.ref 368) _) _ _ _); k_dflt (refine' sp_useI (sp_units _ _ _ _ ?p1zz ?p2zz) ?k1zz ?k2zz ?k3zz ?k4zz ?k5zz ?kKzz ?kdzz ?kuzz ?_); k_extra "u1"; k_extra "u2"; (case p2zz => first | assumption | exact NumIn.mono (by assumption) (by kcj_all)); (case p1zz => assumption); intro h9zz tk9zz F9zz t9zz N9zz; (try dsimp only); (try k_fold))); trivial)
example : True := by ((k_with "call ref" => (k_here; (with_reducible show wpAny _ _ (call (Value.ref 361) _) _ _ _); k_dflt (refine' sp_use (sp_law_number _ _ _ _ _ ?p1zz ?p2zz) ?k1zz ?k2zz ?k3zz ?k4zz ?k5zz ?kKzz ?kdzz ?kuzz ?_); k_extra "u1"; k_extra "u2"; (case p1zz => omega); (case p2zz => omega); k_extra "u3"; skip; k_extra "u4")); trivial)
example : True := by ((k_with "call ref" => (k_here; (with_reducible show wpAny _ _ (call (Value.ref 311) _) _ _ _); k_dflt (refine' sp_useV (sp_number_min _ _ _ _ _ _ _ _ _ ?p1zz ?p2zz ?p3zz ?p4zz ?p5zz) ?k1zz ?k2zz ?k3zz ?k4zz ?k5zz ?kKzz ?kdzz ?kuzz ?_); k_extra "u1"; k_extra "u2"; (case p5zz => k_mem); (case p3zz => first | assumption | exact NumIn.mono (by assumption) (by kcj_all)); (case p4zz => first | assumption | exact NumIn.mono (by assumption) (by kcj_all)); (case p1zz => assumption); (case p2zz => assumption); intro h9zz tk9zz F9zz N9zz; (try dsimp only); (try k_fold))); trivial)
example : True := by ((k_with "call ref" => (k_here; (with_reducible show wpAny _ _ (call (Value.ref 318) _) _ _ _); k_dflt (refine' sp_useV (sp_number_max _ _ _ _ _ _ _ _ _ ?p1zz ?p2zz ?p3zz ?p4zz ?p5zz) ?k1zz ?k2zz ?k3zz ?k4zz ?k5zz ?kKzz ?kdzz ?kuzz ?_); k_extra "u1"; k_extra "u2"; (case p5zz => k_mem); (case p3zz => first | assumption | exact NumIn.mono (by assumption) (by kcj_all)); (case p4zz => first | assumption | exact NumIn.mono (by assumption) (by kcj_all)); (case p1zz => assumption); (case p2zz => assumption); intro h9zz tk9zz F9zz N9zz; (try dsimp only); (try k_fold))); trivial)
example : True := by ((k_with "pyIter ref" => (first | k_extra "comp" | k_extra "for")); trivial)
example : True := by ((k_with "eval Name" => ((with_reducible show wpAny _ _ (eval _ (compEnvC _ _ _ _)) _ _ _); k_dflt (refine' comp_local ?Nzz ?hmzz ?nCzz ?hvzz ?_ ?azz ?bzz ?czz; (case bzz => exact rfl); (case azz => exact rfl); (case Nzz => k_asm); (case nCzz => assumption); (case hmzz => k_mem); (case hvzz => assumption); (case czz => decide)))); trivial)
example : True := by ((k_with "eval Name" => ((with_reducible show wpAny _ _ (eval _ (compEnvC _ _ _ _)) _ _ _); k_dflt (refine' comp_cell ?Nzz ?hmzz ?hd'zz ?_ ?azz ?bzz ?ezz ?czz; (case bzz => exact rfl); (case azz => exact rfl); (case ezz => exact rfl); (case Nzz => k_asm); (case hmzz => k_mem); (case hd'zz => assumption); (case czz => decide)))); trivial)
example : True := by ((k_with "exec Assign cons ListComp" => (k_dflt (refine' comp_assign ?aFzz ?a1zz ?a2zz ?a3zz ?a4zz ?a5zz ?a6zz ?a7zz ?a8zz ?_; (case aFzz => k_asm); (case a1zz => with_unfolding_all rfl); (case a2zz => with_unfolding_all rfl); (case a3zz => decide); (case a4zz => rfl); (case a5zz => decide); (case a6zz => intro _; with_unfolding_all rfl); (case a7zz => rfl); (case a8zz => rfl)))); trivial)
example : True := by ((k_with "eval ListComp" => (k_dflt (refine' comp_eval ?aFzz ?a2zz ?a3zz ?a4zz ?a5zz ?a6zz ?_; (case aFzz => k_asm); (case a2zz => with_unfolding_all rfl); (case a3zz => decide); (case a4zz => rfl); (case a5zz => decide); (case a6zz => intro _; with_unfolding_all rfl)))); trivial)
example : True := by ((k_with "call builtin:sorted" => (k_here; (with_reducible show wpAny _ _ (call (Value.builtin _) [Value.ref _]) _ _ _); (with_unfolding_all refine' kso_sorted ?k1zz ?k2zz ?k3zz ?k4zz ?k5zz ?_; (case k1zz => k_asm); (case k2zz => k_asm); (case k3zz => exact isListOf (by k_asm) (by k_mem)); (case k4zz => assumption); (case k5zz => assumption); k_whole); intro D'zz v'zz n'zz c'zz h'zz F'zz N'zz l1zz i'zz e'zz p'zz o'zz b'zz; (try k_lt l1zz); (try dsimp only))); trivial)
example : True := by ((k_with "compareOp Eq ref ref" => (k_here; (with_reducible show wpAny _ _ (compareOp CmpOp.Eq (Value.ref _) (Value.ref _)) _ _ _); k_dflt (refine' eq_intsK ?k1zz ?k2zz ?k3zz ?k4zz ?k5zz ?_; (case k1zz => exact isListOf (by k_asm) (by k_mem)); (case k3zz => exact isListOf (by k_asm) (by k_mem)); (case k2zz => assumption); (case k4zz => assumption); (case k5zz => ktr_units); k_whole))); trivial)
example : True := by ((k_with "exec For Tuple Name cons nil" => (k_here; (rename Fr _ _ _ _ => lF'zz); k_dflt (refine' For_invTF lF'zz ?_ ?hszz; (case hszz => intro _; with_unfolding_all rfl)))); trivial)
example : True := by ((k_with "k_all" => (assumption)); trivial)
example : True := by ((k_with "setItem ref int" => (k_here; k_dflt (refine' set_any ?k1zz ?k2zz ?k3zz ?k4zz ?k5zz ?k6zz ?_; (case k1zz => k_asm); (case k2zz => k_asm); (case k3zz => k_upd); (case k4zz => first | assumption | omega); (case k5zz => first | assumption | (simp only [List.length_set]; first | assumption | omega)); (case k6zz => omega); k_whole); intro h'zz F'zz N'zz; (try dsimp only))); trivial)
example : True := by ((k_with "subscriptTail Name Slice ref ref" => (k_here; k_dflt (refine' kmk_slice ?Fzz ?Nzz ?lzz ?pzz ?qzz ?_ ?szz ?tzz ?zzz; (case Fzz => k_asm); (case Nzz => k_asm); (case lzz => exact isListOf (by k_asm) (by k_mem)); (case pzz => kmk_part); (case qzz => kmk_part); (case szz => with_unfolding_all rfl); (case tzz => kmk_pure); (case zzz => (simp only [List.size_toArray, List.length_map, sizeLine_eq]; omega))); intro D'zz h'zz F'zz N'zz l1zz; (simp (disch := omega) only [pick_all, pick_upto, pick_from] at N'zz); (try k_lt l1zz); (try dsimp only))); trivial)
abbrev VN := Value × Num
def mn (x y : VN) : VN := if y.2.units < x.2.units then y else x
def mx (x y : VN) : VN := if x.2.units < y.2.units then y else x
def ledStep (xs : List VN) (p : Int × Int) : List VN := match xs[p.1.toNat]?, xs[p.2.toNat]? with
  | some x, some y => (xs.set p.1.toNat (mn x y)).set p.2.toNat (mx x y)
  | _, _ => xs
def ledF (ps : List (Int × Int)) (xs : List VN) : List VN := ps.foldl ledStep xs
def PairOk (n : Nat) (p : Int × Int) : Prop := 0 ≤ p.1 ∧ p.1 < n ∧ 0 ≤ p.2 ∧ p.2 < n ∧ p.1 ≠ p.2
def PairIn (news : Led) (v : Value) (p : Int × Int) : Prop := ∃ q t1 t2 k, v = .ref q ∧ (q, tupO [.int p.1 t1, .int p.2 t2] k) ∈ news
def PairsIn (news : Led) (pxs : List (Value × Int × Int)) : Prop := ∀ x ∈ pxs, PairIn news x.1 x.2
theorem PairsIn.mono {news news' : Led} {pxs : List (Value × Int × Int)} (h : PairsIn news pxs) (hs : ∀ p ∈ news, p ∈ news') : PairsIn news' pxs := fun x hx => by
  obtain ⟨q, t1, t2, k, e, hm⟩ := h x hx
  exact ⟨q, t1, t2, k, e, hs _ hm⟩
theorem ledStep_len {xs : List VN} {p : Int × Int} : (ledStep xs p).length = xs.length := by
  unfold ledStep; split <;> simp
theorem ledF_len (ps : List (Int × Int)) : ∀ xs : List VN, (ledF ps xs).length = xs.length := by
  induction ps with
  | nil => intro xs; rfl
  | cons p r ih => intro xs; exact (ih _).trans ledStep_len
theorem ledF_snoc {ps : List (Int × Int)} {i : Nat} {p : Int × Int} {xs : List VN} (h : ps[i]? = some p) : ledF (ps.take (i + 1)) xs = ledStep (ledF (ps.take i) xs) p := by
  unfold ledF; rw [List.take_add_one, h]; simp
theorem mn_or (x y : VN) : mn x y = x ∨ mn x y = y := by unfold mn; split; exact .inr rfl; exact .inl rfl
theorem mx_or (x y : VN) : mx x y = x ∨ mx x y = y := by unfold mx; split; exact .inr rfl; exact .inl rfl
theorem ledStep_mem {xs : List VN} {p : Int × Int} : ∀ z ∈ ledStep xs p, z ∈ xs := by
  intro z hz
  unfold ledStep at hz
  split at hz
  · rename_i x y hx hy
    have mx' := List.mem_of_getElem? hx
    have my' := List.mem_of_getElem? hy
    rcases List.mem_or_eq_of_mem_set hz with h | h
    · rcases List.mem_or_eq_of_mem_set h with h | h
      · exact h
      · rcases mn_or x y with e | e <;> rw [h, e] <;> assumption
    · rcases mx_or x y with e | e <;> rw [h, e] <;> assumption
  · exact hz
theorem ledF_mem (ps : List (Int × Int)) : ∀ xs : List VN, ∀ z ∈ ledF ps xs, z ∈ xs := by
  induction ps with
  | nil => intro xs z hz; exact hz
  | cons p r ih => intro xs z hz; exact ledStep_mem z (ih _ z hz)
def ledM (D pa : Addr) (wv : Value) (u : Str → Option Value) : Str → Option Value := fun z => if z = Str.ofString "row" then some (.ref D) else if z = Str.ofString "world" then some wv else if z = Str.ofString "pairs" then some (.ref pa) else u z
theorem ledM_of {m : Str → Option Value} {D pa : Addr} {wv : Value} (h1 : m (Str.ofString "row") = some (.ref D)) (h2 : m (Str.ofString "world") = some wv) (h3 : m (Str.ofString "pairs") = some (.ref pa)) : m = ledM D pa wv m := by
  funext z
  unfold ledM
  split
  · rename_i h; rw [h, h1]
  · split
    · rename_i h; rw [h, h2]
    · split
      · rename_i h; rw [h, h3]
      · rfl
theorem ledStep_vals {cur : List VN} {lo hi : Int} {x y : VN} (hx : cur[lo.toNat]? = some x) (hy : cur[hi.toNat]? = some y) :
    ((cur.map (·.1)).set lo.toNat (if y.2.units < x.2.units then y.1 else x.1)).set hi.toNat (if x.2.units < y.2.units then y.1 else x.1) = (ledStep cur (lo, hi)).map (·.1) := by
  have e1 : (if y.2.units < x.2.units then y.1 else x.1) = (mn x y).1 := by unfold mn; split <;> rfl
  have e2 : (if x.2.units < y.2.units then y.1 else x.1) = (mx x y).1 := by unfold mx; split <;> rfl
  have e3 : ledStep cur (lo, hi) = (cur.set lo.toNat (mn x y)).set hi.toNat (mx x y) := by unfold ledStep; simp only [hx, hy]
  rw [e1, e2, e3, List.map_set, List.map_set]
theorem sp_law_led (w : World) (wv : Value) (pa ra : Addr) (pxs : List (Value × Int × Int)) (xs : List VN) (kp kr : Nat) (news : Led) (hx : NumsIn news xs) (hl : (ra, listOf (xs.map (·.1)).toArray kr) ∈ news) (hz : xs.length ≤ 60)
    (hp : PairsIn news pxs) (hpl : (pa, listOf (pxs.map (·.1)).toArray kp) ∈ news) (hpo : ∀ x ∈ pxs, PairOk xs.length x.2) (hpz : pxs.length ≤ 60) :
    Sp w 6 140 380 [wv, .ref pa, .ref ra] news (fun r tl => ∃ D k', r = .ref D ∧ tl = [(D, listOf ((ledF (pxs.map (·.2)) xs).map (·.1)).toArray k')]) := by
  unfold Sp
  intro p loose mean mg mb dp un gd cn cs a ccd cl outer A₀ base h₀ L m s Q E B F X N T hk hd hu hret
  refine wpAny_call ?_
  k_dflt ktr_enter
  k_with "for" => refine for_list (fun i m led => ∃ D kk u, m = ledM D pa wv u ∧ led = (D, listOf ((ledF ((pxs.map (·.2)).take i) xs).map (·.1)).toArray kk) :: news ∧ ∀ p ∈ news, p.1 < D) rfl (by k_asm) (by k_asm) (by k_mem) (held ?h0) (held ?turn) (held ?dn)
  repeat' (first | (k_unfold; (try dsimp only)) | walk1 | (dsimp only; walk1) | (leave1; try dsimp only))
  case h0 => exact ⟨_, _, _, ledM_of rfl rfl rfl, rfl, by assumption⟩
  case turn =>
    intro i v m₁ led₁ own I s₁ hv hJ hoff Ft Nt hown hown2
    obtain ⟨D, kk, u, rfl, rfl, hlt⟩ := hJ
    obtain ⟨px, hpi, rfl⟩ : ∃ x, pxs[i]? = some x ∧ x.1 = v := by simpa using hv
    have hpm := List.mem_of_getElem? hpi
    obtain ⟨q, t1, t2, kq, hq1, hq⟩ := hp px hpm
    have hpo' := hpo px hpm
    obtain ⟨vq, lo, hi⟩ := px
    simp only at hq1 hq
    subst hq1
    obtain ⟨o1, o2, o3, o4, o5⟩ := hpo'
    simp only at o1 o2 o3 o4 o5
    have hpi' : (pxs.map (·.2))[i]? = some (lo, hi) := by rw [List.getElem?_map, hpi]; rfl
    have hlen := ledF_len ((pxs.map (·.2)).take i) xs
    have hsn := ledF_snoc (xs := xs) hpi'
    have hmem := ledF_mem ((pxs.map (·.2)).take i) xs
    generalize ledF ((pxs.map (·.2)).take i) xs = cur at hlen hsn hmem Nt hoff
    have i1 : lo.toNat < cur.length := by omega
    have i2 : hi.toNat < cur.length := by omega
    have hcx : cur[lo.toNat]? = some cur[lo.toNat] := List.getElem?_eq_getElem i1
    have hcy : cur[hi.toNat]? = some cur[hi.toNat] := List.getElem?_eq_getElem i2
    generalize cur[lo.toNat] = x at hcx
    generalize cur[hi.toNat] = y at hcy
    have hvals := ledStep_vals hcx hcy
    rw [← hsn] at hvals
    have hcx' : (cur.map (·.1))[lo.toNat]? = some x.1 := by rw [List.getElem?_map, hcx]; rfl
    have hcy' : (cur.map (·.1))[hi.toNat]? = some y.1 := by rw [List.getElem?_map, hcy]; rfl
    obtain ⟨nx, okx⟩ := hx x (hmem _ (List.mem_of_getElem? hcx))
    obtain ⟨ny, oky⟩ := hx y (hmem _ (List.mem_of_getElem? hcy))
    have hl1 : lo < ((cur.map (·.1)).length : Int) := by rw [List.length_map]; omega
    have hl2 : hi < ((cur.map (·.1)).length : Int) := by rw [List.length_map]; omega
    generalize cur.map (·.1) = vs at *
    have hpa := hlt _ hpl
    have hneD : ∀ p ∈ own ++ news, p.1 ≠ D := by
      intro p hp
      rcases List.mem_append.mp hp with hp | hp
      · rcases hown2 p hp with e | e
        · rw [e]; exact fun e => hoff _ (.head _) e.symm
        · rw [e]; exact Nat.ne_of_lt hpa
      · exact Nat.ne_of_lt (hlt p hp)
    have N' : News _ _ s₁.heap ((D, listOf vs.toArray kk) :: (own ++ news)) := fun p hp => Nt p (by
      rcases List.mem_cons.mp hp with rfl | hp
      · exact List.mem_append_right _ (.head _)
      · rcases List.mem_append.mp hp with hp | hp
        · exact List.mem_append_left _ hp
        · exact List.mem_append_right _ (.tail _ hp))
    clear Nt
    dsimp only
    repeat' (first | (k_unfold; (try dsimp only)) | walk1 | (dsimp only; walk1) | (leave1; try dsimp only))
    rename News _ _ _ _ => nE
    refine FStep.intro (nx := (D, listOf (List.map (fun x => x.1) (ledF (List.take (i + 1) (pxs.map (·.2))) xs)).toArray kk) :: news) (by k_asm) (fun p hp => nE p ?_) ?_ ⟨D, kk, _, ledM_of rfl rfl rfl, rfl, hlt⟩
    · rw [← hvals] at hp
      exact subq (by with_reducible k_extra "sub") hp
    · intro p hp
      rcases List.mem_cons.mp hp with rfl | hp
      · exact hoff (D, listOf vs.toArray kk) (.head _)
      · exact hoff p (.tail _ hp)
  case dn =>
    intro h' tk m' led' hJ F' N'
    obtain ⟨D, kk, u, rfl, rfl, hlt⟩ := hJ
    repeat' (first | (k_unfold; (try dsimp only)) | walk1 | (dsimp only; walk1) | (leave1; try dsimp only))
    exact hret _ [_] _ _ (by k_asm) (by assumption) (by intro q hq p hp; rw [List.mem_singleton.mp hp]; exact hlt q hq) ⟨D, kk, rfl, by rw [List.take_of_length_le (by simp)]⟩
end Mine
end
section
open PySem PySem.W PyProof.Rows
set_option maxRecDepth 100000
set_option maxHeartbeats 8000000
set_option linter.unusedVariables false
namespace Mine
example : True := by (k_with_none; trivial)
example : True := by ((k_with "u1" => ((case k1zz => k_asm); (case k2zz => k_asm); (case k3zz => k_asm); (case k4zz => k_asm); (case k5zz => k_asm))); trivial)
example : True := by ((k_with "u2" => ((case kKzz => first | exact rfl | assumption); (case kdzz => ktr_room); (case kuzz => ktr_units))); trivial)
example : True := by ((k_with "u3" => (intro r9zz tl9zz h9zz tk9zz F9zz N9zz l9zz o9zz; (try dsimp only at o9zz))); trivial)
example : True := by ((k_with "u4" => ((try simp only [List.nil_append, List.cons_append] at N9zz); (try dsimp only); (try k_fold))); trivial)
example : True := by ((k_with "suf" => (first | apply sub_refl | assumption | (refine sub_tail ?_; k_extra "suf") | (refine sub_app ?_; k_extra "suf") | apply sub_nil | (refine sub_appL ?_; k_extra "suf"))); trivial)
example : True := by ((k_with "in" => (first | assumption | apply in_head | (refine in_tail ?_; k_extra "in") | (refine in_app ?_; k_extra "in") | (refine in_appL ?_; k_extra "in"))); trivial)
example : True := by ((k_with "sub" => (first | k_extra "suf" | (refine sub_cons ?_ ?_; (focus k_extra "in"); k_extra "sub") | (refine sub_both ?_ ?_; (focus k_extra "sub"); k_extra "sub") | (refine sub_trans ?_ (by assumption); k_extra "suf"))); trivial)
example : True := by ((k_with "lt0" => (first | assumption | (refine Mine.pickA (by assumption) ?_; intro hz9zz; first | apply hz9zz.1 | (replace hz9zz := hz9zz.2; first | apply hz9zz.1 | (replace hz9zz := hz9zz.2; first | apply hz9zz.1 | (replace hz9zz := hz9zz.2; first | apply hz9zz.1 | (replace hz9zz := hz9zz.2; first | apply hz9zz.1 | (replace hz9zz := hz9zz.2; first | apply hz9zz.1 | (replace hz9zz := hz9zz.2; first | apply hz9zz.1 | (replace hz9zz := hz9zz.2; first | apply hz9zz.1 | (replace hz9zz := hz9zz.2; first | apply hz9zz.1 | (replace hz9zz := hz9zz.2; first | apply hz9zz.1 | (replace hz9zz := hz9zz.2; first | apply hz9zz.1 | (replace hz9zz := hz9zz.2; first | apply hz9zz.1 | (replace hz9zz := hz9zz.2; first | apply hz9zz.1 | (replace hz9zz := hz9zz.2; first | apply hz9zz.1 | apply hz9zz.2)))))))))))))))); trivial)
example : True := by ((k_with "lt1" => (first | apply Mine.sl1 | apply Mine.sl2 | apply Mine.sl3 | apply Mine.sl4 | exact Mine.dn1 (by assumption) | exact Mine.dn2 (by assumption) | exact Mine.dn3 (by assumption) | exact Mine.dn4 (by assumption) | exact Mine.upx (by assumption) (by assumption) | exact Mine.up4 (by assumption) | (refine Nat.lt_trans ?_ (by assumption); first | k_extra "lt0" | exact Mine.dn1 (by assumption) | exact Mine.dn2 (by assumption) | exact Mine.dn3 (by assumption) | exact Mine.dn4 (by assumption) | (refine Nat.lt_trans ?_ (by assumption); k_extra "lt0")))); trivial)
example : True := by ((k_with "LeaveK" => (k_dflt (refine' leaveK_ ?k1zz ?k2zz ?_; (case k1zz => k_asm); (case k2zz => k_asm); k_whole); intro kFzz kNzz; (try dsimp only))); trivial)
example : True := by ((k_with "k_mem" => (first | assumption | (refine' List.mem_append_right _ ?_; k_mem) | (refine' List.mem_append_left _ ?_; k_mem))); trivial)
example : True := by ((k_with "kcj_all" => (k_whole; first | (refine fun pzz hpzz => List.mem_append_right _ ?_; assumption) | (intro pzz hpzz; (simp only [List.mem_append, List.mem_cons, List.not_mem_nil, or_false, false_or] at hpzz ⊢); first | assumption | (simp only [hpzz, true_or, or_true]; done) | grind))); trivial)
example : True := by ((k_with "kcj_all" => (k_whole; with_reducible k_extra "sub")); trivial)
example : True := by ((k_with "newTuple" => (k_here; k_dflt (refine' kup_newTuple ?Fzz ?Nzz ?_ ?zzz; (case Fzz => k_asm); (case Nzz => k_asm); (case zzz => kmk_size)); intro D'zz h'zz F'zz N'zz l1zz; (try k_lt l1zz); (try k_sweep))); trivial)
example : True := by ((k_with "binaryOp Pow int int" => ((with_reducible refine pow_int_small ?kb1zz ?kb2zz ?kb3zz ?_); (case kb1zz => omega); (case kb2zz => omega); (case kb3zz => decide))); trivial)
example : True := by ((k_with "subscriptTail" => (k_here; (with_reducible show wpAny _ _ (subscriptTail _ _ (Value.ref _) (Value.int _ _)) _ _ _); (with_unfolding_all refine' item_litK ?k1zz ?k2zz ?k3zz ?k4zz ?_ ?k6zz; (case k1zz => exact isListOf (by k_asm) (by k_mem)); (case k2zz => first | decide | omega); (case k3zz => first | decide | omega); (case k4zz => first | rfl | assumption); (case k6zz => with_unfolding_all rfl); k_whole))); trivial)
example : True := by ((k_with "subscriptTail Name Name ref int" => (k_here; (with_reducible show wpAny _ _ (subscriptTail _ _ (Value.ref _) (Value.int _ _)) _ _ _); (with_unfolding_all refine' item_litK ?k1zz ?k2zz ?k3zz ?k4zz ?_ ?k6zz; (case k1zz => exact isListOf (by k_asm) (by k_mem)); (case k2zz => first | decide | omega); (case k3zz => first | decide | omega); (case k4zz => first | rfl | assumption); (case k6zz => with_unfolding_all rfl); k_whole))); trivial)
example : True := by ((k_with "subscriptTail Name Constant ref int" => (k_here; (with_reducible show wpAny _ _ (subscriptTail _ _ (Value.ref _) (Value.int _ _)) _ _ _); (with_unfolding_all refine' item_litK ?k1zz ?k2zz ?k3zz ?k4zz ?_ ?k6zz; (case k1zz => exact isListOf (by k_asm) (by k_mem)); (case k2zz => first | decide | omega); (case k3zz => first | decide | omega); (case k4zz => first | rfl | assumption); (case k6zz => with_unfolding_all rfl); k_whole))); trivial)
example : True := by ((k_with "call ref" => (k_here; (with_reducible show wpAny _ _ (call (Value.ref 255) _) _ _ _); k_dflt (refine' sp_use (sp_reckoned _ _ _ _ _ _ _ _ _ ?p1zz ?p2zz ?p3zz ?p4zz ?p5zz) ?k1zz ?k2zz ?k3zz ?k4zz ?k5zz ?kKzz ?kdzz ?kuzz ?_); k_extra "u1"; k_extra "u2"; (case p4zz => first | exact numIn_i | exact numIn_d (by k_mem) | exact NumIn.mono (by assumption) (by kcj_all) | assumption); (case p5zz => first | exact numIn_i | exact numIn_d (by k_mem) | exact NumIn.mono (by assumption) (by kcj_all) | assumption); (case p1zz => assumption); (case p2zz => assumption); (case p3zz => first | assumption | k_extra "sum"); k_extra "u3"; skip; k_extra "u4")); trivial)
example : True := by ((k_with "getAttr ref" => (k_here; k_dflt (refine' get_own ?k1zz ?k2zz ?k3zz ?k4zz ?k5zz ?k6zz ?k7zz ?k8zz ?k9zz ?_; (case k1zz => k_asm); (case k2zz => k_asm); (case k3zz => k_inst); (case k4zz => k_is); (case k5zz => k_is); (case k6zz => k_is); (case k7zz => k_is); (case k8zz => assumption); (case k9zz => exact rfl); k_whole))); trivial)
example : True := by ((k_with "call ref" => (k_here; (with_reducible show wpAny _ _ (call (Value.ref 262) _) _ _ _); k_dflt (refine' sp_use (sp_negated _ _ _ _ _ _ ?p1zz ?p2zz) ?k1zz ?k2zz ?k3zz ?k4zz ?k5zz ?kKzz ?kdzz ?kuzz ?_); k_extra "u1"; k_extra "u2"; (case p2zz => first | assumption | exact NumIn.mono (by assumption) (by kcj_all)); (case p1zz => assumption); k_extra "u3"; skip; k_extra "u4")); trivial)
example : True := by ((k_with "call ref" => (k_here; (with_reducible show wpAny _ _ (call (Value.ref 368) _) _ _ _); k_dflt (refine' sp_useI (sp_units _ _ _ _ ?p1zz ?p2zz) ?k1zz ?k2zz ?k3zz ?k4zz ?k5zz ?kKzz ?kdzz ?kuzz ?_); k_extra "u1"; k_extra "u2"; (case p2zz => first | assumption | exact NumIn.mono (by assumption) (by kcj_all)); (case p1zz => assumption); intro h9zz tk9zz F9zz t9zz N9zz; (try dsimp only); (try k_fold))); trivial)
example : True := by ((k_with "call ref" => (k_here; (with_reducible show wpAny _ _ (call (Value.ref 361) _) _ _ _); k_dflt (refine' sp_use (sp_law_number _ _ _ _ _ ?p1zz ?p2zz) ?k1zz ?k2zz ?k3zz ?k4zz ?k5zz ?kKzz ?kdzz ?kuzz ?_); k_extra "u1"; k_extra "u2"; (case p1zz => omega); (case p2zz => omega); k_extra "u3"; skip; k_extra "u4")); trivial)
example : True := by ((k_with "call ref" => (k_here; (with_reducible show wpAny _ _ (call (Value.ref 311) _) _ _ _); k_dflt (refine' sp_useV (sp_number_min _ _ _ _ _ _ _ _ _ ?p1zz ?p2zz ?p3zz ?p4zz ?p5zz) ?k1zz ?k2zz ?k3zz ?k4zz ?k5zz ?kKzz ?kdzz ?kuzz ?_); k_extra "u1"; k_extra "u2"; (case p5zz => k_mem); (case p3zz => first | assumption | exact NumIn.mono (by assumption) (by kcj_all)); (case p4zz => first | assumption | exact NumIn.mono (by assumption) (by kcj_all)); (case p1zz => assumption); (case p2zz => assumption); intro h9zz tk9zz F9zz N9zz; (try dsimp only); (try k_fold))); trivial)
example : True := by ((k_with "call ref" => (k_here; (with_reducible show wpAny _ _ (call (Value.ref 318) _) _ _ _); k_dflt (refine' sp_useV (sp_number_max _ _ _ _ _ _ _ _ _ ?p1zz ?p2zz ?p3zz ?p4zz ?p5zz) ?k1zz ?k2zz ?k3zz ?k4zz ?k5zz ?kKzz ?kdzz ?kuzz ?_); k_extra "u1"; k_extra "u2"; (case p5zz => k_mem); (case p3zz => first | assumption | exact NumIn.mono (by assumption) (by kcj_all)); (case p4zz => first | assumption | exact NumIn.mono (by assumption) (by kcj_all)); (case p1zz => assumption); (case p2zz => assumption); intro h9zz tk9zz F9zz N9zz; (try dsimp only); (try k_fold))); trivial)
example : True := by ((k_with "call ref" => (k_here; (with_reducible show wpAny _ _ (call (Value.ref 385) _) _ _ _); k_dflt (refine' sp_useV (sp_law_rises _ _ _ _ _ ?p1zz ?p2zz ?p3zz) ?k1zz ?k2zz ?k3zz ?k4zz ?k5zz ?kKzz ?kdzz ?kuzz ?_); k_extra "u1"; k_extra "u2"; (case p2zz => k_mem); (case p1zz => first | assumption | exact NumsIn.mono (by assumption) (by kcj_all) | k_extra "nums"); (case p3zz => first | assumption | k_extra "len"); intro h9zz tk9zz F9zz N9zz; (try dsimp only); (try k_fold))); trivial)
example : True := by ((k_with "call ref" => (k_here; (with_reducible show wpAny _ _ (call (Value.ref 380) _) _ _ _); k_dflt (refine' sp_useL (sp_law_led _ _ _ _ _ _ _ _ _ ?p1zz ?p2zz ?p3zz ?p4zz ?p5zz ?p6zz ?p7zz) ?k1zz ?k2zz ?k3zz ?k4zz ?k5zz ?kKzz ?kdzz ?kuzz ?_); k_extra "u1"; k_extra "u2"; (case p2zz => k_mem); (case p5zz => k_mem); (case p1zz => first | assumption | exact NumsIn.mono (by assumption) (by kcj_all) | k_extra "nums"); (case p3zz => first | assumption | k_extra "len"); (case p4zz => first | assumption | exact PairsIn.mono (by assumption) (by kcj_all)); (case p6zz => first | assumption | k_extra "pok"); (case p7zz => first | assumption | k_extra "len"); intro h9zz tk9zz F9zz D9zz k9zz N9zz l9zz; (try dsimp only); (try k_fold))); trivial)
example : True := by ((k_with "pyIter ref" => (first | k_extra "comp" | k_extra "for")); trivial)
example : True := by ((k_with "eval Name" => ((with_reducible show wpAny _ _ (eval _ (compEnvC _ _ _ _)) _ _ _); k_dflt (refine' comp_local ?Nzz ?hmzz ?nCzz ?hvzz ?_ ?azz ?bzz ?czz; (case bzz => exact rfl); (case azz => exact rfl); (case Nzz => k_asm); (case nCzz => assumption); (case hmzz => k_mem); (case hvzz => assumption); (case czz => decide)))); trivial)
example : True := by ((k_with "eval Name" => ((with_reducible show wpAny _ _ (eval _ (compEnvC _ _ _ _)) _ _ _); k_dflt (refine' comp_cell ?Nzz ?hmzz ?hd'zz ?_ ?azz ?bzz ?ezz ?czz; (case bzz => exact rfl); (case azz => exact rfl); (case ezz => exact rfl); (case Nzz => k_asm); (case hmzz => k_mem); (case hd'zz => assumption); (case czz => decide)))); trivial)
example : True := by ((k_with "exec Assign cons ListComp" => (k_dflt (refine' comp_assign ?aFzz ?a1zz ?a2zz ?a3zz ?a4zz ?a5zz ?a6zz ?a7zz ?a8zz ?_; (case aFzz => k_asm); (case a1zz => with_unfolding_all rfl); (case a2zz => with_unfolding_all rfl); (case a3zz => decide); (case a4zz => rfl); (case a5zz => decide); (case a6zz => intro _; with_unfolding_all rfl); (case a7zz => rfl); (case a8zz => rfl)))); trivial)
example : True := by ((k_with "eval ListComp" => (k_dflt (refine' comp_eval ?aFzz ?a2zz ?a3zz ?a4zz ?a5zz ?a6zz ?_; (case aFzz => k_asm); (case a2zz => with_unfolding_all rfl); (case a3zz => decide); (case a4zz => rfl); (case a5zz => decide); (case a6zz => intro _; with_unfolding_all rfl)))); trivial)
example : True := by ((k_with "call builtin:sorted" => (k_here; (with_reducible show wpAny _ _ (call (Value.builtin _) [Value.ref _]) _ _ _); (with_unfolding_all refine' kso_sorted ?k1zz ?k2zz ?k3zz ?k4zz ?k5zz ?_; (case k1zz => k_asm); (case k2zz => k_asm); (case k3zz => exact isListOf (by k_asm) (by k_mem)); (case k4zz => assumption); (case k5zz => assumption); k_whole); intro D'zz v'zz n'zz c'zz h'zz F'zz N'zz l1zz i'zz e'zz p'zz o'zz b'zz; (try k_lt l1zz); (try dsimp only))); trivial)
example : True := by ((k_with "compareOp Eq ref ref" => (k_here; (with_reducible show wpAny _ _ (compareOp CmpOp.Eq (Value.ref _) (Value.ref _)) _ _ _); k_dflt (refine' eq_intsK ?k1zz ?k2zz ?k3zz ?k4zz ?k5zz ?_; (case k1zz => exact isListOf (by k_asm) (by k_mem)); (case k3zz => exact isListOf (by k_asm) (by k_mem)); (case k2zz => assumption); (case k4zz => assumption); (case k5zz => ktr_units); k_whole))); trivial)
example : True := by ((k_with "exec For Tuple Name cons nil" => (k_here; (rename Fr _ _ _ _ => lF'zz); k_dflt (refine' For_invTF lF'zz ?_ ?hszz; (case hszz => intro _; with_unfolding_all rfl)))); trivial)
example : True := by ((k_with "k_all" => (assumption)); trivial)
example : True := by ((k_with "setItem ref int" => (k_here; k_dflt (refine' set_any ?k1zz ?k2zz ?k3zz ?k4zz ?k5zz ?k6zz ?_; (case k1zz => k_asm); (case k2zz => k_asm); (case k3zz => k_upd); (case k4zz => first | assumption | omega); (case k5zz => first | assumption | (simp only [List.length_set]; first | assumption | omega)); (case k6zz => omega); k_whole); intro h'zz F'zz N'zz; (try dsimp only))); trivial)
example : True := by ((k_with "subscriptTail Name Slice ref ref" => (k_here; k_dflt (refine' kmk_slice ?Fzz ?Nzz ?lzz ?pzz ?qzz ?_ ?szz ?tzz ?zzz; (case Fzz => k_asm); (case Nzz => k_asm); (case lzz => exact isListOf (by k_asm) (by k_mem)); (case pzz => kmk_part); (case qzz => kmk_part); (case szz => with_unfolding_all rfl); (case tzz => kmk_pure); (case zzz => (simp only [List.size_toArray, List.length_map, sizeLine_eq]; omega))); intro D'zz h'zz F'zz N'zz l1zz; (simp (disch := omega) only [pick_all, pick_upto, pick_from] at N'zz); (try k_lt l1zz); (try dsimp only))); trivial)
def numDat : Num → Dat
  | .i n => .int n
  | .d c e => .tuple [.int c, .int e]
theorem NumIn.dat {news : Led} {v : Value} {N : Num} (h : NumIn news v N) : DatIn news v (numDat N) := by
  cases h with
  | i => exact .int _ _
  | d hm => exact .tuple hm (.cons (.int _ _) (.cons (.int _ _) .nil))
theorem NumsIn.dat {news : Led} : ∀ {xs : List VN}, NumsIn news xs → DatAll news (xs.map (·.1)) (xs.map fun x => numDat x.2)
  | [], _ => .nil
  | x :: r, h => .cons (h x (.head _)).1.dat (NumsIn.dat fun y hy => h y (.tail _ hy))
theorem numDat_ok (N : Num) (n : Nat) : kqdOk (n + 1) (numDat N) = true := by cases N <;> simp [numDat, kqdOk]
/-- a row: a list object of n numbers -/
def RowIn (news : Led) (n : Nat) (v : Value) (xs : List VN) : Prop := ∃ ra k, v = .ref ra ∧ (ra, listOf (xs.map (·.1)).toArray k) ∈ news ∧ NumsIn news xs ∧ xs.length = n
theorem RowIn.mono {news news' : Led} {n : Nat} {v : Value} {xs : List VN} (h : RowIn news n v xs) (hs : ∀ p ∈ news, p ∈ news') : RowIn news' n v xs := by
  obtain ⟨ra, k, e, hm, hn, hl⟩ := h
  exact ⟨ra, k, e, hs _ hm, hn.mono hs, hl⟩
def RowsIn (news : Led) (n : Nat) (rows : List (Value × List VN)) : Prop := ∀ x ∈ rows, RowIn news n x.1 x.2
theorem RowsIn.mono {news news' : Led} {n : Nat} {rows : List (Value × List VN)} (h : RowsIn news n rows) (hs : ∀ p ∈ news, p ∈ news') : RowsIn news' n rows := fun x hx => (h x hx).mono hs
theorem RowIn.dat {news : Led} {n : Nat} {v : Value} {xs : List VN} (h : RowIn news n v xs) : DatIn news v (.list (xs.map fun x => numDat x.2)) := by
  obtain ⟨ra, k, rfl, hm, hn, hl⟩ := h
  exact .list hm hn.dat
/-- does the row of exchanges sort it -/
def sortsB (ps : List (Int × Int)) (xs : List VN) : Bool := decide ((unitsL (ledF ps xs)).Pairwise (· ≤ ·))
theorem NumsIn.led {news : Led} {xs : List VN} (h : NumsIn news xs) (ps : List (Int × Int)) : NumsIn news (ledF ps xs) := fun x hx => h x (ledF_mem ps xs x hx)
def badDats (ps : List (Int × Int)) (rows : List (Value × List VN)) : List Dat := (rows.filter fun x => !sortsB ps x.2).map fun x => Dat.list (x.2.map fun y => numDat y.2)
theorem badDats_snoc {ps : List (Int × Int)} {rows : List (Value × List VN)} {i : Nat} {x : Value × List VN} (h : rows[i]? = some x) : badDats ps (rows.take (i + 1)) = badDats ps (rows.take i) ++ (if sortsB ps x.2 = true then [] else [Dat.list (x.2.map fun y => numDat y.2)]) := by
  unfold badDats
  rw [List.take_add_one, h]
  simp only [Option.toList_some, List.filter_append, List.map_append]
  cases hb : sortsB ps x.2 <;> simp [hb]
theorem badDats_ok (ps : List (Int × Int)) (rows : List (Value × List VN)) : ∀ d ∈ badDats ps rows, kqdOk 8 d = true := by
  intro d hd
  obtain ⟨x, _, rfl⟩ := List.mem_map.mp hd
  simp only [kqdOk, List.all_eq_true, List.mem_map]
  rintro _ ⟨y, _, rfl⟩
  exact numDat_ok _ _
open Classical in
theorem badDats_nil (ps : List (Int × Int)) (rows : List (Value × List VN)) : decide (badDats ps rows = []) = rows.all fun x => sortsB ps x.2 := by
  have e : (badDats ps rows = []) ↔ (rows.all fun x => sortsB ps x.2) = true := by
    unfold badDats
    rw [List.map_eq_nil_iff, List.filter_eq_nil_iff, List.all_eq_true]
    constructor <;> intro h x hx <;> have := h x hx <;> simp_all
  cases hb : rows.all fun x => sortsB ps x.2 with
  | true => exact decide_eq_true (e.mpr hb)
  | false => exact decide_eq_false fun q => by rw [e.mp q] at hb; cases hb
theorem sp_law_sorts (w : World) (wv : Value) (pa la : Addr) (pxs : List (Value × Int × Int)) (rows : List (Value × List VN)) (n kp kl : Nat) (news : Led) (hn : n ≤ 60) (hr : RowsIn news n rows) (hl : (la, listOf (rows.map (·.1)).toArray kl) ∈ news) (hz : rows.length ≤ 60)
    (hp : PairsIn news pxs) (hpl : (pa, listOf (pxs.map (·.1)).toArray kp) ∈ news) (hpo : ∀ x ∈ pxs, PairOk n x.2) (hpz : pxs.length ≤ 60) :
    Sp w 8 240 390 [wv, .ref pa, .ref la] news (fun r tl => r = .bool (rows.all fun x => sortsB (pxs.map (·.2)) x.2) ∧ tl = []) := by
  unfold Sp
  intro p loose mean mg mb dp un gd cn cs a ccd cl outer A₀ base h₀ L m s Q E B F X N T hk hd hu hret
  refine wpAny_call ?_
  k_dflt (refine' code_defC ?k1 ?k2 ?k3 ?k4 ?k5 ?kA ?kF ?kK ?k6 ?k7 ?k8 ?k9 ?kB ?kD ?_ ?c2 ?c3 ?c4; (case kA => exact rfl); (case kF => exact rfl); (case kK => assumption); (case k1 => k_asm); (case k2 => k_asm); (case k3 => k_asm); (case k4 => k_asm); (case k5 => k_asm); (case k6 => k_is); (case k7 => k_is); (case k8 => ktr_room); (case k9 => exact BindsTo.of_eq rfl); (case kB => exact rfl); (case kD => decide +kernel); (case c2 => exact rfl); (case c3 => exact rfl); (case c4 => exact rfl); k_whole)
  intro g' L' h' tk' cells' FG' F' N' Y' B' X' T' l1
  k_cells Y'
  (try dsimp only)
  (try k_fold)
  k_with "comp" => refine comp_filter_listG (fun led₀ i ys led => (∀ p ∈ led₀, p ∈ led) ∧ DatAll led ys (badDats (pxs.map (·.2)) (rows.take i))) rfl rfl rfl (by k_asm) (by k_asm) (by k_mem) (held ?sz) (held ?h0) (held ?ok) (held ?dn)
  repeat' (first | (k_unfold; (try dsimp only)) | walk1 | (dsimp only; walk1) | (leave1; try dsimp only))
  case sz => exact Nat.le_trans (by rw [List.length_map]; exact hz) (by decide)
  case h0 => exact ⟨fun _ h => h, .nil⟩
  case ok =>
    intro C i v ys led' own oC m₂ h tk E' hv hI Fc Nc nC hm₂ hno
    obtain ⟨hs, hd⟩ := hI
    obtain ⟨x, hxi, rfl⟩ : ∃ x, rows[i]? = some x ∧ x.1 = v := by simpa using hv
    have hsn := badDats_snoc (ps := pxs.map (·.2)) hxi
    have hsub : ∀ p ∈ news, p ∈ led' := fun p hp => hs p (by simp [hp])
    have hrow := (hr x (List.mem_of_getElem? hxi)).mono hsub
    have hrd := hrow.dat
    obtain ⟨ra, kr, e1, hra, hnums, hlen⟩ := hrow
    have hp' := hp.mono hsub
    have hpl' := hsub _ hpl
    have hnl := hnums.led (pxs.map (·.2))
    have hl1 : x.2.length ≤ 60 := by omega
    have hl2 : (ledF (pxs.map (·.2)) x.2).length ≤ 60 := by rw [ledF_len]; exact hl1
    have hpo' : ∀ y ∈ pxs, PairOk x.2.length y.2 := by rw [hlen]; exact hpo
    rw [e1] at hm₂ hrd
    have hc1 := hs _ (.head _)
    have hc2 := hs _ (.tail _ (.head _))
    repeat' (first | (k_unfold; (try dsimp only)) | walk1 | (dsimp only; walk1) | (leave1; try dsimp only))
    all_goals first
      | exact PStep.intro [_] (by k_asm) (by assumption) (by assumption) ⟨fun p hp => List.mem_append_right _ (hs p hp), by rw [hsn, if_pos (show sortsB (pxs.map (·.2)) x.2 = true from decide_eq_true (by assumption)), List.append_nil]; exact hd.mono (fun p hp => List.mem_append_right _ hp)⟩
      | exact PStep.intro [_] (by k_asm) (by assumption) (by assumption) ⟨fun p hp => List.mem_append_right _ (hs p hp), by rw [hsn, if_neg (show ¬ sortsB (pxs.map (·.2)) x.2 = true from fun q => absurd (of_decide_eq_true q) (by assumption))]; exact (hd.mono (fun p hp => List.mem_append_right _ hp)).append (.cons (hrd.mono (fun p hp => List.mem_append_right _ hp)) .nil)⟩
  case dn =>
    intro D ys led' k' h' tk' hInv hle F9 N9 hne hlt9
    obtain ⟨hs, hd⟩ := hInv
    rw [List.length_map, List.take_length] at hd
    repeat' (first | (k_unfold; (try dsimp only)) | walk1 | (dsimp only; walk1) | (leave1; try dsimp only))
    refine kqd_eq (ds := badDats (pxs.map (·.2)) rows) (es := []) (n₁ := led') (n₂ := led') (by k_asm) (by k_mem) rfl rfl hd (by kcj_all) (by k_mem) rfl rfl .nil (by kcj_all) (badDats_ok _ _) (fun _ h => nomatch h) (by ktr_units) ?_
    repeat' (first | (k_unfold; (try dsimp only)) | walk1 | (dsimp only; walk1) | (leave1; try dsimp only))
    all_goals exact hret _ [] _ _ (by k_asm) (cb_drop (by assumption) (by kcj_all)) (by first | ktn_ord | exact ord_sub (by assumption) (by kcj_all)) ⟨congrArg Value.bool (badDats_nil _ _), rfl⟩
end Mine
end
section
open PySem PySem.W PyProof.Rows
set_option maxRecDepth 100000
set_option maxHeartbeats 8000000
set_option linter.unusedVariables false
namespace Mine
example : True := by (k_with_none; trivial)
example : True := by ((k_with "u1" => ((case k1zz => k_asm); (case k2zz => k_asm); (case k3zz => k_asm); (case k4zz => k_asm); (case k5zz => k_asm))); trivial)
example : True := by ((k_with "u2" => ((case kKzz => first | exact rfl | assumption); (case kdzz => ktr_room); (case kuzz => ktr_units))); trivial)
example : True := by ((k_with "u3" => (intro r9zz tl9zz h9zz tk9zz F9zz N9zz l9zz o9zz; (try dsimp only at o9zz))); trivial)
example : True := by ((k_with "u4" => ((try simp only [List.nil_append, List.cons_append] at N9zz); (try dsimp only); (try k_fold))); trivial)
example : True := by ((k_with "suf" => (first | apply sub_refl | assumption | (refine sub_tail ?_; k_extra "suf") | (refine sub_app ?_; k_extra "suf") | apply sub_nil | (refine sub_appL ?_; k_extra "suf"))); trivial)
example : True := by ((k_with "in" => (first | assumption | apply in_head | (refine in_tail ?_; k_extra "in") | (refine in_app ?_; k_extra "in") | (refine in_appL ?_; k_extra "in"))); trivial)
example : True := by ((k_with "sub" => (first | k_extra "suf" | (refine sub_cons ?_ ?_; (focus k_extra "in"); k_extra "sub") | (refine sub_both ?_ ?_; (focus k_extra "sub"); k_extra "sub") | (refine sub_trans ?_ (by assumption); k_extra "suf"))); trivial)
example : True := by ((k_with "lt0" => (first | assumption | (refine Mine.pickA (by assumption) ?_; intro hz9zz; first | apply hz9zz.1 | (replace hz9zz := hz9zz.2; first | apply hz9zz.1 | (replace hz9zz := hz9zz.2; first | apply hz9zz.1 | (replace hz9zz := hz9zz.2; first | apply hz9zz.1 | (replace hz9zz := hz9zz.2; first | apply hz9zz.1 | (replace hz9zz := hz9zz.2; first | apply hz9zz.1 | (replace hz9zz := hz9zz.2; first | apply hz9zz.1 | (replace hz9zz := hz9zz.2; first | apply hz9zz.1 | (replace hz9zz := hz9zz.2; first | apply hz9zz.1 | (replace hz9zz := hz9zz.2; first | apply hz9zz.1 | (replace hz9zz := hz9zz.2; first | apply hz9zz.1 | (replace hz9zz := hz9zz.2; first | apply hz9zz.1 | (replace hz9zz := hz9zz.2; first | apply hz9zz.1 | (replace hz9zz := hz9zz.2; first | apply hz9zz.1 | apply hz9zz.2)))))))))))))))); trivial)
example : True := by ((k_with "lt1" => (first | apply Mine.sl1 | apply Mine.sl2 | apply Mine.sl3 | apply Mine.sl4 | exact Mine.dn1 (by assumption) | exact Mine.dn2 (by assumption) | exact Mine.dn3 (by assumption) | exact Mine.dn4 (by assumption) | exact Mine.upx (by assumption) (by assumption) | exact Mine.up4 (by assumption) | (refine Nat.lt_trans ?_ (by assumption); first | k_extra "lt0" | exact Mine.dn1 (by assumption) | exact Mine.dn2 (by assumption) | exact Mine.dn3 (by assumption) | exact Mine.dn4 (by assumption) | (refine Nat.lt_trans ?_ (by assumption); k_extra "lt0")))); trivial)
example : True := by ((k_with "LeaveK" => (k_dflt (refine' leaveK_ ?k1zz ?k2zz ?_; (case k1zz => k_asm); (case k2zz => k_asm); k_whole); intro kFzz kNzz; (try dsimp only))); trivial)
example : True := by ((k_with "k_mem" => (first | assumption | (refine' List.mem_append_right _ ?_; k_mem) | (refine' List.mem_append_left _ ?_; k_mem))); trivial)
example : True := by ((k_with "kcj_all" => (k_whole; first | (refine fun pzz hpzz => List.mem_append_right _ ?_; assumption) | (intro pzz hpzz; (simp only [List.mem_append, List.mem_cons, List.not_mem_nil, or_false, false_or] at hpzz ⊢); first | assumption | (simp only [hpzz, true_or, or_true]; done) | grind))); trivial)
example : True := by ((k_with "kcj_all" => (k_whole; with_reducible k_extra "sub")); trivial)
example : True := by ((k_with "newTuple" => (k_here; k_dflt (refine' kup_newTuple ?Fzz ?Nzz ?_ ?zzz; (case Fzz => k_asm); (case Nzz => k_asm); (case zzz => kmk_size)); intro D'zz h'zz F'zz N'zz l1zz; (try k_lt l1zz); (try k_sweep))); trivial)
example : True := by ((k_with "binaryOp Pow int int" => ((with_reducible refine pow_int_small ?kb1zz ?kb2zz ?kb3zz ?_); (case kb1zz => omega); (case kb2zz => omega); (case kb3zz => decide))); trivial)
example : True := by ((k_with "subscriptTail" => (k_here; (with_reducible show wpAny _ _ (subscriptTail _ _ (Value.ref _) (Value.int _ _)) _ _ _); (with_unfolding_all refine' item_litK ?k1zz ?k2zz ?k3zz ?k4zz ?_ ?k6zz; (case k1zz => exact isListOf (by k_asm) (by k_mem)); (case k2zz => first | decide | omega); (case k3zz => first | decide | omega); (case k4zz => first | rfl | assumption); (case k6zz => with_unfolding_all rfl); k_whole))); trivial)
example : True := by ((k_with "subscriptTail Name Name ref int" => (k_here; (with_reducible show wpAny _ _ (subscriptTail _ _ (Value.ref _) (Value.int _ _)) _ _ _); (with_unfolding_all refine' item_litK ?k1zz ?k2zz ?k3zz ?k4zz ?_ ?k6zz; (case k1zz => exact isListOf (by k_asm) (by k_mem)); (case k2zz => first | decide | omega); (case k3zz => first | decide | omega); (case k4zz => first | rfl | assumption); (case k6zz => with_unfolding_all rfl); k_whole))); trivial)
example : True := by ((k_with "subscriptTail Name Constant ref int" => (k_here; (with_reducible show wpAny _ _ (subscriptTail _ _ (Value.ref _) (Value.int _ _)) _ _ _); (with_unfolding_all refine' item_litK ?k1zz ?k2zz ?k3zz ?k4zz ?_ ?k6zz; (case k1zz => exact isListOf (by k_asm) (by k_mem)); (case k2zz => first | decide | omega); (case k3zz => first | decide | omega); (case k4zz => first | rfl | assumption); (case k6zz => with_unfolding_all rfl); k_whole))); trivial)
example : True := by ((k_with "call ref" => (k_here; (with_reducible show wpAny _ _ (call (Value.ref 255) _) _ _ _); k_dflt (refine' sp_use (sp_reckoned _ _ _ _ _ _ _ _ _ ?p1zz ?p2zz ?p3zz ?p4zz ?p5zz) ?k1zz ?k2zz ?k3zz ?k4zz ?k5zz ?kKzz ?kdzz ?kuzz ?_); k_extra "u1"; k_extra "u2"; (case p4zz => first | exact numIn_i | exact numIn_d (by k_mem) | exact NumIn.mono (by assumption) (by kcj_all) | assumption); (case p5zz => first | exact numIn_i | exact numIn_d (by k_mem) | exact NumIn.mono (by assumption) (by kcj_all) | assumption); (case p1zz => assumption); (case p2zz => assumption); (case p3zz => first | assumption | k_extra "sum"); k_extra "u3"; skip; k_extra "u4")); trivial)
example : True := by ((k_with "getAttr ref" => (k_here; k_dflt (refine' get_own ?k1zz ?k2zz ?k3zz ?k4zz ?k5zz ?k6zz ?k7zz ?k8zz ?k9zz ?_; (case k1zz => k_asm); (case k2zz => k_asm); (case k3zz => k_inst); (case k4zz => k_is); (case k5zz => k_is); (case k6zz => k_is); (case k7zz => k_is); (case k8zz => assumption); (case k9zz => exact rfl); k_whole))); trivial)
example : True := by ((k_with "call ref" => (k_here; (with_reducible show wpAny _ _ (call (Value.ref 262) _) _ _ _); k_dflt (refine' sp_use (sp_negated _ _ _ _ _ _ ?p1zz ?p2zz) ?k1zz ?k2zz ?k3zz ?k4zz ?k5zz ?kKzz ?kdzz ?kuzz ?_); k_extra "u1"; k_extra "u2"; (case p2zz => first | assumption | exact NumIn.mono (by assumption) (by kcj_all)); (case p1zz => assumption); k_extra "u3"; skip; k_extra "u4")); trivial)
example : True := by ((k_with "call ref" => (k_here; (with_reducible show wpAny _ _ (call (Value.ref 368) _) _ _ _); k_dflt (refine' sp_useI (sp_units _ _ _ _ ?p1zz ?p2zz) ?k1zz ?k2zz ?k3zz ?k4zz ?k5zz ?kKzz ?kdzz ?kuzz ?_); k_extra "u1"; k_extra "u2"; (case p2zz => first | assumption | exact NumIn.mono (by assumption) (by kcj_all)); (case p1zz => assumption); intro h9zz tk9zz F9zz t9zz N9zz; (try dsimp only); (try k_fold))); trivial)
example : True := by ((k_with "call ref" => (k_here; (with_reducible show wpAny _ _ (call (Value.ref 361) _) _ _ _); k_dflt (refine' sp_use (sp_law_number _ _ _ _ _ ?p1zz ?p2zz) ?k1zz ?k2zz ?k3zz ?k4zz ?k5zz ?kKzz ?kdzz ?kuzz ?_); k_extra "u1"; k_extra "u2"; (case p1zz => omega); (case p2zz => omega); k_extra "u3"; skip; k_extra "u4")); trivial)
example : True := by ((k_with "call ref" => (k_here; (with_reducible show wpAny _ _ (call (Value.ref 311) _) _ _ _); k_dflt (refine' sp_useV (sp_number_min _ _ _ _ _ _ _ _ _ ?p1zz ?p2zz ?p3zz ?p4zz ?p5zz) ?k1zz ?k2zz ?k3zz ?k4zz ?k5zz ?kKzz ?kdzz ?kuzz ?_); k_extra "u1"; k_extra "u2"; (case p5zz => k_mem); (case p3zz => first | assumption | exact NumIn.mono (by assumption) (by kcj_all)); (case p4zz => first | assumption | exact NumIn.mono (by assumption) (by kcj_all)); (case p1zz => assumption); (case p2zz => assumption); intro h9zz tk9zz F9zz N9zz; (try dsimp only); (try k_fold))); trivial)
example : True := by ((k_with "call ref" => (k_here; (with_reducible show wpAny _ _ (call (Value.ref 318) _) _ _ _); k_dflt (refine' sp_useV (sp_number_max _ _ _ _ _ _ _ _ _ ?p1zz ?p2zz ?p3zz ?p4zz ?p5zz) ?k1zz ?k2zz ?k3zz ?k4zz ?k5zz ?kKzz ?kdzz ?kuzz ?_); k_extra "u1"; k_extra "u2"; (case p5zz => k_mem); (case p3zz => first | assumption | exact NumIn.mono (by assumption) (by kcj_all)); (case p4zz => first | assumption | exact NumIn.mono (by assumption) (by kcj_all)); (case p1zz => assumption); (case p2zz => assumption); intro h9zz tk9zz F9zz N9zz; (try dsimp only); (try k_fold))); trivial)
example : True := by ((k_with "call ref" => (k_here; (with_reducible show wpAny _ _ (call (Value.ref 385) _) _ _ _); k_dflt (refine' sp_useV (sp_law_rises _ _ _ _ _ ?p1zz ?p2zz ?p3zz) ?k1zz ?k2zz ?k3zz ?k4zz ?k5zz ?kKzz ?kdzz ?kuzz ?_); k_extra "u1"; k_extra "u2"; (case p2zz => k_mem); (case p1zz => first | assumption | exact NumsIn.mono (by assumption) (by kcj_all) | k_extra "nums"); (case p3zz => first | assumption | k_extra "len"); intro h9zz tk9zz F9zz N9zz; (try dsimp only); (try k_fold))); trivial)
example : True := by ((k_with "call ref" => (k_here; (with_reducible show wpAny _ _ (call (Value.ref 380) _) _ _ _); k_dflt (refine' sp_useL (sp_law_led _ _ _ _ _ _ _ _ _ ?p1zz ?p2zz ?p3zz ?p4zz ?p5zz ?p6zz ?p7zz) ?k1zz ?k2zz ?k3zz ?k4zz ?k5zz ?kKzz ?kdzz ?kuzz ?_); k_extra "u1"; k_extra "u2"; (case p2zz => k_mem); (case p5zz => k_mem); (case p1zz => first | assumption | exact NumsIn.mono (by assumption) (by kcj_all) | k_extra "nums"); (case p3zz => first | assumption | k_extra "len"); (case p4zz => first | assumption | exact PairsIn.mono (by assumption) (by kcj_all)); (case p6zz => first | assumption | k_extra "pok"); (case p7zz => first | assumption | k_extra "len"); intro h9zz tk9zz F9zz D9zz k9zz N9zz l9zz; (try dsimp only); (try k_fold))); trivial)
example : True := by ((k_with "pyIter ref" => (first | k_extra "comp" | k_extra "for")); trivial)
example : True := by ((k_with "eval Name" => ((with_reducible show wpAny _ _ (eval _ (compEnvC _ _ _ _)) _ _ _); k_dflt (refine' comp_local ?Nzz ?hmzz ?nCzz ?hvzz ?_ ?azz ?bzz ?czz; (case bzz => exact rfl); (case azz => exact rfl); (case Nzz => k_asm); (case nCzz => assumption); (case hmzz => k_mem); (case hvzz => assumption); (case czz => decide)))); trivial)
example : True := by ((k_with "eval Name" => ((with_reducible show wpAny _ _ (eval _ (compEnvC _ _ _ _)) _ _ _); k_dflt (refine' comp_cell ?Nzz ?hmzz ?hd'zz ?_ ?azz ?bzz ?ezz ?czz; (case bzz => exact rfl); (case azz => exact rfl); (case ezz => exact rfl); (case Nzz => k_asm); (case hmzz => k_mem); (case hd'zz => assumption); (case czz => decide)))); trivial)
example : True := by ((k_with "exec Assign cons ListComp" => (k_dflt (refine' comp_assign ?aFzz ?a1zz ?a2zz ?a3zz ?a4zz ?a5zz ?a6zz ?a7zz ?a8zz ?_; (case aFzz => k_asm); (case a1zz => with_unfolding_all rfl); (case a2zz => with_unfolding_all rfl); (case a3zz => decide); (case a4zz => rfl); (case a5zz => decide); (case a6zz => intro _; with_unfolding_all rfl); (case a7zz => rfl); (case a8zz => rfl)))); trivial)
example : True := by ((k_with "eval ListComp" => (k_dflt (refine' comp_eval ?aFzz ?a2zz ?a3zz ?a4zz ?a5zz ?a6zz ?_; (case aFzz => k_asm); (case a2zz => with_unfolding_all rfl); (case a3zz => decide); (case a4zz => rfl); (case a5zz => decide); (case a6zz => intro _; with_unfolding_all rfl)))); trivial)
example : True := by ((k_with "call builtin:sorted" => (k_here; (with_reducible show wpAny _ _ (call (Value.builtin _) [Value.ref _]) _ _ _); (with_unfolding_all refine' kso_sorted ?k1zz ?k2zz ?k3zz ?k4zz ?k5zz ?_; (case k1zz => k_asm); (case k2zz => k_asm); (case k3zz => exact isListOf (by k_asm) (by k_mem)); (case k4zz => assumption); (case k5zz => assumption); k_whole); intro D'zz v'zz n'zz c'zz h'zz F'zz N'zz l1zz i'zz e'zz p'zz o'zz b'zz; (try k_lt l1zz); (try dsimp only))); trivial)
example : True := by ((k_with "compareOp Eq ref ref" => (k_here; (with_reducible show wpAny _ _ (compareOp CmpOp.Eq (Value.ref _) (Value.ref _)) _ _ _); k_dflt (refine' eq_intsK ?k1zz ?k2zz ?k3zz ?k4zz ?k5zz ?_; (case k1zz => exact isListOf (by k_asm) (by k_mem)); (case k3zz => exact isListOf (by k_asm) (by k_mem)); (case k2zz => assumption); (case k4zz => assumption); (case k5zz => ktr_units); k_whole))); trivial)
example : True := by ((k_with "exec For Tuple Name cons nil" => (k_here; (rename Fr _ _ _ _ => lF'zz); k_dflt (refine' For_invTF lF'zz ?_ ?hszz; (case hszz => intro _; with_unfolding_all rfl)))); trivial)
example : True := by ((k_with "k_all" => (assumption)); trivial)
example : True := by ((k_with "setItem ref int" => (k_here; k_dflt (refine' set_any ?k1zz ?k2zz ?k3zz ?k4zz ?k5zz ?k6zz ?_; (case k1zz => k_asm); (case k2zz => k_asm); (case k3zz => k_upd); (case k4zz => first | assumption | omega); (case k5zz => first | assumption | (simp only [List.length_set]; first | assumption | omega)); (case k6zz => omega); k_whole); intro h'zz F'zz N'zz; (try dsimp only))); trivial)
example : True := by ((k_with "subscriptTail Name Slice ref ref" => (k_here; k_dflt (refine' kmk_slice ?Fzz ?Nzz ?lzz ?pzz ?qzz ?_ ?szz ?tzz ?zzz; (case Fzz => k_asm); (case Nzz => k_asm); (case lzz => exact isListOf (by k_asm) (by k_mem)); (case pzz => kmk_part); (case qzz => kmk_part); (case szz => with_unfolding_all rfl); (case tzz => kmk_pure); (case zzz => (simp only [List.size_toArray, List.length_map, sizeLine_eq]; omega))); intro D'zz h'zz F'zz N'zz l1zz; (simp (disch := omega) only [pick_all, pick_upto, pick_from] at N'zz); (try k_lt l1zz); (try dsimp only))); trivial)
/-- the address bears a function, wherever the ledger stands -/
def IsFn (w : World) (news : Led) (f : Addr) : Prop := ∀ h₀ L h m, Fr h₀ L h m → (hd.heap_1 w.params).In h₀ → News h₀ L h news → FnAt f h
theorem IsFn.mono {w : World} {news led : Led} {f : Addr} (h : IsFn w news f) (hs : ∀ p ∈ news, p ∈ led) : IsFn w led f := fun h₀ L h' m F X N => h h₀ L h' m F X fun p hp => N p (hs p hp)
theorem isFn_use {w : World} {news led : Led} {f : Addr} {h₀ h : Heap} {L : Addr} {m : Str → Option Value} (i : IsFn w news f) (F : Fr h₀ L h m) (X : (hd.heap_1 w.params).In h₀) (N : News h₀ L h led) (hs : ∀ p ∈ news, p ∈ led) : FnAt f h := i h₀ L h m F X fun p hp => N p (hs p hp)
example : True := by ((k_with "call ref" => (k_here; (with_reducible show wpAny _ _ (call (Value.ref _) _) _ _ _); k_dflt (refine' sp_use ?kSzz ?k1zz ?k2zz ?k3zz ?k4zz ?k5zz ?kKzz ?kdzz ?kuzz ?_; (case kSzz => assumption); k_extra "u1"; k_extra "u2"; k_extra "u3"; k_extra "u4"))); trivial)
example : True := by ((k_with "FnAt" => (k_dflt (exact isFn_use (by assumption) (by k_asm) (by k_asm) (by k_asm) (by kcj_all)))); trivial)
example : True := by ((k_with "callWith ref" => (k_here; k_dflt (refine' callWith_F ?k1zz ?_; (case k1zz => exact isFn_use (by assumption) (by k_asm) (by k_asm) (by k_asm) (by kcj_all)); k_whole))); trivial)
/-- what a work does with each number -/
def AllG (G : Led → VN → Value → Prop) (led : Led) (xs : List VN) (ys : List Value) : Prop := ∀ (j : Nat) (x : VN) (y : Value), xs[j]? = some x → ys[j]? = some y → G led x y
def NoTup (o : Obj) : Prop := ∀ vs k, o ≠ tupO vs k
theorem noTup_cls {o : Obj} (h : o.cls ≠ .type "tuple") : NoTup o := fun vs k e => h (by rw [e])
theorem NsO.noTup {o : Obj} {m : Str → Option Value} (h : NsO o m) : NoTup o := fun vs k e => by
  obtain ⟨es, ep, e1, _⟩ := h
  rw [e] at e1; cases e1
theorem noTup_cell {o : Obj} {v : Option Value} (h : o.data = .cell v) : NoTup o := fun vs k e => by rw [e] at h; cases h
def DropG (G : Led → VN → Value → Prop) : Prop := ∀ led led' x y, (∀ p ∈ led, p ∈ led' ∨ NoTup p.2) → G led x y → G led' x y
theorem DropG.mono {G : Led → VN → Value → Prop} (h : DropG G) {led led' : Led} {x : VN} {y : Value} (hs : ∀ p ∈ led, p ∈ led') (g : G led x y) : G led' x y := h _ _ _ _ (fun p hp => .inl (hs p hp)) g
theorem DropG.comp {G : Led → VN → Value → Prop} (h : DropG G) {tl own led : Led} {C : Addr} {oC : Obj} {m : Str → Option Value} {x : VN} {y : Value} (nC : NsO oC m) (hno : ∀ p ∈ own, p.2.cls ≠ .type "tuple") (g : G (tl ++ (C, oC) :: (own ++ led)) x y) : G (tl ++ led) x y := h _ _ _ _ (fun p hp => by
  rcases List.mem_append.mp hp with hp | hp
  · exact .inl (List.mem_append_left _ hp)
  · rcases List.mem_cons.mp hp with rfl | hp
    · exact .inr nC.noTup
    · rcases List.mem_append.mp hp with hp | hp
      · exact .inr (noTup_cls (hno p hp))
      · exact .inl (List.mem_append_right _ hp)) g
def Grown (led₀ led : Led) : Prop := ∃ tl, led = tl ++ led₀ ∧ ∀ q ∈ led₀, ∀ p ∈ tl, q.1 < p.1
theorem Grown.sub {led₀ led : Led} (h : Grown led₀ led) : ∀ p ∈ led₀, p ∈ led := by
  obtain ⟨tl, rfl, _⟩ := h
  exact fun p hp => List.mem_append_right _ hp
theorem Grown.more {led₀ led tl : Led} (h : Grown led₀ led) (l : ∀ q ∈ led, ∀ p ∈ tl, q.1 < p.1) : Grown led₀ (tl ++ led) := by
  obtain ⟨tl', rfl, h2⟩ := h
  refine ⟨tl ++ tl', (List.append_assoc ..).symm, fun q hq p hp => ?_⟩
  rcases List.mem_append.mp hp with hp | hp
  · exact l q (List.mem_append_right _ hq) p hp
  · exact h2 q hq p hp
theorem Grown.self (led : Led) : Grown led led := ⟨[], rfl, fun _ _ _ h => nomatch h⟩
theorem AllG.snoc {G : Led → VN → Value → Prop} {led led' : Led} {xs : List VN} {ys : List Value} {y : Value} {i : Nat} {x : VN} (hM : DropG G) (h : AllG G led xs ys) (hs : ∀ p ∈ led, p ∈ led') (hl : ys.length = i) (hx : xs[i]? = some x) (hy : G led' x y) : AllG G led' xs (ys ++ [y]) := by
  intro j x' y' hx' hy'
  rcases Nat.lt_trichotomy j ys.length with hj | hj | hj
  · rw [List.getElem?_append_left hj] at hy'
    exact hM.mono hs (h j x' y' hx' hy')
  · subst hl hj
    rw [hx] at hx'
    cases hx'
    rw [List.getElem?_append_right (Nat.le_refl _)] at hy'
    simp at hy'
    exact hy' ▸ hy
  · rw [List.getElem?_eq_none (by simp; omega)] at hy'
    cases hy'
theorem sp_law_mapped (w : World) (fw ra : Addr) (xs : List VN) (kr kw uw : Nat) (news : Led) (G : Led → VN → Value → Prop) (hM : DropG G) (hl : (ra, listOf (xs.map (·.1)).toArray kr) ∈ news) (hz : xs.length ≤ 60) (hfn : IsFn w news fw)
    (hw : ∀ led' x, (∀ p ∈ news, p ∈ led') → x ∈ xs → Sp w kw uw fw [x.1] led' (fun r tl => G (tl ++ led') x r)) :
    Sp w (kw + 2) (uw + 100) 400 [.ref fw, .ref ra] news (fun r tl => ∃ D k' ys tl', r = .ref D ∧ tl = (D, listOf ys.toArray k') :: tl' ∧ ys.length = xs.length ∧ AllG G (tl' ++ news) xs ys) := by
  unfold Sp
  intro p loose mean mg mb dp un gd cn cs a ccd cl outer A₀ base h₀ L m s Q E B F X N T hk hd hu hret
  refine wpAny_call ?_
  k_dflt (refine' code_defC ?k1 ?k2 ?k3 ?k4 ?k5 ?kA ?kF ?kK ?k6 ?k7 ?k8 ?k9 ?kB ?kD ?_ ?c2 ?c3 ?c4; (case kA => exact rfl); (case kF => exact rfl); (case kK => assumption); (case k1 => k_asm); (case k2 => k_asm); (case k3 => k_asm); (case k4 => k_asm); (case k5 => k_asm); (case k6 => k_is); (case k7 => k_is); (case k8 => ktr_room); (case k9 => exact BindsTo.of_eq rfl); (case kB => exact rfl); (case kD => decide +kernel); (case c2 => exact rfl); (case c3 => exact rfl); (case c4 => exact rfl); k_whole)
  intro g' L' h' tk' cells' FG' F' N' Y' B' X' T' l1
  k_cells Y'
  (try dsimp only)
  (try k_fold)
  k_with "comp" => refine comp_map_listG (fun led₀ i ys led => Grown led₀ led ∧ ys.length = i ∧ AllG G led xs ys) rfl rfl rfl (by k_asm) (by k_asm) (by k_mem) (held ?sz) (held ?h0) (held ?ok) (held ?dn)
  repeat' (first | (k_unfold; (try dsimp only)) | walk1 | (dsimp only; walk1) | (leave1; try dsimp only))
  case sz => exact Nat.le_trans (by rw [List.length_map]; exact hz) (by decide)
  case h0 => exact ⟨Grown.self _, rfl, fun _ _ _ _ h => by simp at h⟩
  case ok =>
    intro C i v ys led' own oC m₂ h tk E' hv hI Fc Nc nC hm₂ hno
    obtain ⟨hg, hlen, hd⟩ := hI
    have hs := hg.sub
    obtain ⟨x, hxi, rfl⟩ : ∃ x, xs[i]? = some x ∧ x.1 = v := by simpa using hv
    have hsub : ∀ p ∈ news, p ∈ led' := fun p hp => hs p (by simp [hp])
    have hc1 := hs _ (.head _)
    have hfs : ∀ p ∈ news, p ∈ (C, oC) :: (own ++ led') := fun p hp => List.mem_cons_of_mem _ (List.mem_append_right _ (hsub p hp))
    have hfn' := hfn.mono hfs
    have hwx := hw _ x (fun p (hp : p ∈ news) => List.mem_cons_of_mem (C, oC) (List.mem_append_right own (hsub p hp))) (List.mem_of_getElem? hxi)
    repeat' (first | (k_unfold; (try dsimp only)) | walk1 | (dsimp only; walk1) | (leave1; try dsimp only))
    have r9zz := True.intro; have tl9zz := True.intro; have h9zz := True.intro; have tk9zz := True.intro; have F9zz := True.intro; have N9zz := True.intro; have l9zz := True.intro; have o9zz := True.intro -- ok
    rename_i r9 tl9 h9 tk9 F9 N9 l9 o9 -- ok
    exact PStep.intro tl9 (by k_asm) (by assumption) l9 ⟨hg.more (fun q hq p hp => l9 q (List.mem_cons_of_mem _ (List.mem_append_right _ hq)) p hp), by rw [List.length_append, hlen]; rfl, hd.snoc hM (fun p hp => List.mem_append_right _ hp) hlen hxi (hM.comp nC hno o9)⟩
  case dn =>
    intro D ys led' k' h' tk' hInv hle F9 N9 hne hlt9
    obtain ⟨⟨tl9, rfl, ho⟩, hlen, hd⟩ := hInv
    repeat' (first | (k_unfold; (try dsimp only)) | walk1 | (dsimp only; walk1) | (leave1; try dsimp only))
    all_goals refine hret _ ((D, W.listOf ys.toArray k') :: tl9) _ _ (by k_asm) (cb_drop (by assumption) ?_) ?_ ⟨D, k', ys, tl9, rfl, rfl, by rw [hlen, List.length_map], fun j x y hx hy => hM _ _ _ _ ?_ (hd j x y hx hy)⟩
    · kcj_all
    · intro q hq p hp
      rcases List.mem_cons.mp hp with rfl | hp
      · exact hlt9 q (List.mem_append_right _ hq)
      · exact ho q (List.mem_append_right _ hq) p hp
    · intro p hp
      rcases List.mem_append.mp hp with hp | hp
      · exact .inl (List.mem_append_left _ hp)
      · rcases List.mem_append.mp hp with hp | hp
        · rw [List.mem_singleton.mp hp]
          exact .inr (noTup_cell (by assumption))
        · exact .inl (List.mem_append_right _ hp)
end Mine
end
section
open PySem PySem.W PyProof.Rows
set_option maxRecDepth 100000
set_option maxHeartbeats 8000000
set_option linter.unusedVariables false
namespace Mine
example : True := by (k_with_none; trivial)
example : True := by ((k_with "u1" => ((case k1zz => k_asm); (case k2zz => k_asm); (case k3zz => k_asm); (case k4zz => k_asm); (case k5zz => k_asm))); trivial)
example : True := by ((k_with "u2" => ((case kKzz => first | exact rfl | assumption); (case kdzz => ktr_room); (case kuzz => ktr_units))); trivial)
example : True := by ((k_with "u3" => (intro r9zz tl9zz h9zz tk9zz F9zz N9zz l9zz o9zz; (try dsimp only at o9zz))); trivial)
example : True := by ((k_with "u4" => ((try simp only [List.nil_append, List.cons_append] at N9zz); (try dsimp only); (try k_fold))); trivial)
example : True := by ((k_with "suf" => (first | apply sub_refl | assumption | (refine sub_tail ?_; k_extra "suf") | (refine sub_app ?_; k_extra "suf") | apply sub_nil | (refine sub_appL ?_; k_extra "suf"))); trivial)
example : True := by ((k_with "in" => (first | assumption | apply in_head | (refine in_tail ?_; k_extra "in") | (refine in_app ?_; k_extra "in") | (refine in_appL ?_; k_extra "in"))); trivial)
example : True := by ((k_with "sub" => (first | k_extra "suf" | (refine sub_cons ?_ ?_; (focus k_extra "in"); k_extra "sub") | (refine sub_both ?_ ?_; (focus k_extra "sub"); k_extra "sub") | (refine sub_trans ?_ (by assumption); k_extra "suf"))); trivial)
example : True := by ((k_with "lt0" => (first | assumption | (refine Mine.pickA (by assumption) ?_; intro hz9zz; first | apply hz9zz.1 | (replace hz9zz := hz9zz.2; first | apply hz9zz.1 | (replace hz9zz := hz9zz.2; first | apply hz9zz.1 | (replace hz9zz := hz9zz.2; first | apply hz9zz.1 | (replace hz9zz := hz9zz.2; first | apply hz9zz.1 | (replace hz9zz := hz9zz.2; first | apply hz9zz.1 | (replace hz9zz := hz9zz.2; first | apply hz9zz.1 | (replace hz9zz := hz9zz.2; first | apply hz9zz.1 | (replace hz9zz := hz9zz.2; first | apply hz9zz.1 | (replace hz9zz := hz9zz.2; first | apply hz9zz.1 | (replace hz9zz := hz9zz.2; first | apply hz9zz.1 | (replace hz9zz := hz9zz.2; first | apply hz9zz.1 | (replace hz9zz := hz9zz.2; first | apply hz9zz.1 | (replace hz9zz := hz9zz.2; first | apply hz9zz.1 | apply hz9zz.2)))))))))))))))); trivial)
example : True := by ((k_with "lt1" => (first | apply Mine.sl1 | apply Mine.sl2 | apply Mine.sl3 | apply Mine.sl4 | exact Mine.dn1 (by assumption) | exact Mine.dn2 (by assumption) | exact Mine.dn3 (by assumption) | exact Mine.dn4 (by assumption) | exact Mine.upx (by assumption) (by assumption) | exact Mine.up4 (by assumption) | (refine Nat.lt_trans ?_ (by assumption); first | k_extra "lt0" | exact Mine.dn1 (by assumption) | exact Mine.dn2 (by assumption) | exact Mine.dn3 (by assumption) | exact Mine.dn4 (by assumption) | (refine Nat.lt_trans ?_ (by assumption); k_extra "lt0")))); trivial)
example : True := by ((k_with "LeaveK" => (k_dflt (refine' leaveK_ ?k1zz ?k2zz ?_; (case k1zz => k_asm); (case k2zz => k_asm); k_whole); intro kFzz kNzz; (try dsimp only))); trivial)
example : True := by ((k_with "k_mem" => (first | assumption | (refine' List.mem_append_right _ ?_; k_mem) | (refine' List.mem_append_left _ ?_; k_mem))); trivial)
example : True := by ((k_with "kcj_all" => (k_whole; first | (refine fun pzz hpzz => List.mem_append_right _ ?_; assumption) | (intro pzz hpzz; (simp only [List.mem_append, List.mem_cons, List.not_mem_nil, or_false, false_or] at hpzz ⊢); first | assumption | (simp only [hpzz, true_or, or_true]; done) | grind))); trivial)
example : True := by ((k_with "kcj_all" => (k_whole; with_reducible k_extra "sub")); trivial)
example : True := by ((k_with "newTuple" => (k_here; k_dflt (refine' kup_newTuple ?Fzz ?Nzz ?_ ?zzz; (case Fzz => k_asm); (case Nzz => k_asm); (case zzz => kmk_size)); intro D'zz h'zz F'zz N'zz l1zz; (try k_lt l1zz); (try k_sweep))); trivial)
example : True := by ((k_with "binaryOp Pow int int" => ((with_reducible refine pow_int_small ?kb1zz ?kb2zz ?kb3zz ?_); (case kb1zz => omega); (case kb2zz => omega); (case kb3zz => decide))); trivial)
example : True := by ((k_with "subscriptTail" => (k_here; (with_reducible show wpAny _ _ (subscriptTail _ _ (Value.ref _) (Value.int _ _)) _ _ _); (with_unfolding_all refine' item_litK ?k1zz ?k2zz ?k3zz ?k4zz ?_ ?k6zz; (case k1zz => exact isListOf (by k_asm) (by k_mem)); (case k2zz => first | decide | omega); (case k3zz => first | decide | omega); (case k4zz => first | rfl | assumption); (case k6zz => with_unfolding_all rfl); k_whole))); trivial)
example : True := by ((k_with "subscriptTail Name Name ref int" => (k_here; (with_reducible show wpAny _ _ (subscriptTail _ _ (Value.ref _) (Value.int _ _)) _ _ _); (with_unfolding_all refine' item_litK ?k1zz ?k2zz ?k3zz ?k4zz ?_ ?k6zz; (case k1zz => exact isListOf (by k_asm) (by k_mem)); (case k2zz => first | decide | omega); (case k3zz => first | decide | omega); (case k4zz => first | rfl | assumption); (case k6zz => with_unfolding_all rfl); k_whole))); trivial)
example : True := by ((k_with "subscriptTail Name Constant ref int" => (k_here; (with_reducible show wpAny _ _ (subscriptTail _ _ (Value.ref _) (Value.int _ _)) _ _ _); (with_unfolding_all refine' item_litK ?k1zz ?k2zz ?k3zz ?k4zz ?_ ?k6zz; (case k1zz => exact isListOf (by k_asm) (by k_mem)); (case k2zz => first | decide | omega); (case k3zz => first | decide | omega); (case k4zz => first | rfl | assumption); (case k6zz => with_unfolding_all rfl); k_whole))); trivial)
example : True := by ((k_with "call ref" => (k_here; (with_reducible show wpAny _ _ (call (Value.ref 255) _) _ _ _); k_dflt (refine' sp_use (sp_reckoned _ _ _ _ _ _ _ _ _ ?p1zz ?p2zz ?p3zz ?p4zz ?p5zz) ?k1zz ?k2zz ?k3zz ?k4zz ?k5zz ?kKzz ?kdzz ?kuzz ?_); k_extra "u1"; k_extra "u2"; (case p4zz => first | exact numIn_i | exact numIn_d (by k_mem) | exact NumIn.mono (by assumption) (by kcj_all) | assumption); (case p5zz => first | exact numIn_i | exact numIn_d (by k_mem) | exact NumIn.mono (by assumption) (by kcj_all) | assumption); (case p1zz => assumption); (case p2zz => assumption); (case p3zz => first | assumption | k_extra "sum"); k_extra "u3"; skip; k_extra "u4")); trivial)
example : True := by ((k_with "getAttr ref" => (k_here; k_dflt (refine' get_own ?k1zz ?k2zz ?k3zz ?k4zz ?k5zz ?k6zz ?k7zz ?k8zz ?k9zz ?_; (case k1zz => k_asm); (case k2zz => k_asm); (case k3zz => k_inst); (case k4zz => k_is); (case k5zz => k_is); (case k6zz => k_is); (case k7zz => k_is); (case k8zz => assumption); (case k9zz => exact rfl); k_whole))); trivial)
example : True := by ((k_with "call ref" => (k_here; (with_reducible show wpAny _ _ (call (Value.ref 262) _) _ _ _); k_dflt (refine' sp_use (sp_negated _ _ _ _ _ _ ?p1zz ?p2zz) ?k1zz ?k2zz ?k3zz ?k4zz ?k5zz ?kKzz ?kdzz ?kuzz ?_); k_extra "u1"; k_extra "u2"; (case p2zz => first | assumption | exact NumIn.mono (by assumption) (by kcj_all)); (case p1zz => assumption); k_extra "u3"; skip; k_extra "u4")); trivial)
example : True := by ((k_with "call ref" => (k_here; (with_reducible show wpAny _ _ (call (Value.ref 368) _) _ _ _); k_dflt (refine' sp_useI (sp_units _ _ _ _ ?p1zz ?p2zz) ?k1zz ?k2zz ?k3zz ?k4zz ?k5zz ?kKzz ?kdzz ?kuzz ?_); k_extra "u1"; k_extra "u2"; (case p2zz => first | assumption | exact NumIn.mono (by assumption) (by kcj_all)); (case p1zz => assumption); intro h9zz tk9zz F9zz t9zz N9zz; (try dsimp only); (try k_fold))); trivial)
example : True := by ((k_with "call ref" => (k_here; (with_reducible show wpAny _ _ (call (Value.ref 361) _) _ _ _); k_dflt (refine' sp_use (sp_law_number _ _ _ _ _ ?p1zz ?p2zz) ?k1zz ?k2zz ?k3zz ?k4zz ?k5zz ?kKzz ?kdzz ?kuzz ?_); k_extra "u1"; k_extra "u2"; (case p1zz => omega); (case p2zz => omega); k_extra "u3"; skip; k_extra "u4")); trivial)
example : True := by ((k_with "call ref" => (k_here; (with_reducible show wpAny _ _ (call (Value.ref 311) _) _ _ _); k_dflt (refine' sp_useV (sp_number_min _ _ _ _ _ _ _ _ _ ?p1zz ?p2zz ?p3zz ?p4zz ?p5zz) ?k1zz ?k2zz ?k3zz ?k4zz ?k5zz ?kKzz ?kdzz ?kuzz ?_); k_extra "u1"; k_extra "u2"; (case p5zz => k_mem); (case p3zz => first | assumption | exact NumIn.mono (by assumption) (by kcj_all)); (case p4zz => first | assumption | exact NumIn.mono (by assumption) (by kcj_all)); (case p1zz => assumption); (case p2zz => assumption); intro h9zz tk9zz F9zz N9zz; (try dsimp only); (try k_fold))); trivial)
example : True := by ((k_with "call ref" => (k_here; (with_reducible show wpAny _ _ (call (Value.ref 318) _) _ _ _); k_dflt (refine' sp_useV (sp_number_max _ _ _ _ _ _ _ _ _ ?p1zz ?p2zz ?p3zz ?p4zz ?p5zz) ?k1zz ?k2zz ?k3zz ?k4zz ?k5zz ?kKzz ?kdzz ?kuzz ?_); k_extra "u1"; k_extra "u2"; (case p5zz => k_mem); (case p3zz => first | assumption | exact NumIn.mono (by assumption) (by kcj_all)); (case p4zz => first | assumption | exact NumIn.mono (by assumption) (by kcj_all)); (case p1zz => assumption); (case p2zz => assumption); intro h9zz tk9zz F9zz N9zz; (try dsimp only); (try k_fold))); trivial)
example : True := by ((k_with "call ref" => (k_here; (with_reducible show wpAny _ _ (call (Value.ref 385) _) _ _ _); k_dflt (refine' sp_useV (sp_law_rises _ _ _ _ _ ?p1zz ?p2zz ?p3zz) ?k1zz ?k2zz ?k3zz ?k4zz ?k5zz ?kKzz ?kdzz ?kuzz ?_); k_extra "u1"; k_extra "u2"; (case p2zz => k_mem); (case p1zz => first | assumption | exact NumsIn.mono (by assumption) (by kcj_all) | k_extra "nums"); (case p3zz => first | assumption | k_extra "len"); intro h9zz tk9zz F9zz N9zz; (try dsimp only); (try k_fold))); trivial)
example : True := by ((k_with "call ref" => (k_here; (with_reducible show wpAny _ _ (call (Value.ref 380) _) _ _ _); k_dflt (refine' sp_useL (sp_law_led _ _ _ _ _ _ _ _ _ ?p1zz ?p2zz ?p3zz ?p4zz ?p5zz ?p6zz ?p7zz) ?k1zz ?k2zz ?k3zz ?k4zz ?k5zz ?kKzz ?kdzz ?kuzz ?_); k_extra "u1"; k_extra "u2"; (case p2zz => k_mem); (case p5zz => k_mem); (case p1zz => first | assumption | exact NumsIn.mono (by assumption) (by kcj_all) | k_extra "nums"); (case p3zz => first | assumption | k_extra "len"); (case p4zz => first | assumption | exact PairsIn.mono (by assumption) (by kcj_all)); (case p6zz => first | assumption | k_extra "pok"); (case p7zz => first | assumption | k_extra "len"); intro h9zz tk9zz F9zz D9zz k9zz N9zz l9zz; (try dsimp only); (try k_fold))); trivial)
example : True := by ((k_with "pyIter ref" => (first | k_extra "comp" | k_extra "for")); trivial)
example : True := by ((k_with "eval Name" => ((with_reducible show wpAny _ _ (eval _ (compEnvC _ _ _ _)) _ _ _); k_dflt (refine' comp_local ?Nzz ?hmzz ?nCzz ?hvzz ?_ ?azz ?bzz ?czz; (case bzz => exact rfl); (case azz => exact rfl); (case Nzz => k_asm); (case nCzz => assumption); (case hmzz => k_mem); (case hvzz => assumption); (case czz => decide)))); trivial)
example : True := by ((k_with "eval Name" => ((with_reducible show wpAny _ _ (eval _ (compEnvC _ _ _ _)) _ _ _); k_dflt (refine' comp_cell ?Nzz ?hmzz ?hd'zz ?_ ?azz ?bzz ?ezz ?czz; (case bzz => exact rfl); (case azz => exact rfl); (case ezz => exact rfl); (case Nzz => k_asm); (case hmzz => k_mem); (case hd'zz => assumption); (case czz => decide)))); trivial)
example : True := by ((k_with "exec Assign cons ListComp" => (k_dflt (refine' comp_assign ?aFzz ?a1zz ?a2zz ?a3zz ?a4zz ?a5zz ?a6zz ?a7zz ?a8zz ?_; (case aFzz => k_asm); (case a1zz => with_unfolding_all rfl); (case a2zz => with_unfolding_all rfl); (case a3zz => decide); (case a4zz => rfl); (case a5zz => decide); (case a6zz => intro _; with_unfolding_all rfl); (case a7zz => rfl); (case a8zz => rfl)))); trivial)
example : True := by ((k_with "eval ListComp" => (k_dflt (refine' comp_eval ?aFzz ?a2zz ?a3zz ?a4zz ?a5zz ?a6zz ?_; (case aFzz => k_asm); (case a2zz => with_unfolding_all rfl); (case a3zz => decide); (case a4zz => rfl); (case a5zz => decide); (case a6zz => intro _; with_unfolding_all rfl)))); trivial)
example : True := by ((k_with "call builtin:sorted" => (k_here; (with_reducible show wpAny _ _ (call (Value.builtin _) [Value.ref _]) _ _ _); (with_unfolding_all refine' kso_sorted ?k1zz ?k2zz ?k3zz ?k4zz ?k5zz ?_; (case k1zz => k_asm); (case k2zz => k_asm); (case k3zz => exact isListOf (by k_asm) (by k_mem)); (case k4zz => assumption); (case k5zz => assumption); k_whole); intro D'zz v'zz n'zz c'zz h'zz F'zz N'zz l1zz i'zz e'zz p'zz o'zz b'zz; (try k_lt l1zz); (try dsimp only))); trivial)
example : True := by ((k_with "compareOp Eq ref ref" => (k_here; (with_reducible show wpAny _ _ (compareOp CmpOp.Eq (Value.ref _) (Value.ref _)) _ _ _); k_dflt (refine' eq_intsK ?k1zz ?k2zz ?k3zz ?k4zz ?k5zz ?_; (case k1zz => exact isListOf (by k_asm) (by k_mem)); (case k3zz => exact isListOf (by k_asm) (by k_mem)); (case k2zz => assumption); (case k4zz => assumption); (case k5zz => ktr_units); k_whole))); trivial)
example : True := by ((k_with "exec For Tuple Name cons nil" => (k_here; (rename Fr _ _ _ _ => lF'zz); k_dflt (refine' For_invTF lF'zz ?_ ?hszz; (case hszz => intro _; with_unfolding_all rfl)))); trivial)
example : True := by ((k_with "k_all" => (assumption)); trivial)
example : True := by ((k_with "setItem ref int" => (k_here; k_dflt (refine' set_any ?k1zz ?k2zz ?k3zz ?k4zz ?k5zz ?k6zz ?_; (case k1zz => k_asm); (case k2zz => k_asm); (case k3zz => k_upd); (case k4zz => first | assumption | omega); (case k5zz => first | assumption | (simp only [List.length_set]; first | assumption | omega)); (case k6zz => omega); k_whole); intro h'zz F'zz N'zz; (try dsimp only))); trivial)
example : True := by ((k_with "subscriptTail Name Slice ref ref" => (k_here; k_dflt (refine' kmk_slice ?Fzz ?Nzz ?lzz ?pzz ?qzz ?_ ?szz ?tzz ?zzz; (case Fzz => k_asm); (case Nzz => k_asm); (case lzz => exact isListOf (by k_asm) (by k_mem)); (case pzz => kmk_part); (case qzz => kmk_part); (case szz => with_unfolding_all rfl); (case tzz => kmk_pure); (case zzz => (simp only [List.size_toArray, List.length_map, sizeLine_eq]; omega))); intro D'zz h'zz F'zz N'zz l1zz; (simp (disch := omega) only [pick_all, pick_upto, pick_from] at N'zz); (try k_lt l1zz); (try dsimp only))); trivial)
/-- the plain row of exchanges, of units -/
def ledUStep (us : List Int) (p : Int × Int) : List Int := match us[p.1.toNat]?, us[p.2.toNat]? with
  | some x, some y => (us.set p.1.toNat (min x y)).set p.2.toNat (max x y)
  | _, _ => us
def ledU (ps : List (Int × Int)) (us : List Int) : List Int := ps.foldl ledUStep us
theorem mn_units (x y : VN) : (mn x y).2.units = min x.2.units y.2.units := by unfold mn; split <;> omega
theorem mx_units (x y : VN) : (mx x y).2.units = max x.2.units y.2.units := by unfold mx; split <;> omega
theorem unitsL_step (xs : List VN) (p : Int × Int) : unitsL (ledStep xs p) = ledUStep (unitsL xs) p := by
  unfold ledStep ledUStep unitsL
  simp only [List.getElem?_map]
  cases h1 : xs[p.1.toNat]? with
  | none => simp
  | some x =>
    cases h2 : xs[p.2.toNat]? with
    | none => simp
    | some y => simp only [Option.map_some, List.map_set, mn_units, mx_units]
theorem unitsL_led (ps : List (Int × Int)) : ∀ xs : List VN, unitsL (ledF ps xs) = ledU ps (unitsL xs) := by
  induction ps with
  | nil => intro xs; rfl
  | cons p r ih => intro xs; exact (ih _).trans (by rw [unitsL_step]; rfl)
theorem ledU_map {φ : Int → Int} (hφ : ∀ a b, a ≤ b → φ a ≤ φ b) (ps : List (Int × Int)) : ∀ us : List Int, ledU ps (us.map φ) = (ledU ps us).map φ := by
  have h1 : ∀ a b, min (φ a) (φ b) = φ (min a b) := fun a b => by
    rcases Int.le_total a b with h | h
    · rw [Int.min_eq_left h, Int.min_eq_left (hφ _ _ h)]
    · rw [Int.min_eq_right h, Int.min_eq_right (hφ _ _ h)]
  have h2 : ∀ a b, max (φ a) (φ b) = φ (max a b) := fun a b => by
    rcases Int.le_total a b with h | h
    · rw [Int.max_eq_right h, Int.max_eq_right (hφ _ _ h)]
    · rw [Int.max_eq_left h, Int.max_eq_left (hφ _ _ h)]
  have step : ∀ us p, ledUStep (us.map φ) p = (ledUStep us p).map φ := by
    intro us p
    unfold ledUStep
    simp only [List.getElem?_map]
    cases us[p.1.toNat]? with
    | none => simp
    | some x =>
      cases us[p.2.toNat]? with
      | none => simp
      | some y => simp only [Option.map_some, List.map_set, h1, h2]
  induction ps with
  | nil => intro us; rfl
  | cons p r ih => intro us; show ledU r (ledUStep (us.map φ) p) = _; rw [step, ih]; rfl
def Bnd (xs : List VN) : Prop := ∀ x ∈ xs, -5000 ≤ x.2.units ∧ x.2.units ≤ 5000
theorem bnd_led {xs : List VN} (h : Bnd xs) (ps : List (Int × Int)) : Bnd (ledF ps xs) := fun x hx => h x (ledF_mem ps xs x hx)
theorem pok_of {pxs : List (Value × Int × Int)} {n n' : Nat} (h : ∀ x ∈ pxs, PairOk n x.2) (e : n' = n) : ∀ x ∈ pxs, PairOk n' x.2 := e ▸ h
/-- a work: of a number with u units it makes one with φ u units -/
def WorkOk (w : World) (kw uw : Nat) (fw : Addr) (φ : Int → Int) (news : Led) : Prop := ∀ led v N, (∀ p ∈ news, p ∈ led) → NumIn led v N → N.Ok → -5000 ≤ N.units → N.units ≤ 5000 → Sp w kw uw fw [v] led (fun r tl => RN led (φ N.units) r tl)
theorem WorkOk.mono {w : World} {kw uw : Nat} {fw : Addr} {φ : Int → Int} {news led : Led} (h : WorkOk w kw uw fw φ news) (hs : ∀ p ∈ news, p ∈ led) : WorkOk w kw uw fw φ led := fun led' v N hs' => h led' v N fun p hp => hs' p (hs p hp)
def GN (φ : Int → Int) (led : Led) (x : VN) (r : Value) : Prop := ∃ N', NumIn led r N' ∧ N'.Ok ∧ N'.units = φ x.2.units
theorem numIn_drop {led led' : Led} {v : Value} {N : Num} (hs : ∀ p ∈ led, p ∈ led' ∨ NoTup p.2) (h : NumIn led v N) : NumIn led' v N := by
  cases h with
  | i => exact .i
  | d hm =>
    rcases hs _ hm with h | h
    · exact .d h
    · exact absurd rfl (h _ _)
theorem GN.drop (φ : Int → Int) : DropG (GN φ) := fun led led' x y hs ⟨N', h1, h2, h3⟩ => ⟨N', numIn_drop hs h1, h2, h3⟩
theorem list_choose {P : Nat → Value → Num → Prop} : ∀ (ys : List Value) (b : Nat), (∀ (j : Nat) (y : Value), ys[j]? = some y → ∃ N, P (b + j) y N) → ∃ Ns : List Num, Ns.length = ys.length ∧ ∀ (j : Nat) (y : Value) (N : Num), ys[j]? = some y → Ns[j]? = some N → P (b + j) y N
  | [], _, _ => ⟨[], rfl, fun j y N h => by simp at h⟩
  | y :: r, b, h => by
    obtain ⟨N, hN⟩ := h 0 y rfl
    obtain ⟨Ns, hl, hr⟩ := list_choose (P := P) r (b + 1) (fun j y hy => by
      obtain ⟨N, hN⟩ := h (j + 1) y hy
      exact ⟨N, by rw [show b + 1 + j = b + (j + 1) by omega]; exact hN⟩)
    refine ⟨N :: Ns, by simp [hl], fun j y' N' h1 h2 => ?_⟩
    cases j with
    | zero => cases h1; cases h2; exact hN
    | succ j => rw [show b + (j + 1) = b + 1 + j by omega]; exact hr j y' N' h1 h2
theorem allGN {φ : Int → Int} {led : Led} {xs : List VN} {ys : List Value} (hl : ys.length = xs.length) (h : AllG (GN φ) led xs ys) : ∃ zs : List VN, zs.map (·.1) = ys ∧ NumsIn led zs ∧ unitsL zs = (unitsL xs).map φ := by
  obtain ⟨Ns, hN, hr⟩ := list_choose (P := fun j y N => NumIn led y N ∧ N.Ok ∧ ∀ x, xs[j]? = some x → N.units = φ x.2.units) ys 0 (fun j y hy => by
    have hj : j < xs.length := by
      rw [← hl]; exact (List.getElem?_eq_some_iff.mp hy).1
    have hx : xs[j]? = some xs[j] := List.getElem?_eq_getElem hj
    obtain ⟨N, a, b, c⟩ := h j _ y hx hy
    refine ⟨N, a, b, fun x hx' => ?_⟩
    rw [Nat.zero_add, hx] at hx'
    cases hx'; exact c)
  simp only [Nat.zero_add] at hr
  refine ⟨ys.zip Ns, List.map_fst_zip (by omega), ?_, ?_⟩
  · intro z hz
    obtain ⟨j, hj⟩ := List.mem_iff_getElem?.mp hz
    rw [List.getElem?_zip_eq_some] at hj
    exact ⟨(hr j _ _ hj.1 hj.2).1, (hr j _ _ hj.1 hj.2).2.1⟩
  · apply List.ext_getElem?
    intro j
    unfold unitsL
    simp only [List.getElem?_map]
    by_cases hj : j < xs.length
    · have hx : xs[j]? = some xs[j] := List.getElem?_eq_getElem hj
      have hy : ys[j]? = some (ys[j]'(by omega)) := List.getElem?_eq_getElem (by omega)
      have hn : Ns[j]? = some (Ns[j]'(by omega)) := List.getElem?_eq_getElem (by omega)
      rw [show (ys.zip Ns)[j]? = some (ys[j]'(by omega), Ns[j]'(by omega)) from List.getElem?_zip_eq_some.mpr ⟨hy, hn⟩, hx]
      simp only [Option.map_some]
      rw [(hr j _ _ hy hn).2.2 _ hx]
    · rw [List.getElem?_eq_none (by simp; omega), List.getElem?_eq_none (by omega)]; rfl
theorem Sp.imp {w : World} {k u : Nat} {f : Addr} {args : List Value} {news : Led} {R R' : Value → Led → Prop} (C : Sp w k u f args news R) (h : ∀ r tl, R r tl → R' r tl) : Sp w k u f args news R' := by
  unfold Sp
  intro p loose mean mg mb dp un gd cn cs a ccd cl outer A₀ base h₀ L m s Q E B F X N T hk hd hu ret
  exact sp_use C B F X N T hk hd hu fun r tl h' tk' a b c d => ret r tl h' tk' a b c (h r tl d)
theorem Sp.le {w : World} {k u k' u' : Nat} {f : Addr} {args : List Value} {news : Led} {R : Value → Led → Prop} (C : Sp w k u f args news R) (hk' : k ≤ k') (hu' : u ≤ u') : Sp w k' u' f args news R := by
  unfold Sp
  intro p loose mean mg mb dp un gd cn cs a ccd cl outer A₀ base h₀ L m s Q E B F X N T hk hd hu ret
  exact sp_use C B F X N T hk (by omega) (by omega) ret
theorem sp_map_num (w : World) (fw ra : Addr) (xs : List VN) (kr kw uw : Nat) (φ : Int → Int) (news : Led) (hx : NumsIn news xs) (hl : (ra, listOf (xs.map (·.1)).toArray kr) ∈ news) (hz : xs.length ≤ 60) (hfn : IsFn w news fw) (hw : WorkOk w kw uw fw φ news) (hb : Bnd xs) :
    Sp w (kw + 2) (uw + 100) 400 [.ref fw, .ref ra] news (fun r tl => ∃ D k' zs tl', r = .ref D ∧ tl = (D, listOf (zs.map (·.1)).toArray k') :: tl' ∧ NumsIn (tl' ++ news) zs ∧ unitsL zs = (unitsL xs).map φ ∧ zs.length = xs.length) := by
  refine Sp.imp (sp_law_mapped w fw ra xs kr kw uw news (GN φ) (GN.drop φ) hl hz hfn fun led' x hs hxm => Sp.imp (hw led' x.1 x.2 hs ((hx x hxm).1.mono hs) (hx x hxm).2 (hb x hxm).1 (hb x hxm).2) fun r tl h => h) fun r tl h => ?_
  obtain ⟨D, k', ys, tl', e1, e2, hlen, hA⟩ := h
  obtain ⟨zs, e3, h4, h5⟩ := allGN hlen hA
  exact ⟨D, k', zs, tl', e1, by rw [e3]; exact e2, h4, h5, by rw [← hlen, ← e3, List.length_map]⟩
theorem isFn_units (w : World) (news : Led) : IsFn w news 368 := fun h₀ L h m F X N => ⟨_, _, _, _, F.keep _ _ (X _ _ rfl)⟩
theorem allInts {led : Led} {xs : List VN} {ys : List Value} (hl : ys.length = xs.length) (h : AllG (fun _ x r => ∃ t, r = .int x.2.units t) led xs ys) : IntsAre ys (unitsL xs) := by
  induction xs generalizing ys with
  | nil => cases ys with
    | nil => exact .nil
    | cons => simp at hl
  | cons x r ih => cases ys with
    | nil => simp at hl
    | cons y ys =>
      obtain ⟨t, rfl⟩ := h 0 x y rfl rfl
      exact .cons _ _ (ih (by simpa using hl) fun j x' y' h1 h2 => h (j + 1) x' y' h1 h2)
theorem sp_map_units (w : World) (ra : Addr) (xs : List VN) (kr : Nat) (news : Led) (hx : NumsIn news xs) (hl : (ra, listOf (xs.map (·.1)).toArray kr) ∈ news) (hz : xs.length ≤ 60) :
    Sp w 3 116 400 [.ref 368, .ref ra] news (fun r tl => ∃ D k' ys tl', r = .ref D ∧ tl = (D, listOf ys.toArray k') :: tl' ∧ IntsAre ys (unitsL xs)) := by
  refine Sp.imp (sp_law_mapped w 368 ra xs kr 1 16 news (fun _ x r => ∃ t, r = .int x.2.units t) (fun _ _ _ _ _ h => h) hl hz (isFn_units w news) fun led' x hs hxm => Sp.imp (sp_units w x.1 x.2 led' (hx x hxm).2 ((hx x hxm).1.mono hs)) fun r tl h => h.1) fun r tl h => ?_
  obtain ⟨D, k', ys, tl', e1, e2, hlen, hA⟩ := h
  exact ⟨D, k', ys, tl', e1, e2, allInts hlen hA⟩
example : True := by ((k_with "len" => (first | assumption | omega | (rw [ledF_len]; omega))); trivial)
example : True := by ((k_with "pok" => (first | assumption | exact pok_of (by assumption) (by first | assumption | rw [ledF_len] | (rw [ledF_len]; assumption)))); trivial)
example : True := by ((k_with "nums" => (first | exact NumsIn.led (by assumption) _ | exact NumsIn.mono (NumsIn.led (by assumption) _) (by kcj_all))); trivial)
example : True := by ((k_with "call ref" => (k_here; (with_reducible show wpAny _ _ (call (Value.ref 400) _) _ _ _); k_dflt (refine' sp_use (sp_map_num _ _ _ _ _ _ _ _ _ ?p1zz ?p2zz ?p3zz ?p4zz ?p5zz ?p6zz) ?k1zz ?k2zz ?k3zz ?k4zz ?k5zz ?kKzz ?kdzz ?kuzz ?_); k_extra "u1"; (case p2zz => k_mem); (case p1zz => first | assumption | exact NumsIn.mono (by assumption) (by kcj_all) | k_extra "nums"); (case p3zz => first | assumption | k_extra "len"); (case p4zz => first | exact IsFn.mono (by assumption) (by kcj_all)); (case p5zz => first | exact WorkOk.mono (by assumption) (by kcj_all)); (case p6zz => first | assumption | exact bnd_led (by assumption) _); k_extra "u2"; k_extra "u3"; obtain ⟨D9zz, k9zz, z9zz, t9zz, r9zz, f9zz, n9zz, u9zz, e9zz⟩ := o9zz; subst r9zz; subst f9zz; (try rw [ledF_len] at e9zz); k_extra "u4")); trivial)
example : True := by ((k_with "call ref" => (k_here; (with_reducible show wpAny _ _ (call (Value.ref 400) _) _ _ _); k_dflt (refine' sp_use (sp_map_units _ _ _ _ _ ?p1zz ?p2zz ?p3zz) ?k1zz ?k2zz ?k3zz ?k4zz ?k5zz ?kKzz ?kdzz ?kuzz ?_); k_extra "u1"; k_extra "u2"; (case p2zz => k_mem); (case p1zz => first | assumption | exact NumsIn.mono (by assumption) (by kcj_all) | k_extra "nums"); (case p3zz => first | assumption | k_extra "len"); k_extra "u3"; obtain ⟨D9zz, k9zz, z9zz, t9zz, r9zz, f9zz, n9zz⟩ := o9zz; subst r9zz; subst f9zz; k_extra "u4")); trivial)
theorem gt_eq {φ : Int → Int} (hφ : ∀ a b, a ≤ b → φ a ≤ φ b) {ps : List (Int × Int)} {xs z z' : List VN} (u1 : unitsL z = (unitsL xs).map φ) (u2 : unitsL z' = (unitsL (ledF ps xs)).map φ) : unitsL (ledF ps z) = unitsL z' := by
  rw [unitsL_led, u1, ledU_map hφ, u2, unitsL_led]
theorem sp_law_goes_through (w : World) (wv : Value) (pa ra fw : Addr) (pxs : List (Value × Int × Int)) (xs : List VN) (kp kr kw uw : Nat) (φ : Int → Int) (news : Led) (hφ : ∀ a b, a ≤ b → φ a ≤ φ b) (hx : NumsIn news xs) (hl : (ra, listOf (xs.map (·.1)).toArray kr) ∈ news) (hz : xs.length ≤ 50)
    (hp : PairsIn news pxs) (hpl : (pa, listOf (pxs.map (·.1)).toArray kp) ∈ news) (hpo : ∀ x ∈ pxs, PairOk xs.length x.2) (hpz : pxs.length ≤ 60) (hfn : IsFn w news fw) (hw : WorkOk w kw uw fw φ news) (hb : Bnd xs) :
    Sp w (kw + 12) (uw + 400) 407 [wv, .ref pa, .ref ra, .ref fw] news (fun r tl => r = .bool true ∧ tl = []) := by
  have hz60 : xs.length ≤ 60 := by omega
  unfold Sp
  intro p loose mean mg mb dp un gd cn cs a ccd cl outer A₀ base h₀ L m s Q E B F X N T hk hd hu hret
  refine wpAny_call ?_
  k_dflt ktr_enter
  repeat' (first | (k_unfold; (try dsimp only)) | walk1 | (dsimp only; walk1) | (leave1; try dsimp only))
  all_goals exact hret _ [] _ _ (by k_asm) (cb_drop (by assumption) (by kcj_all)) (by first | ktn_ord | exact ord_sub (by assumption) (by kcj_all)) ⟨congrArg Value.bool (decide_eq_true (gt_eq hφ (by assumption) (by assumption))), rfl⟩
end Mine
end
section
open PySem PySem.W PyProof.Rows PySem.Calls
open Sem (wp)
set_option maxRecDepth 100000
set_option maxHeartbeats 4000000
set_option linter.unusedVariables false
namespace Mine
example : True := by (k_with_none; trivial)
section
variable {prog : Program} {w : World} {A : Around} {E : Value → Shared → Prop} {s : Shared} {env : Env}
theorem tupiter_ob {I ax : Addr} {vs : Array Value} : ∀ (i : Nat) (h : Heap), (h.IsTupleIter I ax i ∧ h.IsTuple ax vs) → ∃ o, h.get? I = some o := fun i h st => ⟨_, st.1.choose_spec.1⟩
/-- the inner list is one just made -/
theorem in_list {x y : Str} {elt : Expr} {scope : Scope} {cl : List (Str × Addr)} {h₀ h : Heap} {L C ax : Addr} {m : Str → Option Value} {all led tl : Led} {v : Value} {ys vs : List Value} {Nx : List Value → Led → Prop} {tk k : Nat} (Inv1 : Nat → List Value → Led → Prop)
    (hh : A.handled = none) (F : Fr h₀ L h m) (N : News h₀ L h (tl ++ all)) (ord : ∀ q ∈ all, ∀ p ∈ tl, q.1 < p.1) (hm : (ax, listOf vs.toArray k) ∈ tl) (hsz : vs.length + ys.length ≤ sizeLine) (hi0 : Inv1 0 ys (tl ++ led)) (hend : ∀ ys' led', Inv1 vs.length ys' led' → Nx ys' led')
    (turn1 : ∀ j v1 ys led own oC m₃ h tk E', vs[j]? = some v1 → Inv1 j ys led → Fr h₀ L h m → News h₀ L h ((C, oC) :: (own ++ led)) → NsO oC m₃ → m₃ x = some v → m₃ y = some v1 →
      wpAny (model prog w) A (eval elt (compEnvC scope cl C env)) (fun z s₄ => PStep h₀ L m ((C, oC) :: (own ++ led)) led (Inv1 (j + 1) (ys ++ [z])) s s₄) E' { s with heap := h, toks := tk }) :
    wpAny (model prog w) A (pyIter (.ref ax)) (InAt prog w A env x y elt scope cl h₀ L C m all led v ys Nx s) E { s with heap := h, toks := tk } := by
  have hl : h.IsList ax vs.toArray := isListOf N (List.mem_append_left _ hm)
  have hax := Heap.lt_size (N _ (List.mem_append_left _ hm)).1
  refine wpAny_pyIter_list (s := { s with heap := h, toks := tk }) hl ?_
  have W := Walks.list (prog := prog) (w := w) hh h.objs.size ax (Nat.ne_of_lt hax) vs.toArray
  have hz : vs.toArray.size = vs.length := List.size_toArray ..
  rw [hz] at W
  refine ⟨_, tk, tl, h.objs.size, [h.objs.size, ax], vs.length, _, _, Inv1, rfl, rfl, W, ⟨⟨_, Heap.get?_push_size _ rfl, rfl, rfl⟩, hl.at fun o e => Heap.get?_push_of_some _ e⟩, F.push _, (fun p hp => ⟨Heap.get?_push_of_some _ (N p hp).1, (N p hp).2⟩), ord, (fun q hq => Heap.lt_size (N q hq).1), next_is_new F, Nat.ne_of_gt F.ns.lt, (fun j h st => listiter_ob j h st _ (.head _)), ?_, ?_, hsz, hi0, hend, ?_⟩
  · intro b hb
    rcases List.mem_cons.mp hb with rfl | hb
    · exact .inl rfl
    · rw [List.mem_singleton.mp hb]; exact .inr (.inl ⟨_, hm⟩)
  · intro q
    rcases List.mem_cons.mp q with q | q
    · exact absurd F.ns.lt (q ▸ Nat.lt_irrefl _)
    · exact (N _ (List.mem_append_left _ hm)).2.1 (List.mem_singleton.mp q).symm
  · intro j v1 ys led own oC m₃ h tk E' hj hP hI F' N' nC hx hy
    exact turn1 j v1 ys led own oC m₃ h tk E' (by rw [← List.getElem?_toArray]; exact hP) hI F' N' nC hx hy
/-- the inner tuple is one of the program's own -/
theorem in_tuple {x y : Str} {elt : Expr} {scope : Scope} {cl : List (Str × Addr)} {h₀ h : Heap} {L C ax : Addr} {m : Str → Option Value} {all led : Led} {v : Value} {ys vs : List Value} {Nx : List Value → Led → Prop} {tk : Nat} (Inv1 : Nat → List Value → Led → Prop)
    (hh : A.handled = none) (F : Fr h₀ L h m) (N : News h₀ L h all) (hm : h₀.IsTuple ax vs.toArray) (hsz : vs.length + ys.length ≤ sizeLine) (hi0 : Inv1 0 ys led) (hend : ∀ ys' led', Inv1 vs.length ys' led' → Nx ys' led')
    (turn1 : ∀ j v1 ys led own oC m₃ h tk E', vs[j]? = some v1 → Inv1 j ys led → Fr h₀ L h m → News h₀ L h ((C, oC) :: (own ++ led)) → NsO oC m₃ → m₃ x = some v → m₃ y = some v1 →
      wpAny (model prog w) A (eval elt (compEnvC scope cl C env)) (fun z s₄ => PStep h₀ L m ((C, oC) :: (own ++ led)) led (Inv1 (j + 1) (ys ++ [z])) s s₄) E' { s with heap := h, toks := tk }) :
    wpAny (model prog w) A (pyIter (.ref ax)) (InAt prog w A env x y elt scope cl h₀ L C m all led v ys Nx s) E { s with heap := h, toks := tk } := by
  have hl : h.IsTuple ax vs.toArray := hm.at fun o e => F.keep _ _ e
  obtain ⟨oa, ea, _⟩ := id hm
  have hal : ax < h₀.objs.size := Heap.lt_size ea
  have hax : ax < h.objs.size := Heap.lt_size (F.keep _ _ ea)
  refine wpAny_pyIter_tuple (s := { s with heap := h, toks := tk }) hl ?_
  have W := Walks.tuple (prog := prog) (w := w) hh h.objs.size ax (Nat.ne_of_lt hax) vs.toArray
  have hz : vs.toArray.size = vs.length := List.size_toArray ..
  rw [hz] at W
  refine ⟨_, tk, [], h.objs.size, [h.objs.size, ax], vs.length, _, _, Inv1, rfl, rfl, W, ⟨⟨_, Heap.get?_push_size _ rfl, rfl, rfl⟩, hl.at fun o e => Heap.get?_push_of_some _ e⟩, F.push _, (fun p hp => ⟨Heap.get?_push_of_some _ (N p hp).1, (N p hp).2⟩), (fun _ _ _ h => nomatch h), (fun q hq => Heap.lt_size (N q hq).1), next_is_new F, Nat.ne_of_gt F.ns.lt, tupiter_ob, ?_, ?_, hsz, hi0, hend, ?_⟩
  · intro b hb
    rcases List.mem_cons.mp hb with rfl | hb
    · exact .inl rfl
    · rw [List.mem_singleton.mp hb]; exact .inr (.inr ⟨_, ea⟩)
  · intro q
    rcases List.mem_cons.mp q with q | q
    · exact absurd F.ns.lt (q ▸ Nat.lt_irrefl _)
    · exact absurd F.above (by rw [List.mem_singleton.mp q]; exact Nat.not_le.mpr hal)
  · intro j v1 ys led own oC m₃ h tk E' hj hP hI F' N' nC hx hy
    exact turn1 j v1 ys led own oC m₃ h tk E' (by rw [← List.getElem?_toArray]; exact hP) hI F' N' nC hx hy
end
end Mine
end
section
open PySem PySem.W PyProof.Rows PySem.Calls
open Sem (wp)
set_option maxRecDepth 100000
set_option maxHeartbeats 4000000
set_option linter.unusedVariables false
namespace Mine
example : True := by (k_with_none; trivial)
section
variable {prog : Program} {w : World} {A : Around} {E : Value → Shared → Prop} {s : Shared} {env : Env}
theorem enumTurns {elts : List Expr} {k : Nat} {pos : Pos} (hh : A.handled = none) (e it l : Addr) (hei : e ≠ it) (hle : l ≠ e) (hli : l ≠ it) (vs : Array Value) :
    KTurns prog w A (.Tuple elts k pos) e [e, it, l] [e, it] vs.size
      (fun i v h => ∃ T t x kT, v = .ref T ∧ vs[i]? = some x ∧ h.get? T = some (tupO [.int i t, x] kT) ∧ e < T)
      (fun i v h => ∃ T t x kT, v = .ref T ∧ vs[i]? = some x ∧ h.get? T = some (tupO [.int i t, x] kT) ∧ e < T ∧ T ≠ it ∧ IsEnumOut h e it ((i : Int) + 1) x T ∧ h.IsListIter it l (i + 1) ∧ h.IsList l vs)
      (fun i h => (∃ old, IsEnum h e it i old) ∧ h.IsListIter it l i ∧ h.IsList l vs) where
  sub := fun b hb => by
    rcases List.mem_cons.mp hb with rfl | hb
    · exact List.mem_cons_self ..
    · exact List.mem_cons_of_mem _ (by rcases List.mem_cons.mp hb with rfl | hb; exact List.mem_cons_self ..; cases hb)
  frame := fun i h h' hst hk => by
    obtain ⟨⟨old, he⟩, hit, hl⟩ := hst
    exact ⟨⟨old, hk e (by simp) _ he⟩, hit.at fun o x => hk it (by simp) o x, hl.at fun o x => hk l (by simp) o x⟩
  item := fun i s Q E hi hst hQ => by
    obtain ⟨⟨old, he⟩, hit, hl⟩ := hst
    have hx : vs[i]? = some vs[i] := Array.getElem?_eq_getElem hi
    refine wpAny_pyNext_enum_item he hit hl hx hei fun h' ho hit' hT hsz hk => ?_
    have helt : e < s.heap.objs.size := Heap.lt_size he
    have hilt : it < s.heap.objs.size := by obtain ⟨_, x, _⟩ := hit; exact Heap.lt_size x
    exact hQ _ h' (s.toks + 1) ⟨s.heap.objs.size, s.toks, vs[i], _, rfl, hx, hT, helt, Nat.ne_of_gt hilt, ho, hit', hl.at fun o x => hk l o hle hli x⟩
      fun b o hb x => hk b o (fun e' => hb (by simp [e'])) (fun e' => hb (by simp [e'])) x
  go := fun i v s Q E hm hQ => by
    obtain ⟨T, t, x, kT, rfl, hx, hT, heT, hTi, ho, hit, hl⟩ := hm
    refine wpAny_letOwnedTupleGo_enum ho fun h' he' hs' => hQ h' ⟨T, t, x, kT, rfl, hx, (hs'.2 T (Nat.ne_of_gt heT)).trans hT, heT⟩ ⟨⟨x, by simpa using he'⟩, hit.at fun o y => (hs'.2 it hei.symm).trans y, hl.at fun o y => (hs'.2 l hle).trans y⟩ fun b o hb y => ?_
    exact (hs'.2 b fun e' => hb (by simp [e'])).trans y
  done := fun s Q E hst hQ => by
    obtain ⟨⟨old, he⟩, hit, hl⟩ := hst
    exact wpAny_pyNext_enum_end hh he hit hl (Array.getElem?_eq_none (Nat.le_refl _)) fun h' hx => hQ h' s.toks fun b o hb y => hx b o (fun e' => hb (by simp [e'])) y
/-- the end of a turn of a for over enumerate -/
inductive EStepI (h₀ : Heap) (L : Addr) (own : Led) (I₁ I₂ : Addr) (Jn : (Str → Option Value) → Led → Prop) (g : Array GenState) (d : Drawn) (o : OsState) (f : Flow) (s' : Shared) : Prop
  | mk (ef : f = .next) (h' : Heap) (tk' : Nat) (m' : Str → Option Value) (nx : Led) (e : s' = ⟨h', g, d, tk', o⟩) (F : Fr h₀ L h' m') (N : News h₀ L h' (own ++ nx)) (off : ∀ p ∈ nx, p.1 ≠ I₁ ∧ p.1 ≠ I₂) (j : Jn m' nx)
abbrev EStep (h₀ : Heap) (L : Addr) (own : Led) (I₁ I₂ : Addr) (Jn : (Str → Option Value) → Led → Prop) (s₁ : Shared) (f : Flow) (s' : Shared) : Prop := EStepI h₀ L own I₁ I₂ Jn s₁.gens s₁.drawn s₁.os f s'
theorem EStep.intro {h₀ h' : Heap} {L I₁ I₂ : Addr} {own nx : Led} {Jn : (Str → Option Value) → Led → Prop} {s₁ : Shared} {tk' : Nat} {m' : Str → Option Value} (F : Fr h₀ L h' m') (N : News h₀ L h' (own ++ nx)) (o : ∀ p ∈ nx, p.1 ≠ I₁ ∧ p.1 ≠ I₂) (j : Jn m' nx) : EStep h₀ L own I₁ I₂ Jn s₁ .next { s₁ with heap := h', toks := tk' } := ⟨rfl, h', tk', m', nx, rfl, F, N, o, j⟩
theorem for_enum {elts : List Expr} {kk : Nat} {pos : Pos} {body : List Stmt} {h₀ : Heap} {ax : Addr} {vs : List Value} {k : Nat} {led : Led} {m : Str → Option Value} {Q : Flow → Shared → Prop} (J : Nat → (Str → Option Value) → Led → Prop)
    (hh : A.handled = none) (F : Fr h₀ env.locals s.heap m) (N : News h₀ env.locals s.heap led) (hm : (ax, listOf vs.toArray k) ∈ led) (h0 : J 0 m led)
    (turn : ∀ i v T t kT m₁ led₁ own I₁ I₂ h₁ tk₁, vs[i]? = some v → J i m₁ led₁ → (∀ p ∈ led₁, p.1 ≠ I₁ ∧ p.1 ≠ I₂) → Fr h₀ env.locals h₁ m₁ → News h₀ env.locals h₁ ((T, tupO [.int i t, v] kT) :: (own ++ led₁)) → (∃ o, (I₁, o) ∈ own) → (∃ o, (I₂, o) ∈ own) → (∀ p ∈ own, p.1 = I₁ ∨ p.1 = I₂ ∨ p.1 = ax) → (∀ p ∈ led, p.1 < T) →
      wpAny (model prog w) A (assign (.Tuple elts kk pos) env (.ref T)) (fun _ s₃ => wpAny (model prog w) A (execs body env) (EStep h₀ env.locals own I₁ I₂ (J (i + 1)) { s with heap := h₁, toks := tk₁ }) E s₃) E { s with heap := h₁, toks := tk₁ })
    (done : ∀ h' tk m' led', J vs.length m' led' → Fr h₀ env.locals h' m' → News h₀ env.locals h' led' → Q .next { s with heap := h', toks := tk }) :
    wpAny (model prog w) A (call (.type "enumerate") [.ref ax]) (fun xv s₁ => wpAny (model prog w) A (pyIter xv) (fun it s₂ => TurnsAt prog w A h₀ env (.Tuple elts kk pos) body Q E it s₂) E s₁) E s := by
  have hl : s.heap.IsList ax vs.toArray := isListOf N hm
  have hax := Heap.lt_size (N _ hm).1
  have hLs : env.locals < s.heap.objs.size := F.ns.lt
  have h0s : h₀.objs.size ≤ s.heap.objs.size := Nat.le_of_lt (Nat.lt_of_le_of_lt F.above hLs)
  have new₀ : ∀ a, s.heap.objs.size ≤ a → h₀.get? a = none := fun a ha => Heap.get?_none_of_le (Nat.le_trans h0s ha)
  refine call_enumerate_list hl fun h' hE hI hsz hk => ?_
  refine wpAny_pyIter_enum hE ?_
  have hz : vs.toArray.size = vs.length := List.size_toArray ..
  have W := enumTurns (prog := prog) (w := w) (elts := elts) (k := kk) (pos := pos) hh (s.heap.objs.size + 1) s.heap.objs.size ax (Nat.succ_ne_self _) (Nat.ne_of_lt (Nat.lt_succ_of_lt hax)) (Nat.ne_of_lt hax) vs.toArray
  rw [hz] at W
  have hoff : ∀ p ∈ led, p.1 ∉ [s.heap.objs.size + 1, s.heap.objs.size] := fun p hp q => by
    have := Heap.lt_size (N p hp).1
    rcases List.mem_cons.mp q with q | q
    · rw [q] at this; exact Nat.lt_irrefl _ (Nat.lt_of_succ_lt this)
    · rw [List.mem_singleton.mp q] at this; exact Nat.lt_irrefl _ this
  refine ⟨s.heap.objs.size + 1, _, _, vs.length, _, _, _, m, led, J, rfl, W, ?_, ?_, hoff, ⟨⟨_, hE⟩, hI, hl.at fun o e => hk _ _ e⟩, F.keeps hk, (fun p hp => ⟨hk _ _ (N p hp).1, (N p hp).2⟩), h0, ?_, fun h' tk m' led' F' N' _ hJ => done h' tk m' led' hJ F' N'⟩
  · intro q
    simp only [List.mem_cons, List.not_mem_nil, or_false] at q
    rcases q with q | q | q
    · rw [q] at hLs; exact absurd hLs (Nat.not_lt.mpr (Nat.le_succ _))
    · rw [q] at hLs; exact Nat.lt_irrefl _ hLs
    · exact (N _ hm).2.1 q.symm
  · intro b hb
    rcases List.mem_cons.mp hb with rfl | hb
    · exact new₀ _ (Nat.le_succ _)
    · rw [List.mem_singleton.mp hb]; exact new₀ _ (Nat.le_refl _)
  · rintro i v m₁ led₁ h₁ tk₁ own hi ⟨T, t, x, kT, rfl, hx, hT, heT⟩ hJ hoff₁ hsub hget hown st F₁ N₁
    obtain ⟨⟨old, he⟩, ⟨oI, hoI, _⟩, _⟩ := st
    have hsT : s.heap.objs.size ≤ T := Nat.le_of_lt (Nat.lt_of_succ_lt heT)
    have NT : News h₀ env.locals h₁ ((T, tupO [.int i t, x] kT) :: (own ++ led₁)) := fun p hp => by
      rcases List.mem_cons.mp hp with rfl | hp
      · exact ⟨hT, Nat.ne_of_gt (Nat.lt_of_lt_of_le hLs hsT), new₀ _ hsT⟩
      · exact N₁ p hp
    refine wpAny_mono (turn i x T t kT m₁ led₁ own (s.heap.objs.size + 1) s.heap.objs.size h₁ tk₁ (by rw [← List.getElem?_toArray]; exact hx) hJ (fun p hp => ⟨fun q => hoff₁ p hp (by rw [q]; exact .head _), fun q => hoff₁ p hp (by rw [q]; exact .tail _ (.head _))⟩) F₁ NT ⟨_, hown _ (.head _) (new₀ _ (Nat.le_succ _)) _ he⟩ ⟨_, hown _ (.tail _ (.head _)) (new₀ _ (Nat.le_refl _)) _ hoI⟩ (fun p hp => by
      have := hsub p hp
      simpa only [List.mem_cons, List.not_mem_nil, or_false] using this) (fun p hp => Nat.lt_of_lt_of_le (Heap.lt_size (N p hp).1) hsT)) (fun _ s₃ q => wpAny_mono q (fun f s' q => ?_) fun _ _ x => x) fun _ _ x => x
    obtain ⟨rfl, h', tk', m', nx, rfl, F', N', o', j'⟩ := q
    refine LoopStepV.next ⟨rfl, h', tk', m', nx, rfl, F', N', fun p hp q => ?_, j'⟩
    rcases List.mem_cons.mp q with q | q
    · exact (o' p hp).1 q
    · exact (o' p hp).2 (List.mem_singleton.mp q)
end
end Mine
end
section
open PySem PySem.W PyProof.Rows PySem.Calls PySem.Spec
set_option maxRecDepth 100000
set_option maxHeartbeats 4000000
set_option linter.unusedVariables false
namespace Mine
example : True := by (k_with_none; trivial)
def reprN : Num → Str
  | .i n => Str.ofString (toString n)
  | .d c e => PyData.shown (.tuple [.int c, .int e])
theorem strOk_int (i : Int) : PyData.strOk (Str.ofString (toString i)) = true := by
  unfold PyData.strOk
  rw [Array.all_eq_true_iff_forall_mem]
  intro c hc
  rw [decide_eq_true_eq]
  refine Nat.lt_of_not_le fun h => int_text_free' c ⟨by omega, by omega⟩ i (Array.mem_toList_iff.mpr hc)
theorem strOk_append {a b : Str} (ha : PyData.strOk a = true) (hb : PyData.strOk b = true) : PyData.strOk (a ++ b) = true := by
  unfold PyData.strOk at *
  rw [Array.all_eq_true_iff_forall_mem] at *
  intro c hc
  have : c ∈ a.cps ++ b.cps := hc
  rcases Array.mem_append.mp this with h | h
  · exact ha c h
  · exact hb c h
theorem tupleText_two (a b : Str) : tupleText [a, b] = (Str.ofString "(" ++ (a ++ Str.ofString ", " ++ b)) ++ Str.ofString ")" := rfl
theorem strOk_lit1 : PyData.strOk (Str.ofString "(") = true := by decide +kernel
theorem strOk_lit2 : PyData.strOk (Str.ofString ", ") = true := by decide +kernel
theorem strOk_lit3 : PyData.strOk (Str.ofString ")") = true := by decide +kernel
theorem strOk_reprN (N : Num) : PyData.strOk (reprN N) = true := by
  cases N with
  | i n => exact strOk_int n
  | d c e =>
    show PyData.strOk (tupleText [_, _]) = true
    rw [tupleText_two]
    exact strOk_append (strOk_append strOk_lit1 (strOk_append (strOk_append (strOk_int c) strOk_lit2) (strOk_int e))) strOk_lit3
theorem reprN_len {N : Num} (h : N.Ok) : (reprN N).length ≤ sizeLine := by
  cases N with
  | i n =>
    obtain ⟨h1, h2⟩ := h
    have := int_text_length_le10 (a := n) (k := 6) (by decide) (by omega)
    show (Str.ofString (toString n)).length ≤ _
    rw [PySem.ofString_length, sizeLine_eq]; omega
  | d c e =>
    have hc : c.natAbs < 10 ^ 6 := by
      obtain ⟨h1, h2, h3, h4⟩ := h
      unfold Num.units at h3 h4
      simp only at h3 h4
      split at h3
      · rw [if_pos (by assumption)] at h4; omega
      · split at h3
        · rw [if_neg (by assumption), if_pos (by assumption)] at h4; omega
        · split at h3
          · rw [if_neg (by assumption), if_neg (by assumption), if_pos (by assumption)] at h4; omega
          · split at h3
            · rw [if_neg (by assumption), if_neg (by assumption), if_neg (by assumption), if_pos (by assumption)] at h4; omega
            · rw [if_neg (by assumption), if_neg (by assumption), if_neg (by assumption), if_neg (by assumption)] at h4; omega
    have he : e.natAbs < 10 ^ 6 := by obtain ⟨h1, h2, _⟩ := h; omega
    have l1 := int_text_length_le10 (a := c) (k := 6) (by decide) hc
    have l2 := int_text_length_le10 (a := e) (k := 6) (by decide) he
    have l3 := tupleText_len_le [Str.ofString (toString c), Str.ofString (toString e)]
    show (tupleText [Str.ofString (toString c), Str.ofString (toString e)]).length ≤ _
    rw [sizeLine_eq]
    simp only [List.map_cons, List.map_nil, List.sum_cons, List.sum_nil, List.length_cons, List.length_nil, PySem.ofString_length] at l3
    omega
theorem ltCps_le {a b : Str} (h : ltCps b.cps.toList a.cps.toList = false) : a.cps.toList ≤ b.cps.toList := by
  rw [ltCps_eq] at h
  exact List.not_lt.mp (of_decide_eq_false h)
theorem risingS_pw : ∀ (l : List Str) (p : Str), risingS p l = true → (p :: l).Pairwise (fun a b => a.cps.toList ≤ b.cps.toList)
  | [], p, _ => by simp
  | x :: r, p, h => by
    have h' : (!ltCps x.cps.toList p.cps.toList && risingS x r) = true := h
    rw [Bool.and_eq_true, Bool.not_eq_true'] at h'
    have ih := risingS_pw r x h'.2
    have h1 := ltCps_le h'.1
    refine List.pairwise_cons.mpr ⟨fun y hy => ?_, ih⟩
    rcases List.mem_cons.mp hy with rfl | hy
    · exact h1
    · exact List.le_trans h1 (List.rel_of_pairwise_cons ih hy)
theorem sortedS_pw : ∀ (l : List Str), sortedS l = true → l.Pairwise (fun a b => a.cps.toList ≤ b.cps.toList)
  | [], _ => .nil
  | x :: r, h => risingS_pw r x h
theorem sortedS_unique {a b ss tt : List Str} (ha : sortedS a = true) (hb : sortedS b = true) (pa : a.Perm ss) (pb : b.Perm tt) (p : ss.Perm tt) : a = b := by
  refine List.Perm.eq_of_pairwise (le := fun a b : Str => a.cps.toList ≤ b.cps.toList) (fun x y _ _ h1 h2 => ?_) (sortedS_pw a ha) (sortedS_pw b hb) ((pa.trans p).trans pb.symm)
  have e : x.cps.toList = y.cps.toList := List.le_antisymm h1 h2
  obtain ⟨cx⟩ := x
  obtain ⟨cy⟩ := y
  exact congrArg Str.mk (Array.toList_inj.mp e)
/-- repr of a number -/
theorem repr_any {prog : Program} {w : PySem.World} {A : Around} {E : Value → Shared → Prop} {s : Shared} {h₀ : Heap} {L : Addr} {m : Str → Option Value} {led : Led} {v : Value} {N : Num} {Q : Value → Shared → Prop} (F : Fr h₀ L s.heap m) (Nw : News h₀ L s.heap led) (hN : NumIn led v N) (ok : N.Ok) (hg : A.guards = some []) (hu : A.units + 64 < cLine)
    (h : ∀ h' u tk, Fr h₀ L h' m → News h₀ L h' led → Q (.str (reprN N) u) { s with heap := h', toks := tk }) : wpAny (model prog w) A (call (.builtin "repr") [v]) Q E s := by
  have hsz := reprN_len ok
  cases hN with
  | @i n t =>
    refine P.repr_of_int ?_ (h s.heap _ _ F Nw)
    obtain ⟨h1, h2⟩ := ok
    have : n.natAbs < 2 ^ 7 := by omega
    by_cases h0 : n.natAbs = 0
    · rw [h0]; decide
    · refine (Nat.log2_lt h0).mpr (Nat.lt_of_lt_of_le (show n.natAbs < 2 ^ 7 by omega) (Nat.pow_le_pow_right (by decide) (by decide)))
  | @d a c e t1 t2 k hm =>
    have hd : DatIn led (.ref a) (.tuple [.int c, .int e]) := .tuple hm (.cons (.int _ _) (.cons (.int _ _) .nil))
    obtain ⟨as, r⟩ := kqd_in Nw 8 hd (by simp [kqdOk])
    have r' : Reads s.heap (.ref a) (.tuple [.int c, .int e]) as := r
    refine repr_of_reads' r' ?_ (by simp [PyData.hasDict, PyData.hasDictAll]) hg (by simp only [PyData.depth, PyData.depthAll]; omega) (fun _ _ e => e) (fun h' u tk hk => h h' u tk (F.keeps hk) fun p hp => ⟨hk _ _ (Nw p hp).1, (Nw p hp).2⟩) hsz
    have big : ∀ z : Int, z.natAbs < 2 ^ 14 → z.natAbs.log2 < 1920 := fun z hz => by
      by_cases h0 : z.natAbs = 0
      · rw [h0]; decide
      · exact (Nat.log2_lt h0).mpr (Nat.lt_of_lt_of_le hz (Nat.pow_le_pow_right (by decide) (by decide)))
    have hc : c.natAbs < 2 ^ 14 := by
      obtain ⟨h1, h2, h3, h4⟩ := ok
      unfold Num.units at h3 h4
      simp only at h3 h4
      split at h3
      · rw [if_pos (by assumption)] at h4; omega
      · split at h3
        · rw [if_neg (by assumption), if_pos (by assumption)] at h4; omega
        · split at h3
          · rw [if_neg (by assumption), if_neg (by assumption), if_pos (by assumption)] at h4; omega
          · split at h3
            · rw [if_neg (by assumption), if_neg (by assumption), if_neg (by assumption), if_pos (by assumption)] at h4; omega
            · rw [if_neg (by assumption), if_neg (by assumption), if_neg (by assumption), if_neg (by assumption)] at h4; omega
    have he : e.natAbs < 2 ^ 14 := by obtain ⟨h1, h2, _⟩ := ok; omega
    simp [PyData.showable, PyData.showableAll, big c hc, big e he]
/-- a call of a function where no guard stands -/
def SpG (w : World) (k u : Nat) (f : Addr) (args : List Value) (news : Led) (R : Value → Led → Prop) : Prop :=
  ∀ (p : Program) (loose : List Str) (mean : ExcName → Option Value) (mg mb : Str → Option Value) (dp un : Nat) (cn : Str) (cs : Scope) (a : Addr) (ccd : Value) (cl : List (Str × Addr)) (outer : List Env) (A₀ : Around) (base h₀ : Heap) (L : Addr) (m : Str → Option Value) (s : Shared)
    (Q E : Value → Shared → Prop),
    Below A₀ base outer h₀ → Fr h₀ L s.heap m → (hd.heap_1 w.params).In h₀ → News h₀ L s.heap news → Top p loose mean mg mb h₀ → cs.kind = .function → dp + k < recursionLimit → un + u < cLine →
    (∀ r tl h' tk', Fr h₀ L h' m → News h₀ L h' (tl ++ news) → (∀ q ∈ news, ∀ p ∈ tl, q.1 < p.1) → R r tl → Q r { s with heap := h', toks := tk' }) →
    wpAny (model PW w) (ktrTop dp un (some []) cn cs L a ccd cl outer) (call (.ref f) args) Q E s
theorem spG_use {w : World} {k u : Nat} {f : Addr} {args : List Value} {news : Led} {R : Value → Led → Prop} (C : SpG w k u f args news R)
    {p : Program} {loose : List Str} {mean : ExcName → Option Value} {mg mb : Str → Option Value} {dp un : Nat} {cn : Str} {cs : Scope} {a : Addr} {ccd : Value} {cl : List (Str × Addr)} {outer : List Env} {A₀ : Around} {base h₀ : Heap} {L : Addr} {m : Str → Option Value} {s : Shared}
    {Q E : Value → Shared → Prop} (B : Below A₀ base outer h₀) (F : Fr h₀ L s.heap m) (X : (hd.heap_1 w.params).In h₀) (N : News h₀ L s.heap news) (T : Top p loose mean mg mb h₀) (hk : cs.kind = .function) (hd : dp + k < recursionLimit) (hu : un + u < cLine)
    (ret : ∀ r tl h' tk', Fr h₀ L h' m → News h₀ L h' (tl ++ news) → (∀ q ∈ news, ∀ p ∈ tl, q.1 < p.1) → R r tl → Q r { s with heap := h', toks := tk' }) :
    wpAny (model PW w) (ktrTop dp un (some []) cn cs L a ccd cl outer) (call (.ref f) args) Q E s := C _ _ _ _ _ _ _ _ _ _ _ _ _ _ _ _ _ _ _ _ _ B F X N T hk hd hu ret
end Mine
end
section
open PySem PySem.W PyProof.Rows PySem.Calls PySem.Spec
set_option maxRecDepth 100000
set_option maxHeartbeats 4000000
set_option linter.unusedVariables false
namespace Mine
example : True := by (k_with_none; trivial)
theorem swap_perm {α : Type} {l : List α} {a b : Nat} {x y : α} (ha : l[a]? = some x) (hb : l[b]? = some y) : ((l.set a y).set b x).Perm l := by
  obtain ⟨ia, ea⟩ := List.getElem?_eq_some_iff.mp ha
  obtain ⟨ib, eb⟩ := List.getElem?_eq_some_iff.mp hb
  have h := Array.swap_perm (xs := l.toArray) (i := a) (j := b) (by simpa using ia) (by simpa using ib)
  have h2 := Array.perm_iff_toList_perm.mp h
  have e : (l.toArray.swap a b (by simpa using ia) (by simpa using ib)).toList = (l.set a y).set b x := by
    rw [Array.toList_swap]
    simp [ea, eb]
  rw [e] at h2
  exact h2
def NodupU (xs : List VN) : Prop := (unitsL xs).Nodup
theorem nodup_ne {xs : List VN} {a b : Nat} {x y : VN} (h : NodupU xs) (ha : xs[a]? = some x) (hb : xs[b]? = some y) (hab : a ≠ b) : x.2.units ≠ y.2.units := by
  obtain ⟨ia, ea⟩ := List.getElem?_eq_some_iff.mp ha
  obtain ⟨ib, eb⟩ := List.getElem?_eq_some_iff.mp hb
  intro e
  apply hab
  have ia' : a < (unitsL xs).length := by simpa [unitsL] using ia
  have ib' : b < (unitsL xs).length := by simpa [unitsL] using ib
  exact (List.getElem_inj h (h₀ := ia') (h₁ := ib')).mp (by simp [unitsL, ea, eb, e])
structure StepAt (xs ys : List VN) (lo hi : Int) (x y : VN) : Prop where
  lo' : ys[lo.toNat]? = some x
  hi' : ys[hi.toNat]? = some y
  le : x.2.units ≤ y.2.units
  off : ∀ j, j ≠ lo.toNat → j ≠ hi.toNat → ys[j]? = xs[j]?
  perm : NodupU xs → ys.Perm xs
theorem stepAt {xs : List VN} {lo hi : Int} (h : PairOk xs.length (lo, hi)) : ∃ x y, StepAt xs (ledStep xs (lo, hi)) lo hi x y := by
  obtain ⟨h1, h2, h3, h4, h5⟩ := h
  simp only at h1 h2 h3 h4 h5
  have ia : lo.toNat < xs.length := by omega
  have ib : hi.toNat < xs.length := by omega
  have hab : lo.toNat ≠ hi.toNat := by omega
  have hx : xs[lo.toNat]? = some xs[lo.toNat] := List.getElem?_eq_getElem ia
  have hy : xs[hi.toNat]? = some xs[hi.toNat] := List.getElem?_eq_getElem ib
  generalize xs[lo.toNat] = x at hx
  generalize xs[hi.toNat] = y at hy
  have e : ledStep xs (lo, hi) = (xs.set lo.toNat (mn x y)).set hi.toNat (mx x y) := by unfold ledStep; simp only [hx, hy]
  refine ⟨mn x y, mx x y, ?_, ?_, ?_, ?_, ?_⟩
  · rw [e, List.getElem?_set_ne (Ne.symm hab), List.getElem?_set_self (by simpa using ia)]
  · rw [e, List.getElem?_set_self (by simpa using ib)]
  · rw [mn_units, mx_units]; omega
  · intro j j1 j2
    rw [e, List.getElem?_set_ne (Ne.symm j2), List.getElem?_set_ne (Ne.symm j1)]
  · intro hn
    have hne := nodup_ne hn hx hy hab
    rw [e]
    unfold mn mx
    by_cases hl : y.2.units < x.2.units
    · rw [if_pos hl, if_neg (by omega)]
      exact swap_perm hx hy
    · rw [if_neg hl, if_pos (by omega)]
      have e1 : xs.set lo.toNat x = xs := by
        obtain ⟨_, ea⟩ := List.getElem?_eq_some_iff.mp hx
        rw [← ea]; exact List.set_getElem_self _
      have e2 : xs.set hi.toNat y = xs := by
        obtain ⟨_, ea⟩ := List.getElem?_eq_some_iff.mp hy
        rw [← ea]; exact List.set_getElem_self _
      rw [e1, e2]
theorem nodup_perm {xs ys : List VN} (h : NodupU xs) (p : ys.Perm xs) : NodupU ys := (p.map (fun x : VN => x.2.units)).nodup_iff.mpr h
theorem ledF_perm (ps : List (Int × Int)) : ∀ xs : List VN, NodupU xs → (∀ p ∈ ps, PairOk xs.length p) → (ledF ps xs).Perm xs := by
  induction ps with
  | nil => intro xs _ _; exact List.Perm.refl _
  | cons p r ih =>
    intro xs hn hp
    obtain ⟨lo, hi⟩ := p
    obtain ⟨x, y, S⟩ := stepAt (hp _ (.head _))
    have q := S.perm hn
    exact (ih (ledStep xs (lo, hi)) (nodup_perm hn q) (fun p hp' => by rw [ledStep_len]; exact hp p (.tail _ hp'))).trans q
theorem datAll_strs {led : Led} {vs : List Value} {ss : List Str} (h : StrsAre vs ss) : DatAll led vs (ss.map Dat.str) := by
  induction h with
  | nil => exact .nil
  | cons x t _ ih => exact .cons (.str _ _) ih
theorem ne_strs {prog : Program} {w : PySem.World} {A : Around} {E : Value → Shared → Prop} {s : Shared} {h₀ : Heap} {L a b : Addr} {led : Led} {vs ws : List Value} {ss tt : List Str} {c d : Nat} {Q : Value → Shared → Prop} (N : News h₀ L s.heap led) (ma : (a, listOf vs.toArray c) ∈ led) (mb : (b, listOf ws.toArray d) ∈ led) (sa : StrsAre vs ss) (sb : StrsAre ws tt) (e : ss = tt) (ok : ∀ x ∈ ss, PyData.strOk x = true) (hu : A.units + 64 < cLine)
    (h : Q (.bool false) s) : wpAny (model prog w) A (compareOp .NotEq (.ref a) (.ref b)) Q E s := by
  subst e
  refine kqd_ne N ma rfl rfl (datAll_strs (led := led) sa) (fun _ h => h) mb rfl rfl (datAll_strs (led := led) sb) (fun _ h => h) ?_ ?_ hu (by simpa using h)
  all_goals
    intro d hd
    obtain ⟨x, hx, rfl⟩ := List.mem_map.mp hd
    simpa [kqdOk] using ok x hx
theorem ne_same {prog : Program} {w : PySem.World} {A : Around} {E : Value → Shared → Prop} {s : Shared} {h₀ : Heap} {L a b : Addr} {led : Led} {vs ws : List Value} {ds es : List Dat} {c d : Nat} {Q : Value → Shared → Prop} (N : News h₀ L s.heap led) (ma : (a, listOf vs.toArray c) ∈ led) (mb : (b, listOf ws.toArray d) ∈ led) (sa : DatAll led vs ds) (sb : DatAll led ws es) (e : ds = es) (ok : ∀ x ∈ ds, kqdOk 8 x = true) (hu : A.units + 64 < cLine)
    (h : Q (.bool false) s) : wpAny (model prog w) A (compareOp .NotEq (.ref a) (.ref b)) Q E s := by
  subst e
  exact kqd_ne N ma rfl rfl sa (fun _ h => h) mb rfl rfl sb (fun _ h => h) ok ok hu (by simpa using h)
theorem sorted_any {prog : Program} {w : PySem.World} {A : Around} {E : Value → Shared → Prop} {s : Shared} {h₀ : Heap} {L a : Addr} {m : Str → Option Value} {led : Led} {vs : List Value} {ss : List Str} {c : Nat} {Q : Value → Shared → Prop} (F : Fr h₀ L s.heap m) (N : News h₀ L s.heap led) (ma : (a, listOf vs.toArray c) ∈ led) (hS : StrsAre vs ss) (h64 : vs.length < 64)
    (h : ∀ D h' vs' ss' e, Fr h₀ L h' m → News h₀ L h' ((D, listOf vs'.toArray e) :: led) → (∀ q ∈ led, q.1 < D) → StrsAre vs' ss' → ss'.Perm ss → sortedS ss' = true → Q (.ref D) { s with heap := h' }) :
    wpAny (model prog w) A (call (.builtin "sorted") [.ref a]) Q E s :=
  sorted_N_str F N (isListOf N ma) hS h64 fun h' vs' ss' e F' N' a1 a2 a3 => h _ h' vs' ss' e F' N' (fun q hq => Nat.lt_succ_of_lt (Heap.lt_size (N q hq).1)) a1 a2 a3
theorem strs_snoc {ys : List Value} {zs : List VN} {i : Nat} {x : VN} {u : Tok} (h : zs[i]? = some x) (hs : StrsAre ys ((zs.take i).map fun x => reprN x.2)) : StrsAre (ys ++ [.str (reprN x.2) u]) ((zs.take (i + 1)).map fun x => reprN x.2) := by
  rw [List.take_add_one, h, List.map_append]
  generalize (zs.take i).map (fun x => reprN x.2) = ss at hs
  induction hs with
  | nil => exact .cons _ _ .nil
  | cons x t _ ih => exact .cons _ _ ih
/-- not in a pair -/
theorem notin_pair {prog : Program} {w : PySem.World} {A : Around} {E : Value → Shared → Prop} {s : Shared} {h₀ : Heap} {L a : Addr} {led : Led} {n lo hi : Int} {t t1 t2 : Tok} {k : Nat} {Q : Value → Shared → Prop} (N : News h₀ L s.heap led) (ma : (a, tupO [.int lo t1, .int hi t2] k) ∈ led) (hu : A.units + 64 < cLine)
    (h : Q (.bool (decide (n ≠ lo ∧ n ≠ hi))) s) : wpAny (model prog w) A (compareOp .NotIn (.int n t) (.ref a)) Q E s := by
  have hd : DatIn led (.ref a) (.tuple [.int lo, .int hi]) := .tuple ma (.cons (.int _ _) (.cons (.int _ _) .nil))
  obtain ⟨as, r⟩ := kqd_in N 8 hd (by simp [kqdOk])
  have r' : Reads s.heap (.ref a) (.tuple [.int lo, .int hi]) as := r
  refine SeqAt.notIn_tuple_reads r' (.int n t) (by simp [PyData.canLayAll0, PyData.canLay0]) (by simp [PyData.canLay0]) (by simp only [PyData.depth, PyData.depthAll]; omega) ?_
  have e : (!([PyData.int lo, PyData.int hi].any fun y => PyData.eqv y (.int n))) = decide (n ≠ lo ∧ n ≠ hi) := by
    by_cases h1 : n = lo <;> by_cases h2 : n = hi <;> simp [PyData.eqv, h1, h2, Ne.symm] <;> omega
  rw [e]; exact h
end Mine
end
section
open PySem PySem.W PyProof.Rows
set_option maxRecDepth 100000
set_option maxHeartbeats 4000000
set_option linter.unusedVariables false
namespace Mine
example : True := by (k_with_none; trivial)
/-- the row of exchanges sorts -/
def sortsU (ps : List (Int × Int)) (us : List Int) : Bool := decide ((ledU ps us).Pairwise (· ≤ ·))
theorem sortsB_eq (ps : List (Int × Int)) (xs : List VN) : sortsB ps xs = sortsU ps (unitsL xs) := by
  unfold sortsB sortsU
  rw [unitsL_led]
theorem pw_map {φ : Int → Int} (hφ : ∀ a b, a ≤ b → φ a ≤ φ b) {us : List Int} (h : us.Pairwise (· ≤ ·)) : (us.map φ).Pairwise (· ≤ ·) := by
  rw [List.pairwise_map]
  exact h.imp fun h => hφ _ _ h
/-- the threshold -/
def thr (c u : Int) : Int := if c ≤ u then 100 else 0
theorem thr_mono (c : Int) : ∀ a b, a ≤ b → thr c a ≤ thr c b := fun a b h => by unfold thr; split <;> split <;> omega
/-- if all rows of noughts and ones are sorted, so is each row -/
theorem zero_one {ps : List (Int × Int)} {us : List Int} (h : ∀ c, sortsU ps (us.map (thr c)) = true) : sortsU ps us = true := by
  unfold sortsU at *
  rw [decide_eq_true_eq, List.pairwise_iff_getElem]
  intro i j hi hj hij
  refine Int.not_lt.mp fun hlt => ?_
  have h1 := of_decide_eq_true (h ((ledU ps us)[i]))
  rw [ledU_map (thr_mono _), List.pairwise_iff_getElem] at h1
  have h2 := h1 i j (by simpa using hi) (by simpa using hj) hij
  simp only [List.getElem_map] at h2
  unfold thr at h2
  rw [if_pos (Int.le_refl _), if_neg (by omega)] at h2
  omega
end Mine
end
section
open PySem PySem.W PyProof.Rows
set_option maxRecDepth 100000
set_option maxHeartbeats 8000000
set_option linter.unusedVariables false
namespace Mine
example : True := by (k_with_none; trivial)
example : True := by ((k_with "u1" => ((case k1zz => k_asm); (case k2zz => k_asm); (case k3zz => k_asm); (case k4zz => k_asm); (case k5zz => k_asm))); trivial)
example : True := by ((k_with "u2" => ((case kKzz => first | exact rfl | assumption); (case kdzz => ktr_room); (case kuzz => ktr_units))); trivial)
example : True := by ((k_with "u3" => (intro r9zz tl9zz h9zz tk9zz F9zz N9zz l9zz o9zz; (try dsimp only at o9zz))); trivial)
example : True := by ((k_with "u4" => ((try simp only [List.nil_append, List.cons_append] at N9zz); (try dsimp only); (try k_fold))); trivial)
example : True := by ((k_with "suf" => (first | apply sub_refl | assumption | (refine sub_tail ?_; k_extra "suf") | (refine sub_app ?_; k_extra "suf") | apply sub_nil | (refine sub_appL ?_; k_extra "suf"))); trivial)
example : True := by ((k_with "in" => (first | assumption | apply in_head | (refine in_tail ?_; k_extra "in") | (refine in_app ?_; k_extra "in") | (refine in_appL ?_; k_extra "in"))); trivial)
example : True := by ((k_with "sub" => (first | k_extra "suf" | (refine sub_cons ?_ ?_; (focus k_extra "in"); k_extra "sub") | (refine sub_both ?_ ?_; (focus k_extra "sub"); k_extra "sub") | (refine sub_trans ?_ (by assumption); k_extra "suf"))); trivial)
example : True := by ((k_with "lt0" => (first | assumption | (refine Mine.pickA (by assumption) ?_; intro hz9zz; first | apply hz9zz.1 | (replace hz9zz := hz9zz.2; first | apply hz9zz.1 | (replace hz9zz := hz9zz.2; first | apply hz9zz.1 | (replace hz9zz := hz9zz.2; first | apply hz9zz.1 | (replace hz9zz := hz9zz.2; first | apply hz9zz.1 | (replace hz9zz := hz9zz.2; first | apply hz9zz.1 | (replace hz9zz := hz9zz.2; first | apply hz9zz.1 | (replace hz9zz := hz9zz.2; first | apply hz9zz.1 | (replace hz9zz := hz9zz.2; first | apply hz9zz.1 | (replace hz9zz := hz9zz.2; first | apply hz9zz.1 | (replace hz9zz := hz9zz.2; first | apply hz9zz.1 | (replace hz9zz := hz9zz.2; first | apply hz9zz.1 | (replace hz9zz := hz9zz.2; first | apply hz9zz.1 | (replace hz9zz := hz9zz.2; first | apply hz9zz.1 | apply hz9zz.2)))))))))))))))); trivial)
example : True := by ((k_with "lt1" => (first | apply Mine.sl1 | apply Mine.sl2 | apply Mine.sl3 | apply Mine.sl4 | exact Mine.dn1 (by assumption) | exact Mine.dn2 (by assumption) | exact Mine.dn3 (by assumption) | exact Mine.dn4 (by assumption) | exact Mine.upx (by assumption) (by assumption) | exact Mine.up4 (by assumption) | (refine Nat.lt_trans ?_ (by assumption); first | k_extra "lt0" | exact Mine.dn1 (by assumption) | exact Mine.dn2 (by assumption) | exact Mine.dn3 (by assumption) | exact Mine.dn4 (by assumption) | (refine Nat.lt_trans ?_ (by assumption); k_extra "lt0")))); trivial)
example : True := by ((k_with "LeaveK" => (k_dflt (refine' leaveK_ ?k1zz ?k2zz ?_; (case k1zz => k_asm); (case k2zz => k_asm); k_whole); intro kFzz kNzz; (try dsimp only))); trivial)
example : True := by ((k_with "k_mem" => (first | assumption | (refine' List.mem_append_right _ ?_; k_mem) | (refine' List.mem_append_left _ ?_; k_mem))); trivial)
example : True := by ((k_with "kcj_all" => (k_whole; first | (refine fun pzz hpzz => List.mem_append_right _ ?_; assumption) | (intro pzz hpzz; (simp only [List.mem_append, List.mem_cons, List.not_mem_nil, or_false, false_or] at hpzz ⊢); first | assumption | (simp only [hpzz, true_or, or_true]; done) | grind))); trivial)
example : True := by ((k_with "kcj_all" => (k_whole; with_reducible k_extra "sub")); trivial)
example : True := by ((k_with "newTuple" => (k_here; k_dflt (refine' kup_newTuple ?Fzz ?Nzz ?_ ?zzz; (case Fzz => k_asm); (case Nzz => k_asm); (case zzz => kmk_size)); intro D'zz h'zz F'zz N'zz l1zz; (try k_lt l1zz); (try k_sweep))); trivial)
example : True := by ((k_with "binaryOp Pow int int" => ((with_reducible refine pow_int_small ?kb1zz ?kb2zz ?kb3zz ?_); (case kb1zz => omega); (case kb2zz => omega); (case kb3zz => decide))); trivial)
example : True := by ((k_with "subscriptTail" => (k_here; (with_reducible show wpAny _ _ (subscriptTail _ _ (Value.ref _) (Value.int _ _)) _ _ _); (with_unfolding_all refine' item_litK ?k1zz ?k2zz ?k3zz ?k4zz ?_ ?k6zz; (case k1zz => exact isListOf (by k_asm) (by k_mem)); (case k2zz => first | decide | omega); (case k3zz => first | decide | omega); (case k4zz => first | rfl | assumption); (case k6zz => with_unfolding_all rfl); k_whole))); trivial)
example : True := by ((k_with "subscriptTail Name Name ref int" => (k_here; (with_reducible show wpAny _ _ (subscriptTail _ _ (Value.ref _) (Value.int _ _)) _ _ _); (with_unfolding_all refine' item_litK ?k1zz ?k2zz ?k3zz ?k4zz ?_ ?k6zz; (case k1zz => exact isListOf (by k_asm) (by k_mem)); (case k2zz => first | decide | omega); (case k3zz => first | decide | omega); (case k4zz => first | rfl | assumption); (case k6zz => with_unfolding_all rfl); k_whole))); trivial)
example : True := by ((k_with "subscriptTail Name Constant ref int" => (k_here; (with_reducible show wpAny _ _ (subscriptTail _ _ (Value.ref _) (Value.int _ _)) _ _ _); (with_unfolding_all refine' item_litK ?k1zz ?k2zz ?k3zz ?k4zz ?_ ?k6zz; (case k1zz => exact isListOf (by k_asm) (by k_mem)); (case k2zz => first | decide | omega); (case k3zz => first | decide | omega); (case k4zz => first | rfl | assumption); (case k6zz => with_unfolding_all rfl); k_whole))); trivial)
example : True := by ((k_with "call ref" => (k_here; (with_reducible show wpAny _ _ (call (Value.ref 255) _) _ _ _); k_dflt (refine' sp_use (sp_reckoned _ _ _ _ _ _ _ _ _ ?p1zz ?p2zz ?p3zz ?p4zz ?p5zz) ?k1zz ?k2zz ?k3zz ?k4zz ?k5zz ?kKzz ?kdzz ?kuzz ?_); k_extra "u1"; k_extra "u2"; (case p4zz => first | exact numIn_i | exact numIn_d (by k_mem) | exact NumIn.mono (by assumption) (by kcj_all) | assumption); (case p5zz => first | exact numIn_i | exact numIn_d (by k_mem) | exact NumIn.mono (by assumption) (by kcj_all) | assumption); (case p1zz => assumption); (case p2zz => assumption); (case p3zz => first | assumption | k_extra "sum"); k_extra "u3"; skip; k_extra "u4")); trivial)
example : True := by ((k_with "getAttr ref" => (k_here; k_dflt (refine' get_own ?k1zz ?k2zz ?k3zz ?k4zz ?k5zz ?k6zz ?k7zz ?k8zz ?k9zz ?_; (case k1zz => k_asm); (case k2zz => k_asm); (case k3zz => k_inst); (case k4zz => k_is); (case k5zz => k_is); (case k6zz => k_is); (case k7zz => k_is); (case k8zz => assumption); (case k9zz => exact rfl); k_whole))); trivial)
example : True := by ((k_with "call ref" => (k_here; (with_reducible show wpAny _ _ (call (Value.ref 262) _) _ _ _); k_dflt (refine' sp_use (sp_negated _ _ _ _ _ _ ?p1zz ?p2zz) ?k1zz ?k2zz ?k3zz ?k4zz ?k5zz ?kKzz ?kdzz ?kuzz ?_); k_extra "u1"; k_extra "u2"; (case p2zz => first | assumption | exact NumIn.mono (by assumption) (by kcj_all)); (case p1zz => assumption); k_extra "u3"; skip; k_extra "u4")); trivial)
example : True := by ((k_with "call ref" => (k_here; (with_reducible show wpAny _ _ (call (Value.ref 368) _) _ _ _); k_dflt (refine' sp_useI (sp_units _ _ _ _ ?p1zz ?p2zz) ?k1zz ?k2zz ?k3zz ?k4zz ?k5zz ?kKzz ?kdzz ?kuzz ?_); k_extra "u1"; k_extra "u2"; (case p2zz => first | assumption | exact NumIn.mono (by assumption) (by kcj_all)); (case p1zz => assumption); intro h9zz tk9zz F9zz t9zz N9zz; (try dsimp only); (try k_fold))); trivial)
example : True := by ((k_with "call ref" => (k_here; (with_reducible show wpAny _ _ (call (Value.ref 361) _) _ _ _); k_dflt (refine' sp_use (sp_law_number _ _ _ _ _ ?p1zz ?p2zz) ?k1zz ?k2zz ?k3zz ?k4zz ?k5zz ?kKzz ?kdzz ?kuzz ?_); k_extra "u1"; k_extra "u2"; (case p1zz => omega); (case p2zz => omega); k_extra "u3"; skip; k_extra "u4")); trivial)
example : True := by ((k_with "call ref" => (k_here; (with_reducible show wpAny _ _ (call (Value.ref 311) _) _ _ _); k_dflt (refine' sp_useV (sp_number_min _ _ _ _ _ _ _ _ _ ?p1zz ?p2zz ?p3zz ?p4zz ?p5zz) ?k1zz ?k2zz ?k3zz ?k4zz ?k5zz ?kKzz ?kdzz ?kuzz ?_); k_extra "u1"; k_extra "u2"; (case p5zz => k_mem); (case p3zz => first | assumption | exact NumIn.mono (by assumption) (by kcj_all)); (case p4zz => first | assumption | exact NumIn.mono (by assumption) (by kcj_all)); (case p1zz => assumption); (case p2zz => assumption); intro h9zz tk9zz F9zz N9zz; (try dsimp only); (try k_fold))); trivial)
example : True := by ((k_with "call ref" => (k_here; (with_reducible show wpAny _ _ (call (Value.ref 318) _) _ _ _); k_dflt (refine' sp_useV (sp_number_max _ _ _ _ _ _ _ _ _ ?p1zz ?p2zz ?p3zz ?p4zz ?p5zz) ?k1zz ?k2zz ?k3zz ?k4zz ?k5zz ?kKzz ?kdzz ?kuzz ?_); k_extra "u1"; k_extra "u2"; (case p5zz => k_mem); (case p3zz => first | assumption | exact NumIn.mono (by assumption) (by kcj_all)); (case p4zz => first | assumption | exact NumIn.mono (by assumption) (by kcj_all)); (case p1zz => assumption); (case p2zz => assumption); intro h9zz tk9zz F9zz N9zz; (try dsimp only); (try k_fold))); trivial)
example : True := by ((k_with "call ref" => (k_here; (with_reducible show wpAny _ _ (call (Value.ref 385) _) _ _ _); k_dflt (refine' sp_useV (sp_law_rises _ _ _ _ _ ?p1zz ?p2zz ?p3zz) ?k1zz ?k2zz ?k3zz ?k4zz ?k5zz ?kKzz ?kdzz ?kuzz ?_); k_extra "u1"; k_extra "u2"; (case p2zz => k_mem); (case p1zz => first | assumption | exact NumsIn.mono (by assumption) (by kcj_all) | k_extra "nums"); (case p3zz => first | assumption | k_extra "len"); intro h9zz tk9zz F9zz N9zz; (try dsimp only); (try k_fold))); trivial)
example : True := by ((k_with "call ref" => (k_here; (with_reducible show wpAny _ _ (call (Value.ref 380) _) _ _ _); k_dflt (refine' sp_useL (sp_law_led _ _ _ _ _ _ _ _ _ ?p1zz ?p2zz ?p3zz ?p4zz ?p5zz ?p6zz ?p7zz) ?k1zz ?k2zz ?k3zz ?k4zz ?k5zz ?kKzz ?kdzz ?kuzz ?_); k_extra "u1"; k_extra "u2"; (case p2zz => k_mem); (case p5zz => k_mem); (case p1zz => first | assumption | exact NumsIn.mono (by assumption) (by kcj_all) | k_extra "nums"); (case p3zz => first | assumption | k_extra "len"); (case p4zz => first | assumption | exact PairsIn.mono (by assumption) (by kcj_all)); (case p6zz => first | assumption | k_extra "pok"); (case p7zz => first | assumption | k_extra "len"); intro h9zz tk9zz F9zz D9zz k9zz N9zz l9zz; (try dsimp only); (try k_fold))); trivial)
example : True := by ((k_with "pyIter ref" => (first | k_extra "comp" | k_extra "for")); trivial)
example : True := by ((k_with "eval Name" => ((with_reducible show wpAny _ _ (eval _ (compEnvC _ _ _ _)) _ _ _); k_dflt (refine' comp_local ?Nzz ?hmzz ?nCzz ?hvzz ?_ ?azz ?bzz ?czz; (case bzz => exact rfl); (case azz => exact rfl); (case Nzz => k_asm); (case nCzz => assumption); (case hmzz => k_mem); (case hvzz => assumption); (case czz => decide)))); trivial)
example : True := by ((k_with "eval Name" => ((with_reducible show wpAny _ _ (eval _ (compEnvC _ _ _ _)) _ _ _); k_dflt (refine' comp_cell ?Nzz ?hmzz ?hd'zz ?_ ?azz ?bzz ?ezz ?czz; (case bzz => exact rfl); (case azz => exact rfl); (case ezz => exact rfl); (case Nzz => k_asm); (case hmzz => k_mem); (case hd'zz => assumption); (case czz => decide)))); trivial)
example : True := by ((k_with "exec Assign cons ListComp" => (k_dflt (refine' comp_assign ?aFzz ?a1zz ?a2zz ?a3zz ?a4zz ?a5zz ?a6zz ?a7zz ?a8zz ?_; (case aFzz => k_asm); (case a1zz => with_unfolding_all rfl); (case a2zz => with_unfolding_all rfl); (case a3zz => decide); (case a4zz => rfl); (case a5zz => decide); (case a6zz => intro _; with_unfolding_all rfl); (case a7zz => rfl); (case a8zz => rfl)))); trivial)
example : True := by ((k_with "eval ListComp" => (k_dflt (refine' comp_eval ?aFzz ?a2zz ?a3zz ?a4zz ?a5zz ?a6zz ?_; (case aFzz => k_asm); (case a2zz => with_unfolding_all rfl); (case a3zz => decide); (case a4zz => rfl); (case a5zz => decide); (case a6zz => intro _; with_unfolding_all rfl)))); trivial)
example : True := by ((k_with "call builtin:sorted" => (k_here; (with_reducible show wpAny _ _ (call (Value.builtin _) [Value.ref _]) _ _ _); (with_unfolding_all refine' kso_sorted ?k1zz ?k2zz ?k3zz ?k4zz ?k5zz ?_; (case k1zz => k_asm); (case k2zz => k_asm); (case k3zz => exact isListOf (by k_asm) (by k_mem)); (case k4zz => assumption); (case k5zz => assumption); k_whole); intro D'zz v'zz n'zz c'zz h'zz F'zz N'zz l1zz i'zz e'zz p'zz o'zz b'zz; (try k_lt l1zz); (try dsimp only))); trivial)
example : True := by ((k_with "compareOp Eq ref ref" => (k_here; (with_reducible show wpAny _ _ (compareOp CmpOp.Eq (Value.ref _) (Value.ref _)) _ _ _); k_dflt (refine' eq_intsK ?k1zz ?k2zz ?k3zz ?k4zz ?k5zz ?_; (case k1zz => exact isListOf (by k_asm) (by k_mem)); (case k3zz => exact isListOf (by k_asm) (by k_mem)); (case k2zz => assumption); (case k4zz => assumption); (case k5zz => ktr_units); k_whole))); trivial)
example : True := by ((k_with "exec For Tuple Name cons nil" => (k_here; (rename Fr _ _ _ _ => lF'zz); k_dflt (refine' For_invTF lF'zz ?_ ?hszz; (case hszz => intro _; with_unfolding_all rfl)))); trivial)
example : True := by ((k_with "k_all" => (assumption)); trivial)
example : True := by ((k_with "setItem ref int" => (k_here; k_dflt (refine' set_any ?k1zz ?k2zz ?k3zz ?k4zz ?k5zz ?k6zz ?_; (case k1zz => k_asm); (case k2zz => k_asm); (case k3zz => k_upd); (case k4zz => first | assumption | omega); (case k5zz => first | assumption | (simp only [List.length_set]; first | assumption | omega)); (case k6zz => omega); k_whole); intro h'zz F'zz N'zz; (try dsimp only))); trivial)
example : True := by ((k_with "subscriptTail Name Slice ref ref" => (k_here; k_dflt (refine' kmk_slice ?Fzz ?Nzz ?lzz ?pzz ?qzz ?_ ?szz ?tzz ?zzz; (case Fzz => k_asm); (case Nzz => k_asm); (case lzz => exact isListOf (by k_asm) (by k_mem)); (case pzz => kmk_part); (case qzz => kmk_part); (case szz => with_unfolding_all rfl); (case tzz => kmk_pure); (case zzz => (simp only [List.size_toArray, List.length_map, sizeLine_eq]; omega))); intro D'zz h'zz F'zz N'zz l1zz; (simp (disch := omega) only [pick_all, pick_upto, pick_from] at N'zz); (try k_lt l1zz); (try dsimp only))); trivial)
example : True := by ((k_with "eval ListComp" => (k_dflt (refine' comp2_eval ?aFzz ?a2zz ?a3zz ?a4zz ?a5zz ?b1zz ?b2zz ?b3zz ?b4zz ?a6zz ?_; (case aFzz => k_asm); (case a2zz => with_unfolding_all rfl); (case a3zz => decide); (case a4zz => rfl); (case a5zz => decide); (case b1zz => rfl); (case b2zz => rfl); (case b3zz => decide); (case b4zz => intro _ _; with_unfolding_all rfl); (case a6zz => intro _; with_unfolding_all rfl)))); trivial)
example : True := by ((k_with "exec Assign cons ListComp" => (k_dflt (refine' comp2_assign ?aFzz ?a1zz ?a2zz ?a3zz ?a4zz ?a5zz ?b1zz ?b2zz ?b3zz ?b4zz ?a6zz ?a7zz ?a8zz ?_; (case aFzz => k_asm); (case a1zz => with_unfolding_all rfl); (case a2zz => with_unfolding_all rfl); (case a3zz => decide); (case a4zz => rfl); (case a5zz => decide); (case b1zz => rfl); (case b2zz => rfl); (case b3zz => decide); (case b4zz => intro _ _; with_unfolding_all rfl); (case a6zz => intro _; with_unfolding_all rfl); (case a7zz => rfl); (case a8zz => rfl)))); trivial)
example : True := by ((k_with "len" => (first | assumption | omega | (rw [ledF_len]; omega))); trivial)
example : True := by ((k_with "pok" => (first | assumption | exact pok_of (by assumption) (by first | assumption | rw [ledF_len] | (rw [ledF_len]; assumption)))); trivial)
example : True := by ((k_with "nums" => (first | exact NumsIn.led (by assumption) _ | exact NumsIn.mono (NumsIn.led (by assumption) _) (by kcj_all))); trivial)
theorem len_any {prog : Program} {w : PySem.World} {A : Around} {E : Value → Shared → Prop} {s : Shared} {h₀ : Heap} {L D : Addr} {led : Led} {vs : List Value} {c n : Nat} {Q : Value → Shared → Prop} (N : News h₀ L s.heap led) (hm : (D, listOf vs.toArray c) ∈ led) (hs : vs.length = n) (hf : n < 2 ^ 62) (h : Q (.int (n : Nat) (s.toks + 1)) { s with toks := s.toks + 1 + 1 }) :
    wpAny (model prog w) A (call (.builtin "len") [.ref D]) Q E s := by
  have hl : s.heap.IsList D vs.toArray := isListOf N hm
  refine Calls.call_len_list hl (by rw [List.size_toArray]; omega) ?_
  rw [List.size_toArray, hs]
  exact h
theorem range_any {prog : Program} {w : PySem.World} {A : Around} {E : Value → Shared → Prop} {s : Shared} {h₀ : Heap} {L : Addr} {m : Str → Option Value} {led : Led} {n : Int} {t : Tok} {Q : Value → Shared → Prop} (F : Fr h₀ L s.heap m) (N : News h₀ L s.heap led)
    (h : ∀ D h' t0 t1 tk', Fr h₀ L h' m → News h₀ L h' ((D, rangeO 0 n 1 t0 t t1) :: led) → (∀ q ∈ led, q.1 < D) → Q (.ref D) { s with heap := h', toks := tk' }) :
    wpAny (model prog w) A (call (.type "range") [.int n t]) Q E s := by
  refine call_range_1 ?_
  refine h s.heap.objs.size _ s.toks (s.toks + 1) _ (F.push _) ?_ ?_
  · intro p hp
    rcases List.mem_cons.mp hp with rfl | hp
    · exact ⟨Heap.get?_push_size _ rfl, Nat.ne_of_gt F.ns.lt, next_is_new F⟩
    · exact ⟨Heap.get?_push_of_some _ (N p hp).1, (N p hp).2⟩
  · exact fun q hq => Heap.lt_size (N q hq).1
theorem range_size (n : Nat) : Builtin.Range.rangeSize 0 n 1 = (n : Int) := by
  unfold Builtin.Range.rangeSize
  rw [if_pos (by decide)]
  split <;> omega
theorem range_small {n : Nat} (h : n ≤ 60) : Builtin.Range.small 0 n 1 = true := small_one (by decide) (by decide) (by omega) (by omega)
theorem add_any {prog : Program} {w : PySem.World} {A : Around} {E : Value → Shared → Prop} {s : Shared} {h₀ : Heap} {L a b : Addr} {m : Str → Option Value} {led : Led} {vs ws : List Value} {c d : Nat} {Q : Value → Shared → Prop} (F : Fr h₀ L s.heap m) (N : News h₀ L s.heap led) (ha : (a, listOf vs.toArray c) ∈ led) (hb : (b, listOf ws.toArray d) ∈ led) (hz : vs.length + ws.length ≤ sizeLine)
    (h : ∀ D h', Fr h₀ L h' m → News h₀ L h' ((D, listOf (vs ++ ws).toArray 0) :: led) → (∀ p ∈ led, p.1 < D) → Q (.ref D) { s with heap := h' }) : wpAny (model prog w) A (binaryOp .Add (.ref a) (.ref b)) Q E s :=
  kmk_add_lit F N (isListOf N ha) (isListOf N hb) rfl h hz
theorem toNat_succ (i : Nat) : ((i : Int) + 1).toNat = i + 1 := by omega
example : True := by ((k_with "call builtin:len" => (k_here; (with_reducible show wpAny _ _ (call (Value.builtin "len") [Value.ref _]) _ _ _); k_dflt (refine' len_any ?k1zz ?k2zz ?k3zz ?k4zz ?_; (case k1zz => k_asm); (case k2zz => k_mem); (case k3zz => first | exact List.length_map .. | rfl); (case k4zz => first | omega | decide); k_whole))); trivial)
example : True := by ((k_with "call type:range" => (k_here; k_dflt (refine' range_any ?k1zz ?k2zz ?_; (case k1zz => k_asm); (case k2zz => k_asm)); intro D9zz h9zz ta9zz tb9zz tk9zz F9zz N9zz l9zz; (try k_lt l9zz); (try dsimp only); (try k_fold))); trivial)
example : True := by ((k_with "binaryOp Add ref ref" => (k_here; (with_reducible show wpAny _ _ (binaryOp _ (Value.ref _) (Value.ref _)) _ _ _); k_dflt (refine' add_any ?k1zz ?k2zz ?k3zz ?k4zz ?k5zz ?_; (case k1zz => k_asm); (case k2zz => k_asm); (case k3zz => k_mem); (case k4zz => k_mem); (case k5zz => (simp only [List.length_append, List.length_map, List.length_take, List.length_drop, List.length_cons, List.length_nil, sizeLine_eq]; omega))); intro D9zz h9zz F9zz N9zz l9zz; (try simp only [Int.toNat_natCast, toNat_succ, ← List.map_take, ← List.map_drop, ← List.map_append] at N9zz); (try k_lt l9zz); (try dsimp only); (try k_fold))); trivial)
/-- all arrangements -/
def arr : Nat → List VN → List (List VN)
  | 0, xs => [xs]
  | n + 1, xs => if xs.length < 2 then [xs] else (List.range xs.length).flatMap fun i => (arr n (xs.take i ++ xs.drop (i + 1))).map fun r => xs.getD i (.none, .i 0) :: r
def RowsAt (led : Led) (rows : List (Value × List VN)) : Prop := ∀ x ∈ rows, ∃ rr k, x.1 = .ref rr ∧ (rr, listOf (x.2.map (·.1)).toArray k) ∈ led
theorem RowsAt.mono {led led' : Led} {rows : List (Value × List VN)} (h : RowsAt led rows) (hs : ∀ p ∈ led, p ∈ led') : RowsAt led' rows := fun x hx => by
  obtain ⟨rr, k, a, b⟩ := h x hx
  exact ⟨rr, k, a, hs _ b⟩
theorem RowsAt.nil (led : Led) : RowsAt led [] := fun x h => nomatch h
def ArrIH (w : World) (n : Nat) : Prop := ∀ (ra : Addr) (xs : List VN) (kr : Nat) (news : Led), xs.length ≤ n + 1 → n ≤ 3 → (ra, listOf (xs.map (·.1)).toArray kr) ∈ news →
    Sp w (10 * n + 10) (200 * n + 200) 373 [.ref ra] news (fun r tl => ∃ D k' rows tl', r = .ref D ∧ tl = (D, listOf (rows.map (·.1)).toArray k') :: tl' ∧ RowsAt (tl' ++ [(ra, listOf (xs.map (·.1)).toArray kr)]) rows ∧ rows.map (·.2) = arr n xs)
theorem arr_use {w : World} {n : Nat} (h : ArrIH w n) (ra : Addr) (xs : List VN) (kr : Nat) (news : Led) (hz : xs.length ≤ n + 1) (hn : n ≤ 3) (hl : (ra, listOf (xs.map (·.1)).toArray kr) ∈ news) :
    Sp w (10 * n + 10) (200 * n + 200) 373 [.ref ra] news (fun r tl => ∃ D k' rows tl', r = .ref D ∧ tl = (D, listOf (rows.map (·.1)).toArray k') :: tl' ∧ RowsAt (tl' ++ [(ra, listOf (xs.map (·.1)).toArray kr)]) rows ∧ rows.map (·.2) = arr n xs) := h ra xs kr news hz hn hl
example : True := by ((k_with "call ref" => (k_here; (with_reducible show wpAny _ _ (call (Value.ref 373) _) _ _ _); k_dflt (refine' sp_use (arr_use ?q1zz _ _ _ _ ?p1zz ?p2zz ?p3zz) ?k1zz ?k2zz ?k3zz ?k4zz ?k5zz ?kKzz ?kdzz ?kuzz ?_); k_extra "u1"; (case q1zz => assumption); (case p3zz => k_mem); (case p1zz => (simp only [List.length_append, List.length_take, List.length_drop]; omega)); (case p2zz => omega); k_extra "u2"; k_extra "u3"; obtain ⟨D9zz, k9zz, z9zz, t9zz, r9zz, f9zz, n9zz, u9zz⟩ := o9zz; subst r9zz; subst f9zz; k_extra "u4")); trivial)
/-- the ledger has grown, and the rows lie in what is new -/
def GrownR (led₀ led : Led) (rows : List (Value × List VN)) : Prop := ∃ tl, led = tl ++ led₀ ∧ (∀ q ∈ led₀, ∀ p ∈ tl, q.1 < p.1) ∧ RowsAt tl rows
abbrev GrownR.base {led₀ led : Led} {rows : List (Value × List VN)} (_ : GrownR led₀ led rows) : Led := led₀
theorem GrownR.sub {led₀ led : Led} {rows : List (Value × List VN)} (h : GrownR led₀ led rows) : ∀ p ∈ led₀, p ∈ led := by
  obtain ⟨tl, rfl, _⟩ := h
  exact fun p hp => List.mem_append_right _ hp
theorem GrownR.more {led₀ led tl : Led} {rows : List (Value × List VN)} (h : GrownR led₀ led rows) (l : ∀ q ∈ led, ∀ p ∈ tl, q.1 < p.1) : GrownR led₀ (tl ++ led) rows := by
  obtain ⟨tl', rfl, h2, h3⟩ := h
  refine ⟨tl ++ tl', (List.append_assoc ..).symm, fun q hq p hp => ?_, h3.mono fun p hp => List.mem_append_right _ hp⟩
  rcases List.mem_append.mp hp with hp | hp
  · exact l q (List.mem_append_right _ hq) p hp
  · exact h2 q hq p hp
theorem GrownR.one {led₀ led tl : Led} {rows : List (Value × List VN)} {x : Value × List VN} (h : GrownR led₀ led rows) (l : ∀ q ∈ led, ∀ p ∈ tl, q.1 < p.1) (hx : RowsAt tl [x]) : GrownR led₀ (tl ++ led) (rows ++ [x]) := by
  obtain ⟨tl', rfl, h2, h3⟩ := h
  refine ⟨tl ++ tl', (List.append_assoc ..).symm, fun q hq p hp => ?_, fun y hy => ?_⟩
  · rcases List.mem_append.mp hp with hp | hp
    · exact l q (List.mem_append_right _ hq) p hp
    · exact h2 q hq p hp
  · rcases List.mem_append.mp hy with hy | hy
    · exact (h3.mono fun p hp => List.mem_append_right _ hp) y hy
    · exact (hx.mono fun p hp => List.mem_append_left _ hp) y hy
theorem GrownR.self (led : Led) : GrownR led led [] := ⟨[], rfl, (fun _ _ _ h => nomatch h), RowsAt.nil _⟩
theorem arr_tl {g h : Heap} {L : Addr} {a b c d : Addr × Obj} {t all : Led} (N : News g L h (a :: (t ++ b :: c :: d :: all))) (o1 : ∀ q ∈ b :: c :: d :: all, ∀ p ∈ a :: t, q.1 < p.1) (o2 : AllLt b.1 (c :: d :: all)) (o3 : AllLt c.1 (d :: all)) (o4 : AllLt d.1 all) : ∃ tl, tl = a :: (t ++ [b, c, d]) ∧ News g L h (tl ++ all) ∧ ∀ q ∈ all, ∀ p ∈ tl, q.1 < p.1 := by
  refine ⟨_, rfl, fun p hp => N p (by simpa using hp), fun q hq p hp => ?_⟩
  have h1 := o1 q (by simp [hq])
  rcases List.mem_cons.mp hp with rfl | hp
  · exact h1 _ (.head _)
  · rcases List.mem_append.mp hp with hp | hp
    · exact h1 _ (.tail _ hp)
    · simp only [List.mem_cons, List.not_mem_nil, or_false] at hp
      rcases hp with rfl | rfl | rfl
      · exact ktn_ltOf o2 q (by simp [hq])
      · exact ktn_ltOf o3 q (by simp [hq])
      · exact ktn_ltOf o4 q hq
theorem ord_one {D : Addr} {o : Obj} {led news : Led} (h : ∀ p ∈ led, p.1 < D) (s : ∀ p ∈ news, p ∈ led) : ∀ q ∈ news, ∀ p ∈ [(D, o)], q.1 < p.1 := fun q hq p hp => by rw [List.mem_singleton.mp hp]; exact h q (s q hq)
theorem ord_two {a b : Addr × Obj} {all : Led} (o2 : AllLt a.1 (b :: all)) (o1 : AllLt b.1 all) : ∀ q ∈ all, ∀ p ∈ [a, b], q.1 < p.1 := by
  intro q hq p hp
  simp only [List.mem_cons, List.not_mem_nil, or_false] at hp
  rcases hp with rfl | rfl
  · exact ktn_ltOf o2 q (.tail _ hq)
  · exact ktn_ltOf o1 q hq
theorem arr_len : ∀ (n : Nat) (xs : List VN), ∀ r ∈ arr n xs, r.length = xs.length
  | 0, xs, r, h => by rw [List.mem_singleton.mp h]
  | n + 1, xs, r, h => by
    rw [arr] at h
    split at h
    · rw [List.mem_singleton.mp h]
    · obtain ⟨i, hi, hr⟩ := List.mem_flatMap.mp h
      obtain ⟨r', hr', rfl⟩ := List.mem_map.mp hr
      have := arr_len n _ r' hr'
      rw [List.length_cons, this, List.length_append, List.length_take, List.length_drop]
      have := List.mem_range.mp hi
      omega
theorem flat_len {f : Nat → List (List VN)} {B : Nat} : ∀ (k : Nat), (∀ i, i < k → (f i).length ≤ B) → ((List.range k).flatMap f).length ≤ k * B
  | 0, _ => by simp
  | k + 1, h => by
    rw [List.range_succ, List.flatMap_append, List.length_append]
    have h1 := flat_len k fun i hi => h i (Nat.lt_succ_of_lt hi)
    have h2 := h k (Nat.lt_succ_self _)
    simp only [List.flatMap_cons, List.flatMap_nil, List.append_nil, Nat.add_mul, Nat.one_mul]
    omega
theorem arr_count : ∀ (n : Nat) (xs : List VN), xs.length ≤ 10 → (arr n xs).length ≤ 10 ^ n
  | 0, xs, _ => by simp [arr]
  | n + 1, xs, h => by
    rw [arr]
    split
    · exact Nat.pow_pos (by decide)
    · refine Nat.le_trans (flat_len _ fun i hi => ?_) (Nat.le_trans (Nat.mul_le_mul_right (10 ^ n) h) (by rw [Nat.pow_succ, Nat.mul_comm]; exact Nat.le_refl _))
      rw [List.length_map]
      refine arr_count n _ ?_
      rw [List.length_append, List.length_take, List.length_drop]
      omega
theorem arr_sz {n i : Nat} {xs : List VN} {z rows : List (Value × List VN)} (hn : n ≤ 2) (hx : xs.length ≤ 10) (hi : i < xs.length) (u : z.map (·.2) = arr n (xs.take i ++ xs.drop (i + 1))) (hr : rows.map (·.2) = (List.range i).flatMap fun i => (arr n (xs.take i ++ xs.drop (i + 1))).map fun r => xs.getD i (.none, .i 0) :: r) : (z.map (·.1)).length + (rows.map (·.1)).length ≤ sizeLine := by
  have h1 := congrArg List.length u
  have h2 := congrArg List.length hr
  rw [List.length_map] at h1 h2
  rw [List.length_map, List.length_map, h1, h2, sizeLine_eq]
  have cut : ∀ j, (xs.take j ++ xs.drop (j + 1)).length ≤ 10 := fun j => by rw [List.length_append, List.length_take, List.length_drop]; omega
  have h3 := arr_count n _ (cut i)
  have h4 := flat_len (f := fun i => (arr n (xs.take i ++ xs.drop (i + 1))).map fun r => xs.getD i (.none, .i 0) :: r) (B := 10 ^ n) i fun j _ => by rw [List.length_map]; exact arr_count n _ (cut j)
  have h5 : 10 ^ n ≤ 10 ^ 2 := Nat.pow_le_pow_right (by decide) hn
  have h6 : i * 10 ^ n ≤ 10 * 10 ^ 2 := Nat.mul_le_mul (by omega) h5
  omega
theorem sp_arr (w : World) : ∀ (n : Nat), ArrIH w n := by
  intro n
  induction n with
  | zero =>
    unfold ArrIH
    intro ra xs kr news hz hn hl
    unfold Sp
    intro p loose mean mg mb dp un gd cn cs a ccd cl outer A₀ base h₀ L m s Q E B F X N T hk hd hu hret
    refine wpAny_call ?_
    k_dflt (refine' code_defC ?k1 ?k2 ?k3 ?k4 ?k5 ?kA ?kF ?kK ?k6 ?k7 ?k8 ?k9 ?kB ?kD ?_ ?c2 ?c3 ?c4; (case kA => exact rfl); (case kF => exact rfl); (case kK => assumption); (case k1 => k_asm); (case k2 => k_asm); (case k3 => k_asm); (case k4 => k_asm); (case k5 => k_asm); (case k6 => k_is); (case k7 => k_is); (case k8 => ktr_room); (case k9 => exact BindsTo.of_eq rfl); (case kB => exact rfl); (case kD => decide +kernel); (case c2 => exact rfl); (case c3 => exact rfl); (case c4 => exact rfl); k_whole)
    intro g' L' h' tk' cells' FG' F' N' Y' B' X' T' l1
    k_cells Y'
    (try dsimp only)
    (try k_fold)
    repeat' (first | (k_unfold; (try dsimp only)) | walk1 | (dsimp only; walk1) | (leave1; try dsimp only))
    all_goals exact hret _ [_] _ _ (by k_asm) (cb_drop (by assumption) (by kcj_all)) (ord_one (by assumption) (by kcj_all)) ⟨_, _, [(.ref ra, xs)], [], rfl, rfl, (fun x hx => by rw [List.mem_singleton.mp hx]; exact ⟨_, _, rfl, .head _⟩), rfl⟩
  | succ n ih =>
    unfold ArrIH
    intro ra xs kr news hz hn hl
    unfold Sp
    intro p loose mean mg mb dp un gd cn cs a ccd cl outer A₀ base h₀ L m s Q E B F X N T hk hd hu hret
    refine wpAny_call ?_
    k_dflt (refine' code_defC ?k1 ?k2 ?k3 ?k4 ?k5 ?kA ?kF ?kK ?k6 ?k7 ?k8 ?k9 ?kB ?kD ?_ ?c2 ?c3 ?c4; (case kA => exact rfl); (case kF => exact rfl); (case kK => assumption); (case k1 => k_asm); (case k2 => k_asm); (case k3 => k_asm); (case k4 => k_asm); (case k5 => k_asm); (case k6 => k_is); (case k7 => k_is); (case k8 => ktr_room); (case k9 => exact BindsTo.of_eq rfl); (case kB => exact rfl); (case kD => decide +kernel); (case c2 => exact rfl); (case c3 => exact rfl); (case c4 => exact rfl); k_whole)
    intro g' L' h' tk' cells' FG' F' N' Y' B' X' T' l1
    k_cells Y'
    (try dsimp only)
    (try k_fold)
    k_with "comp" => refine comp2_range (fun led₀ i ys led => ∃ rows, ys = rows.map (·.1) ∧ GrownR led₀ led rows ∧ rows.map (·.2) = (List.range i).flatMap fun i => (arr n (xs.take i ++ xs.drop (i + 1))).map fun r => xs.getD i (.none, .i 0) :: r) rfl (by k_asm) (by k_asm) (by k_mem) (held ?hs) (held ?hn) (held ?h0) (held ?ok) (held ?dn)
    repeat' (first | (k_unfold; (try dsimp only)) | walk1 | (dsimp only; walk1) | (leave1; try dsimp only))
    case hs => exact range_small (by omega)
    case hn => exact range_size _
    case h0 => exact ⟨[], rfl, GrownR.self _, rfl⟩
    case ok =>
      intro C i tv ys led' own oC m₂ h tk E' hi hI Fc Nc nC hm₂
      obtain ⟨rows, rfl, hg, hrs⟩ := hI
      have hs := hg.sub
      have hc1 := hs _ (.tail _ (.head _))
      have hl' := hs _ (.tail _ (.tail _ hl))
      repeat' (first | (k_unfold; (try dsimp only)) | walk1 | (dsimp only; walk1) | (leave1; try dsimp only))
      have D'zz := True.intro; have h'zz := True.intro; have F'zz := True.intro; have N'zz := True.intro; have l1zz := True.intro; have h9zz := True.intro; have tk9zz := True.intro; have F9zz := True.intro; have D9zz := True.intro; have k9zz := True.intro; have z9zz := True.intro; have t9zz := True.intro; have n9zz := True.intro; have u9zz := True.intro; have N9zz := True.intro; have l9zz := True.intro -- ok
      rename_i D2 h2 F2 N2 l2 D3 h3 F3 N3 l3 D4 h4 F4 N4 l4 h5 tk5 F5 D5 k5 z5 t5 n5 u5 N5 l5 -- ok
      obtain ⟨tl1, e1, hN, hO⟩ := arr_tl N5 l5 l4 l3 l2
      refine in_list (tl := tl1) (vs := z5.map (·.1)) (fun j ys led => (∀ p ∈ tl1, p ∈ led) ∧ (∀ p ∈ hg.base, p ∈ led) ∧ ∃ rows', ys = rows'.map (·.1) ∧ GrownR hg.base led rows' ∧ rows'.map (·.2) = rows.map (·.2) ++ ((z5.take j).map (·.2)).map fun r => xs.getD i (.none, .i 0) :: r) rfl F5 hN hO (by rw [e1]; exact .head _) (held ?sz) ?i0 ?iend (held ?turn)
      case sz => exact arr_sz (by omega) (by omega) hi u5 hrs
      case i0 => exact ⟨fun p hp => List.mem_append_left _ hp, fun p hp => List.mem_append_right _ (hs p hp), rows, rfl, hg.more (fun q hq p hp => hO q (List.mem_cons_of_mem _ (List.mem_append_right _ hq)) p hp), by simp⟩
      case iend =>
        rintro ys' led'' ⟨_, _, rows', rfl, hg', hrs'⟩
        refine ⟨rows', rfl, hg', ?_⟩
        rw [hrs', hrs, List.length_map, List.take_length, u5, List.range_succ, List.flatMap_append]
        simp
      case turn =>
        intro j v1 ys led own' oC' m₃ h tk E'' hv1 hI1 F N nC hx hy
        obtain ⟨hs1, hs2, rows', rfl, hg', hrs'⟩ := hI1
        obtain ⟨y1, hy1, rfl⟩ : ∃ x, z5[j]? = some x ∧ x.1 = v1 := by simpa using hv1
        obtain ⟨rr, kk, er, hr⟩ := n5 y1 (List.mem_of_getElem? hy1)
        have hr1 : (rr, listOf (y1.2.map (·.1)).toArray kk) ∈ led := hs1 _ (by
          rw [e1]
          rcases List.mem_append.mp hr with hr | hr
          · exact .tail _ (List.mem_append_left _ hr)
          · exact .tail _ (List.mem_append_right _ (by rw [List.mem_singleton.mp hr]; exact .head _)))
        have hc2 := hs2 _ (.tail _ (.head _))
        have hl2 := hs2 _ (.tail _ (.tail _ hl))
        have hix : (xs.map (·.1))[i]? = some xs[i].1 := by rw [List.getElem?_map, List.getElem?_eq_getElem hi]; rfl
        have hi1 : (i : Int) < ((xs.map (·.1)).length : Int) := by rw [List.length_map]; omega
        rw [er] at hy
        have hyl : y1.2.length ≤ 10 := by
          have q := arr_len n _ y1.2 (by rw [← u5]; exact List.mem_map_of_mem (List.mem_of_getElem? hy1))
          rw [q, List.length_append, List.length_take, List.length_drop]; omega
        repeat' (first | (k_unfold; (try dsimp only)) | walk1 | (dsimp only; walk1) | (leave1; try dsimp only))
        have D9zz := True.intro; have h9zz := True.intro; have F9zz := True.intro; have N9zz := True.intro; have l9zz := True.intro -- ok
        rename_i ln hn6 Fn Nn on D9 h9 F9 N9 l9 -- ok
        have hO9 := ord_two (all := (C, oC') :: (own' ++ led)) (a := (D9, listOf ([xs[i].1] ++ List.map (fun x => x.1) y1.2).toArray 0)) (b := (ln, listOf #[xs[i].1] 0)) l9 on
        refine PStep.intro [_, _] F9 N9 hO9 ⟨fun p hp => List.mem_append_right _ (hs1 p hp), fun p hp => List.mem_append_right _ (hs2 p hp), rows' ++ [(.ref D9, xs[i] :: y1.2)], by rw [List.map_append]; rfl, hg'.one (fun q hq p hp => hO9 q (List.mem_cons_of_mem _ (List.mem_append_right _ hq)) p hp) (fun z hz => by rw [List.mem_singleton.mp hz]; exact ⟨D9, 0, rfl, .head _⟩), ?_⟩
        rw [List.map_append, hrs', List.take_add_one, hy1, List.getD_eq_getElem?_getD, List.getElem?_eq_getElem hi]
        simp
    case dn =>
      intro D ys led' k' h' tk' hInv F9 N9 hne hlt9
      obtain ⟨rows, rfl, ⟨tl9, rfl, ho, hrows⟩, hrs⟩ := hInv
      repeat' (first | (k_unfold; (try dsimp only)) | walk1 | (dsimp only; walk1) | (leave1; try dsimp only))
      refine hret _ ((D, listOf (rows.map (·.1)).toArray k') :: tl9) _ _ (by k_asm) (cb_drop (by assumption) (by kcj_all)) ?_ ⟨D, k', rows, tl9, rfl, rfl, hrows.mono fun p hp => List.mem_append_left _ hp, ?_⟩
      · intro q hq p hp
        rcases List.mem_cons.mp hp with rfl | hp
        · exact hlt9 q (.tail _ (List.mem_append_right _ hq))
        · exact ho q (.tail _ (List.mem_append_right _ hq)) p hp
      · rw [hrs, arr, if_neg (by omega)]
    all_goals exact hret _ [_] _ _ (by k_asm) (cb_drop (by assumption) (by kcj_all)) (ord_one (by assumption) (by kcj_all)) ⟨_, _, [(.ref ra, xs)], [], rfl, rfl, (fun x hx => by rw [List.mem_singleton.mp hx]; exact ⟨_, _, rfl, .head _⟩), by rw [arr, if_pos (by omega)]; rfl⟩
end Mine
end
section
open PySem PySem.W PyProof.Rows
set_option maxRecDepth 100000
set_option maxHeartbeats 4000000
set_option linter.unusedVariables false
set_option linter.unusedSimpArgs false
namespace Mine
example : True := by (k_with_none; trivial)
def bitsU : Nat → List (List Int)
  | 0 => [[]]
  | n + 1 => (bitsU n).flatMap fun r => [r ++ [0], r ++ [100]]
theorem mem_bitsU : ∀ (n : Nat) (l : List Int), l.length = n → (∀ x ∈ l, x = 0 ∨ x = 100) → l ∈ bitsU n
  | 0, l, hl, _ => by rw [List.length_eq_zero_iff.mp hl]; exact .head _
  | n + 1, l, hl, h => by
    rcases List.eq_nil_or_concat l with rfl | ⟨r, x, rfl⟩
    · simp at hl
    · rw [List.concat_eq_append] at hl h ⊢
      have ih := mem_bitsU n r (by simpa using hl) fun y hy => h y (List.mem_append_left _ hy)
      refine List.mem_flatMap.mpr ⟨r, ih, ?_⟩
      rcases h x (List.mem_append_right _ (.head _)) with rfl | rfl
      · exact .head _
      · exact .tail _ (.head _)
theorem thr_bit (c : Int) (us : List Int) : ∀ x ∈ us.map (thr c), x = 0 ∨ x = 100 := fun x hx => by
  obtain ⟨u, _, rfl⟩ := List.mem_map.mp hx
  unfold thr; split <;> simp
theorem sorts_thr {ps : List (Int × Int)} {us : List Int} (c : Int) (h : sortsU ps us = true) : sortsU ps (us.map (thr c)) = true := by
  unfold sortsU at *
  rw [ledU_map (thr_mono c)]
  exact decide_eq_true (pw_map (thr_mono c) (of_decide_eq_true h))
/-- Knuth's principle, for a list of arrangements that reaches each row of noughts and ones -/
theorem knuth {ps : List (Int × Int)} {n : Nat} {rs : List (List Int)} (hl : ∀ r ∈ rs, r.length = n) (hb : ∀ b ∈ bitsU n, ∃ r ∈ rs, ∃ c, b = r.map (thr c)) : rs.all (sortsU ps) = (bitsU n).all (sortsU ps) := by
  rw [Bool.eq_iff_iff, List.all_eq_true, List.all_eq_true]
  constructor
  · intro h b hm
    obtain ⟨r, hr, c, rfl⟩ := hb b hm
    exact sorts_thr c (h r hr)
  · intro h r hr
    exact zero_one fun c => h _ (mem_bitsU n _ (by rw [List.length_map]; exact hl r hr) (thr_bit c r))
theorem thr_pos {c u : Int} (h : c ≤ u) : thr c u = 100 := if_pos h
theorem thr_neg {c u : Int} (h : u < c) : thr c u = 0 := if_neg (by omega)
def perm3 {α : Type} (a b c : α) : List (List α) := [[a, b, c], [a, c, b], [b, a, c], [b, c, a], [c, a, b], [c, b, a]]
theorem arr_three (a b c : VN) : arr 3 [a, b, c] = perm3 a b c := by rfl
theorem m3 {t a b c x0 x1 x2 : Int} (h0 : thr t a = x0) (h1 : thr t b = x1) (h2 : thr t c = x2) : [x0, x1, x2] = [a, b, c].map (thr t) := by
  subst h0 h1 h2; rfl
theorem bits_three {a b c : Int} (h1 : a < b) (h2 : b < c) : ∀ x ∈ bitsU 3, ∃ r ∈ perm3 a b c, ∃ t, x = r.map (thr t) := by
  have e1 : a < c := Int.lt_trans h1 h2
  have g0 : a < c + 1 := Int.lt_add_one_of_le (Int.le_of_lt (by assumption))
  have g1 : b < c + 1 := Int.lt_add_one_of_le (Int.le_of_lt (by assumption))
  have g2 : c < c + 1 := Int.lt_succ _
  show ∀ x ∈ ([[0, 0, 0], [0, 0, 100], [0, 100, 0], [0, 100, 100], [100, 0, 0], [100, 0, 100], [100, 100, 0], [100, 100, 100]] : List (List Int)), _
  refine List.forall_mem_cons.mpr ⟨⟨[a, b, c], List.mem_of_getElem? (i := 0) rfl, c + 1, m3 (by first | exact thr_pos (Int.le_refl _) | exact thr_neg (by assumption) | exact thr_pos (Int.le_of_lt (by assumption))) (by first | exact thr_pos (Int.le_refl _) | exact thr_neg (by assumption) | exact thr_pos (Int.le_of_lt (by assumption))) (by first | exact thr_pos (Int.le_refl _) | exact thr_neg (by assumption) | exact thr_pos (Int.le_of_lt (by assumption)))⟩, ?_⟩
  refine List.forall_mem_cons.mpr ⟨⟨[a, b, c], List.mem_of_getElem? (i := 0) rfl, c, m3 (by first | exact thr_pos (Int.le_refl _) | exact thr_neg (by assumption) | exact thr_pos (Int.le_of_lt (by assumption))) (by first | exact thr_pos (Int.le_refl _) | exact thr_neg (by assumption) | exact thr_pos (Int.le_of_lt (by assumption))) (by first | exact thr_pos (Int.le_refl _) | exact thr_neg (by assumption) | exact thr_pos (Int.le_of_lt (by assumption)))⟩, ?_⟩
  refine List.forall_mem_cons.mpr ⟨⟨[a, c, b], List.mem_of_getElem? (i := 1) rfl, c, m3 (by first | exact thr_pos (Int.le_refl _) | exact thr_neg (by assumption) | exact thr_pos (Int.le_of_lt (by assumption))) (by first | exact thr_pos (Int.le_refl _) | exact thr_neg (by assumption) | exact thr_pos (Int.le_of_lt (by assumption))) (by first | exact thr_pos (Int.le_refl _) | exact thr_neg (by assumption) | exact thr_pos (Int.le_of_lt (by assumption)))⟩, ?_⟩
  refine List.forall_mem_cons.mpr ⟨⟨[a, b, c], List.mem_of_getElem? (i := 0) rfl, b, m3 (by first | exact thr_pos (Int.le_refl _) | exact thr_neg (by assumption) | exact thr_pos (Int.le_of_lt (by assumption))) (by first | exact thr_pos (Int.le_refl _) | exact thr_neg (by assumption) | exact thr_pos (Int.le_of_lt (by assumption))) (by first | exact thr_pos (Int.le_refl _) | exact thr_neg (by assumption) | exact thr_pos (Int.le_of_lt (by assumption)))⟩, ?_⟩
  refine List.forall_mem_cons.mpr ⟨⟨[c, a, b], List.mem_of_getElem? (i := 4) rfl, c, m3 (by first | exact thr_pos (Int.le_refl _) | exact thr_neg (by assumption) | exact thr_pos (Int.le_of_lt (by assumption))) (by first | exact thr_pos (Int.le_refl _) | exact thr_neg (by assumption) | exact thr_pos (Int.le_of_lt (by assumption))) (by first | exact thr_pos (Int.le_refl _) | exact thr_neg (by assumption) | exact thr_pos (Int.le_of_lt (by assumption)))⟩, ?_⟩
  refine List.forall_mem_cons.mpr ⟨⟨[b, a, c], List.mem_of_getElem? (i := 2) rfl, b, m3 (by first | exact thr_pos (Int.le_refl _) | exact thr_neg (by assumption) | exact thr_pos (Int.le_of_lt (by assumption))) (by first | exact thr_pos (Int.le_refl _) | exact thr_neg (by assumption) | exact thr_pos (Int.le_of_lt (by assumption))) (by first | exact thr_pos (Int.le_refl _) | exact thr_neg (by assumption) | exact thr_pos (Int.le_of_lt (by assumption)))⟩, ?_⟩
  refine List.forall_mem_cons.mpr ⟨⟨[b, c, a], List.mem_of_getElem? (i := 3) rfl, b, m3 (by first | exact thr_pos (Int.le_refl _) | exact thr_neg (by assumption) | exact thr_pos (Int.le_of_lt (by assumption))) (by first | exact thr_pos (Int.le_refl _) | exact thr_neg (by assumption) | exact thr_pos (Int.le_of_lt (by assumption))) (by first | exact thr_pos (Int.le_refl _) | exact thr_neg (by assumption) | exact thr_pos (Int.le_of_lt (by assumption)))⟩, ?_⟩
  refine List.forall_mem_cons.mpr ⟨⟨[a, b, c], List.mem_of_getElem? (i := 0) rfl, a, m3 (by first | exact thr_pos (Int.le_refl _) | exact thr_neg (by assumption) | exact thr_pos (Int.le_of_lt (by assumption))) (by first | exact thr_pos (Int.le_refl _) | exact thr_neg (by assumption) | exact thr_pos (Int.le_of_lt (by assumption))) (by first | exact thr_pos (Int.le_refl _) | exact thr_neg (by assumption) | exact thr_pos (Int.le_of_lt (by assumption)))⟩, ?_⟩
  exact List.forall_mem_nil _
def perm4 {α : Type} (a b c d : α) : List (List α) := [[a, b, c, d], [a, b, d, c], [a, c, b, d], [a, c, d, b], [a, d, b, c], [a, d, c, b], [b, a, c, d], [b, a, d, c], [b, c, a, d], [b, c, d, a], [b, d, a, c], [b, d, c, a], [c, a, b, d], [c, a, d, b], [c, b, a, d], [c, b, d, a], [c, d, a, b], [c, d, b, a], [d, a, b, c], [d, a, c, b], [d, b, a, c], [d, b, c, a], [d, c, a, b], [d, c, b, a]]
theorem arr_four (a b c d : VN) : arr 3 [a, b, c, d] = perm4 a b c d := by rfl
theorem m4 {t a b c d x0 x1 x2 x3 : Int} (h0 : thr t a = x0) (h1 : thr t b = x1) (h2 : thr t c = x2) (h3 : thr t d = x3) : [x0, x1, x2, x3] = [a, b, c, d].map (thr t) := by
  subst h0 h1 h2 h3; rfl
theorem bits_four {a b c d : Int} (h1 : a < b) (h2 : b < c) (h3 : c < d) : ∀ x ∈ bitsU 4, ∃ r ∈ perm4 a b c d, ∃ t, x = r.map (thr t) := by
  have e1 : a < c := Int.lt_trans h1 h2
  have e2 : b < d := Int.lt_trans h2 h3
  have e3 : a < d := Int.lt_trans e1 h3
  have g0 : a < d + 1 := Int.lt_add_one_of_le (Int.le_of_lt (by assumption))
  have g1 : b < d + 1 := Int.lt_add_one_of_le (Int.le_of_lt (by assumption))
  have g2 : c < d + 1 := Int.lt_add_one_of_le (Int.le_of_lt (by assumption))
  have g3 : d < d + 1 := Int.lt_succ _
  show ∀ x ∈ ([[0, 0, 0, 0], [0, 0, 0, 100], [0, 0, 100, 0], [0, 0, 100, 100], [0, 100, 0, 0], [0, 100, 0, 100], [0, 100, 100, 0], [0, 100, 100, 100], [100, 0, 0, 0], [100, 0, 0, 100], [100, 0, 100, 0], [100, 0, 100, 100], [100, 100, 0, 0], [100, 100, 0, 100], [100, 100, 100, 0], [100, 100, 100, 100]] : List (List Int)), _
  refine List.forall_mem_cons.mpr ⟨⟨[a, b, c, d], List.mem_of_getElem? (i := 0) rfl, d + 1, m4 (by first | exact thr_pos (Int.le_refl _) | exact thr_neg (by assumption) | exact thr_pos (Int.le_of_lt (by assumption))) (by first | exact thr_pos (Int.le_refl _) | exact thr_neg (by assumption) | exact thr_pos (Int.le_of_lt (by assumption))) (by first | exact thr_pos (Int.le_refl _) | exact thr_neg (by assumption) | exact thr_pos (Int.le_of_lt (by assumption))) (by first | exact thr_pos (Int.le_refl _) | exact thr_neg (by assumption) | exact thr_pos (Int.le_of_lt (by assumption)))⟩, ?_⟩
  refine List.forall_mem_cons.mpr ⟨⟨[a, b, c, d], List.mem_of_getElem? (i := 0) rfl, d, m4 (by first | exact thr_pos (Int.le_refl _) | exact thr_neg (by assumption) | exact thr_pos (Int.le_of_lt (by assumption))) (by first | exact thr_pos (Int.le_refl _) | exact thr_neg (by assumption) | exact thr_pos (Int.le_of_lt (by assumption))) (by first | exact thr_pos (Int.le_refl _) | exact thr_neg (by assumption) | exact thr_pos (Int.le_of_lt (by assumption))) (by first | exact thr_pos (Int.le_refl _) | exact thr_neg (by assumption) | exact thr_pos (Int.le_of_lt (by assumption)))⟩, ?_⟩
  refine List.forall_mem_cons.mpr ⟨⟨[a, b, d, c], List.mem_of_getElem? (i := 1) rfl, d, m4 (by first | exact thr_pos (Int.le_refl _) | exact thr_neg (by assumption) | exact thr_pos (Int.le_of_lt (by assumption))) (by first | exact thr_pos (Int.le_refl _) | exact thr_neg (by assumption) | exact thr_pos (Int.le_of_lt (by assumption))) (by first | exact thr_pos (Int.le_refl _) | exact thr_neg (by assumption) | exact thr_pos (Int.le_of_lt (by assumption))) (by first | exact thr_pos (Int.le_refl _) | exact thr_neg (by assumption) | exact thr_pos (Int.le_of_lt (by assumption)))⟩, ?_⟩
  refine List.forall_mem_cons.mpr ⟨⟨[a, b, c, d], List.mem_of_getElem? (i := 0) rfl, c, m4 (by first | exact thr_pos (Int.le_refl _) | exact thr_neg (by assumption) | exact thr_pos (Int.le_of_lt (by assumption))) (by first | exact thr_pos (Int.le_refl _) | exact thr_neg (by assumption) | exact thr_pos (Int.le_of_lt (by assumption))) (by first | exact thr_pos (Int.le_refl _) | exact thr_neg (by assumption) | exact thr_pos (Int.le_of_lt (by assumption))) (by first | exact thr_pos (Int.le_refl _) | exact thr_neg (by assumption) | exact thr_pos (Int.le_of_lt (by assumption)))⟩, ?_⟩
  refine List.forall_mem_cons.mpr ⟨⟨[a, d, b, c], List.mem_of_getElem? (i := 4) rfl, d, m4 (by first | exact thr_pos (Int.le_refl _) | exact thr_neg (by assumption) | exact thr_pos (Int.le_of_lt (by assumption))) (by first | exact thr_pos (Int.le_refl _) | exact thr_neg (by assumption) | exact thr_pos (Int.le_of_lt (by assumption))) (by first | exact thr_pos (Int.le_refl _) | exact thr_neg (by assumption) | exact thr_pos (Int.le_of_lt (by assumption))) (by first | exact thr_pos (Int.le_refl _) | exact thr_neg (by assumption) | exact thr_pos (Int.le_of_lt (by assumption)))⟩, ?_⟩
  refine List.forall_mem_cons.mpr ⟨⟨[a, c, b, d], List.mem_of_getElem? (i := 2) rfl, c, m4 (by first | exact thr_pos (Int.le_refl _) | exact thr_neg (by assumption) | exact thr_pos (Int.le_of_lt (by assumption))) (by first | exact thr_pos (Int.le_refl _) | exact thr_neg (by assumption) | exact thr_pos (Int.le_of_lt (by assumption))) (by first | exact thr_pos (Int.le_refl _) | exact thr_neg (by assumption) | exact thr_pos (Int.le_of_lt (by assumption))) (by first | exact thr_pos (Int.le_refl _) | exact thr_neg (by assumption) | exact thr_pos (Int.le_of_lt (by assumption)))⟩, ?_⟩
  refine List.forall_mem_cons.mpr ⟨⟨[a, c, d, b], List.mem_of_getElem? (i := 3) rfl, c, m4 (by first | exact thr_pos (Int.le_refl _) | exact thr_neg (by assumption) | exact thr_pos (Int.le_of_lt (by assumption))) (by first | exact thr_pos (Int.le_refl _) | exact thr_neg (by assumption) | exact thr_pos (Int.le_of_lt (by assumption))) (by first | exact thr_pos (Int.le_refl _) | exact thr_neg (by assumption) | exact thr_pos (Int.le_of_lt (by assumption))) (by first | exact thr_pos (Int.le_refl _) | exact thr_neg (by assumption) | exact thr_pos (Int.le_of_lt (by assumption)))⟩, ?_⟩
  refine List.forall_mem_cons.mpr ⟨⟨[a, b, c, d], List.mem_of_getElem? (i := 0) rfl, b, m4 (by first | exact thr_pos (Int.le_refl _) | exact thr_neg (by assumption) | exact thr_pos (Int.le_of_lt (by assumption))) (by first | exact thr_pos (Int.le_refl _) | exact thr_neg (by assumption) | exact thr_pos (Int.le_of_lt (by assumption))) (by first | exact thr_pos (Int.le_refl _) | exact thr_neg (by assumption) | exact thr_pos (Int.le_of_lt (by assumption))) (by first | exact thr_pos (Int.le_refl _) | exact thr_neg (by assumption) | exact thr_pos (Int.le_of_lt (by assumption)))⟩, ?_⟩
  refine List.forall_mem_cons.mpr ⟨⟨[d, a, b, c], List.mem_of_getElem? (i := 18) rfl, d, m4 (by first | exact thr_pos (Int.le_refl _) | exact thr_neg (by assumption) | exact thr_pos (Int.le_of_lt (by assumption))) (by first | exact thr_pos (Int.le_refl _) | exact thr_neg (by assumption) | exact thr_pos (Int.le_of_lt (by assumption))) (by first | exact thr_pos (Int.le_refl _) | exact thr_neg (by assumption) | exact thr_pos (Int.le_of_lt (by assumption))) (by first | exact thr_pos (Int.le_refl _) | exact thr_neg (by assumption) | exact thr_pos (Int.le_of_lt (by assumption)))⟩, ?_⟩
  refine List.forall_mem_cons.mpr ⟨⟨[c, a, b, d], List.mem_of_getElem? (i := 12) rfl, c, m4 (by first | exact thr_pos (Int.le_refl _) | exact thr_neg (by assumption) | exact thr_pos (Int.le_of_lt (by assumption))) (by first | exact thr_pos (Int.le_refl _) | exact thr_neg (by assumption) | exact thr_pos (Int.le_of_lt (by assumption))) (by first | exact thr_pos (Int.le_refl _) | exact thr_neg (by assumption) | exact thr_pos (Int.le_of_lt (by assumption))) (by first | exact thr_pos (Int.le_refl _) | exact thr_neg (by assumption) | exact thr_pos (Int.le_of_lt (by assumption)))⟩, ?_⟩
  refine List.forall_mem_cons.mpr ⟨⟨[c, a, d, b], List.mem_of_getElem? (i := 13) rfl, c, m4 (by first | exact thr_pos (Int.le_refl _) | exact thr_neg (by assumption) | exact thr_pos (Int.le_of_lt (by assumption))) (by first | exact thr_pos (Int.le_refl _) | exact thr_neg (by assumption) | exact thr_pos (Int.le_of_lt (by assumption))) (by first | exact thr_pos (Int.le_refl _) | exact thr_neg (by assumption) | exact thr_pos (Int.le_of_lt (by assumption))) (by first | exact thr_pos (Int.le_refl _) | exact thr_neg (by assumption) | exact thr_pos (Int.le_of_lt (by assumption)))⟩, ?_⟩
  refine List.forall_mem_cons.mpr ⟨⟨[b, a, c, d], List.mem_of_getElem? (i := 6) rfl, b, m4 (by first | exact thr_pos (Int.le_refl _) | exact thr_neg (by assumption) | exact thr_pos (Int.le_of_lt (by assumption))) (by first | exact thr_pos (Int.le_refl _) | exact thr_neg (by assumption) | exact thr_pos (Int.le_of_lt (by assumption))) (by first | exact thr_pos (Int.le_refl _) | exact thr_neg (by assumption) | exact thr_pos (Int.le_of_lt (by assumption))) (by first | exact thr_pos (Int.le_refl _) | exact thr_neg (by assumption) | exact thr_pos (Int.le_of_lt (by assumption)))⟩, ?_⟩
  refine List.forall_mem_cons.mpr ⟨⟨[c, d, a, b], List.mem_of_getElem? (i := 16) rfl, c, m4 (by first | exact thr_pos (Int.le_refl _) | exact thr_neg (by assumption) | exact thr_pos (Int.le_of_lt (by assumption))) (by first | exact thr_pos (Int.le_refl _) | exact thr_neg (by assumption) | exact thr_pos (Int.le_of_lt (by assumption))) (by first | exact thr_pos (Int.le_refl _) | exact thr_neg (by assumption) | exact thr_pos (Int.le_of_lt (by assumption))) (by first | exact thr_pos (Int.le_refl _) | exact thr_neg (by assumption) | exact thr_pos (Int.le_of_lt (by assumption)))⟩, ?_⟩
  refine List.forall_mem_cons.mpr ⟨⟨[b, c, a, d], List.mem_of_getElem? (i := 8) rfl, b, m4 (by first | exact thr_pos (Int.le_refl _) | exact thr_neg (by assumption) | exact thr_pos (Int.le_of_lt (by assumption))) (by first | exact thr_pos (Int.le_refl _) | exact thr_neg (by assumption) | exact thr_pos (Int.le_of_lt (by assumption))) (by first | exact thr_pos (Int.le_refl _) | exact thr_neg (by assumption) | exact thr_pos (Int.le_of_lt (by assumption))) (by first | exact thr_pos (Int.le_refl _) | exact thr_neg (by assumption) | exact thr_pos (Int.le_of_lt (by assumption)))⟩, ?_⟩
  refine List.forall_mem_cons.mpr ⟨⟨[b, c, d, a], List.mem_of_getElem? (i := 9) rfl, b, m4 (by first | exact thr_pos (Int.le_refl _) | exact thr_neg (by assumption) | exact thr_pos (Int.le_of_lt (by assumption))) (by first | exact thr_pos (Int.le_refl _) | exact thr_neg (by assumption) | exact thr_pos (Int.le_of_lt (by assumption))) (by first | exact thr_pos (Int.le_refl _) | exact thr_neg (by assumption) | exact thr_pos (Int.le_of_lt (by assumption))) (by first | exact thr_pos (Int.le_refl _) | exact thr_neg (by assumption) | exact thr_pos (Int.le_of_lt (by assumption)))⟩, ?_⟩
  refine List.forall_mem_cons.mpr ⟨⟨[a, b, c, d], List.mem_of_getElem? (i := 0) rfl, a, m4 (by first | exact thr_pos (Int.le_refl _) | exact thr_neg (by assumption) | exact thr_pos (Int.le_of_lt (by assumption))) (by first | exact thr_pos (Int.le_refl _) | exact thr_neg (by assumption) | exact thr_pos (Int.le_of_lt (by assumption))) (by first | exact thr_pos (Int.le_refl _) | exact thr_neg (by assumption) | exact thr_pos (Int.le_of_lt (by assumption))) (by first | exact thr_pos (Int.le_refl _) | exact thr_neg (by assumption) | exact thr_pos (Int.le_of_lt (by assumption)))⟩, ?_⟩
  exact List.forall_mem_nil _
theorem len3 {α : Type} {l : List α} (h : l.length = 3) : ∃ a b c, l = [a, b, c] := by
  cases l with
  | nil => cases h
  | cons a t => cases t with
    | nil => cases h
    | cons b u => cases u with
      | nil => cases h
      | cons c v => cases v with
        | nil => exact ⟨a, b, c, rfl⟩
        | cons d x => cases h
theorem len4 {α : Type} {l : List α} (h : l.length = 4) : ∃ a b c d, l = [a, b, c, d] := by
  cases l with
  | nil => cases h
  | cons a t =>
    obtain ⟨b, c, d, rfl⟩ := len3 (Nat.succ.inj h)
    exact ⟨a, b, c, d, rfl⟩
/-- all arrangements are sorted just if all rows of noughts and ones are -/
theorem arr_knuth {ps : List (Int × Int)} {xs : List VN} (hn : xs.length = 3 ∨ xs.length = 4) (hp : (unitsL xs).Pairwise (· < ·)) : (arr 3 xs).all (sortsB ps) = (bitsU xs.length).all (sortsU ps) := by
  have e : (arr 3 xs).all (sortsB ps) = ((arr 3 xs).map unitsL).all (sortsU ps) := by
    rw [List.all_map]; congr 1; funext x; exact sortsB_eq ps x
  rw [e]
  refine knuth (fun r hr => ?_) ?_
  · obtain ⟨x, hx, rfl⟩ := List.mem_map.mp hr
    unfold unitsL; rw [List.length_map]; exact arr_len 3 xs x hx
  · rcases hn with hn | hn
    · obtain ⟨a, b, c, rfl⟩ := len3 hn
      rw [arr_three]
      simp only [unitsL, List.map_cons, List.map_nil, List.pairwise_cons, List.mem_cons, List.not_mem_nil, or_false, forall_eq_or_imp, forall_eq] at hp
      exact bits_three hp.1.1 hp.2.1
    · obtain ⟨a, b, c, d, rfl⟩ := len4 hn
      rw [arr_four]
      simp only [unitsL, List.map_cons, List.map_nil, List.pairwise_cons, List.mem_cons, List.not_mem_nil, or_false, forall_eq_or_imp, forall_eq] at hp
      exact bits_four hp.1.1 hp.2.1.1 hp.2.2.1
/-- of the opposites, each exchange turned about, the opposites come -/
theorem ledU_neg (ps : List (Int × Int)) (hne : ∀ p ∈ ps, p.1.toNat ≠ p.2.toNat) : ∀ us : List Int, ledU (ps.map fun p => (p.2, p.1)) (us.map (- ·)) = (ledU ps us).map (- ·) := by
  have step : ∀ us p, p.1.toNat ≠ p.2.toNat → ledUStep (us.map (- ·)) (p.2, p.1) = (ledUStep us p).map (- ·) := by
    intro us p hp
    unfold ledUStep
    simp only [List.getElem?_map]
    cases us[p.1.toNat]? with
    | none => cases us[p.2.toNat]? <;> simp
    | some x =>
      cases us[p.2.toNat]? with
      | none => simp
      | some y =>
        simp only [Option.map_some, List.map_set]
        rw [List.set_comm _ _ hp]
        congr 1
        · congr 1
          omega
        · omega
  induction ps with
  | nil => intro us; rfl
  | cons p r ih =>
    intro us
    show ledU (r.map fun p => (p.2, p.1)) (ledUStep (us.map (- ·)) (p.2, p.1)) = _
    rw [step us p (hne p (.head _)), ih (fun q hq => hne q (.tail _ hq))]
    rfl
end Mine
end
section
open PySem PySem.W PyProof.Rows PySem.Calls
open Sem (wp)
set_option maxRecDepth 100000
set_option maxHeartbeats 4000000
set_option linter.unusedVariables false
namespace Mine
example : True := by (k_with_none; trivial)
section
variable {prog : Program} {w : World} {A : Around} {E : Value → Shared → Prop} {s : Shared} {env : Env}
/-- a step that may alter what the ledger holds -/
inductive MStepI (h₀ : Heap) (L : Addr) (m : Str → Option Value) (C : Addr) (oC : Obj) (own led : Led) (J : Led → Prop) (g : Array GenState) (d : Drawn) (o : OsState) (s' : Shared) : Prop
  | mk (h' : Heap) (tk' : Nat) (nx : Led) (e : s' = ⟨h', g, d, tk', o⟩) (F : Fr h₀ L h' m) (N : News h₀ L h' ((C, oC) :: (own ++ nx))) (l : ∀ p ∈ nx, (∃ o, (p.1, o) ∈ led) ∨ ∀ q ∈ (C, oC) :: own, q.1 < p.1) (j : J nx)
abbrev MStep (h₀ : Heap) (L : Addr) (m : Str → Option Value) (C : Addr) (oC : Obj) (own led : Led) (J : Led → Prop) (s s' : Shared) : Prop := MStepI h₀ L m C oC own led J s.gens s.drawn s.os s'
theorem MStep.intro {h₀ h' : Heap} {L C : Addr} {m : Str → Option Value} {oC : Obj} {own led : Led} {J : Led → Prop} {s : Shared} {tk' : Nat} (nx : Led) (F : Fr h₀ L h' m) (N : News h₀ L h' ((C, oC) :: (own ++ nx))) (l : ∀ p ∈ nx, (∃ o, (p.1, o) ∈ led) ∨ ∀ q ∈ (C, oC) :: own, q.1 < p.1) (j : J nx) : MStep h₀ L m C oC own led J s { s with heap := h', toks := tk' } := ⟨h', tk', nx, rfl, F, N, l, j⟩
theorem cstepM_of {h₀ : Heap} {L C D : Addr} {m m₂ : Str → Option Value} {oC : Obj} {wr : List Addr} {own led : Led} {Inv : Nat → List Value → Led → Prop} {j : Nat} {ys ys' : List Value} {s s' : Shared} {k : Nat}
    (nC : NsO oC m₂) (hD : (D, listOf ys'.toArray k) ∈ own) (hw : ∀ b ∈ wr, ∃ o, (b, o) ∈ own) (hl : ∀ p ∈ led, p.1 ∉ wr ∧ p.1 ≠ D ∧ p.1 ≠ C)
    (q : MStep h₀ L m C oC own led (Inv j ys) s s') : CStep h₀ L m C D wr own Inv j ys s s' := by
  obtain ⟨h', tk', nx, rfl, F, N, l, J⟩ := q
  refine ⟨h', tk', oC, m₂, nx, rfl, F, N, nC, fun p hp => ?_, J⟩
  rcases l p hp with ⟨o, ho⟩ | hlt
  · exact hl (p.1, o) ho
  · refine ⟨fun hb => ?_, Nat.ne_of_gt (hlt _ (.tail _ hD)), Nat.ne_of_gt (hlt _ (.head _))⟩
    obtain ⟨o, ho⟩ := hw _ hb
    exact Nat.lt_irrefl _ (hlt (p.1, o) (.tail _ ho))
theorem cturn_nameM {x : Str} {px : Pos} {elt : Expr} {scope : Scope} {cl : List (Str × Addr)} {I : Addr} {fp wr : List Addr} {n : Nat} {P : Nat → Value → Prop} {St : Nat → Heap → Prop} {h₀ : Heap} {L : Addr} {m : Str → Option Value} {Inv : Nat → List Value → Led → Prop}
    (hx : scope.names.lookup x = some .local) (hkind : scope.kind = .function) (hob : ∀ i h, St i h → ∀ b ∈ wr, ∃ o, h.get? b = some o) (hsub : ∀ b ∈ wr, b ∈ fp) (hwr : ∀ b ∈ wr, h₀.get? b = none)
    (ok : ∀ C i v ys led own oC m₂ h tk E', i < n → P i v → Inv i ys led → Fr h₀ L h m → News h₀ L h ((C, oC) :: (own ++ led)) → NsO oC m₂ → m₂ x = some v → (∀ p ∈ led, (∀ q ∈ own, p.1 ≠ q.1 ∨ q.1 ∈ fp) ∧ p.1 ≠ C ∧ p.1 ∉ wr) → (∀ p ∈ own, p.1 ∈ fp ∨ ∃ ys k, p.2 = listOf ys k) →
      wpAny (model prog w) A (eval elt (compEnvC scope cl C env)) (fun y s₄ => MStep h₀ L m C oC own led (Inv (i + 1) (ys ++ [y])) s s₄) E' { s with heap := h, toks := tk }) :
    CTurn prog w A env (.Name x px) elt [] scope cl I fp wr n P St h₀ L m Inv s := by
  intro C D i v ys led own oC m₂ h tk E' hi hP hI hy hl st F N nC hoC hD hown hownD
  show wpAny _ A (pure ()) _ _ _
  refine wpAny_pure ?_
  have nCh := nC.ns (N _ (.head _)).1
  have hC0 := (N (C, oC) (.head _)).2.2
  have hCL : C ≠ L := (N (C, oC) (.head _)).2.1
  refine wpAny_assign_Name (wpAny_storeName_local (lookup_relabel_local hx) nCh (fun h₂ hn₂ hs₂ => ?_) (by simp [compEnvC, relabel, hkind]))
  replace hs₂ : Heap.SameBut C h h₂ := hs₂
  obtain ⟨oC', eC', nC'⟩ := NsO.of hn₂
  have F₂ := fr_ext F hs₂.extBut hC0 hCL
  have N₂ : News h₀ L h₂ ((C, oC') :: (own ++ led)) := by
    intro p hp
    rcases List.mem_cons.mp hp with rfl | hp
    · exact ⟨eC', hCL, hC0⟩
    · refine news_ext (fun q hq => N q (.tail _ hq)) hs₂.extBut (fun q hq => ?_) p hp
      rcases List.mem_append.mp hq with hq | hq
      · exact hoC q hq
      · exact (hl q hq).2.2
  obtain ⟨k, hD⟩ := hD
  have hw : ∀ b ∈ wr, ∃ o, (b, o) ∈ own := fun b hb => by
    obtain ⟨o, ho⟩ := hob _ _ st b hb
    exact ⟨o, hown b (hsub b hb) (hwr b hb) o ho⟩
  refine wpAny_tests_nil ?_
  rw [if_pos rfl]
  refine wpAny_mono (ok C i v ys led own oC' _ h₂ _ E' hi hP hI F₂ N₂ nC' (by simp) (fun p hp => ⟨fun q hq => ?_, (hl p hp).2.2, (hl p hp).1⟩) (fun p hp => ?_)) (fun y s₄ q => cstepM_of nC' hD hw hl q) fun _ _ q => q
  · rcases hownD q hq with e | e
    · exact .inl (by rw [e]; exact (hl p hp).2.1)
    · exact .inr e
  · rcases hownD p hp with e | e
    · have e1 := (N _ (.tail _ (List.mem_append_left _ hp))).1
      have e2 := (N _ (.tail _ (List.mem_append_left _ hD))).1
      rw [e] at e1
      rw [e1] at e2
      exact .inr ⟨_, _, Option.some.inj e2⟩
    · exact .inl e
/-- a comprehension over a range whose turns may alter the ledger -/
theorem comp_rangeM {x : Str} {px : Pos} {elt : Expr} {scope : Scope} {cl : List (Str × Addr)} {h₀ : Heap} {L ax : Addr} {n : Nat} {t u v : Tok} {led : Led} {m : Str → Option Value} {md : Addr → Str → Option Value} {Qd : Addr → Shared → Prop} (Inv : Led → Nat → List Value → Led → Prop)
    (hx : scope.names.lookup x = some .local) (hkind : scope.kind = .function) (hz : n ≤ sizeLine)
    (hh : A.handled = none) (F : Fr h₀ L s.heap m) (N : News h₀ L s.heap led) (hm : (ax, rangeO 0 n 1 t u v) ∈ led) (hsmall : Builtin.Range.small 0 n 1 = true) (hn : Builtin.Range.rangeSize 0 n 1 = (n : Int)) (h0 : Inv led 0 [] led)
    (ok : ∀ C (i : Nat) tv ys led' own oC m₂ h tk E', i < n → Inv led i ys led' → Fr h₀ L h m → News h₀ L h ((C, oC) :: (own ++ led')) → NsO oC m₂ → m₂ x = some (.int i tv) → (∀ p ∈ led', p.1 ≠ C ∧ ∀ q ∈ own, p.1 ≠ q.1) →
      wpAny (model prog w) A (eval elt (compEnvC scope cl C env)) (fun y s₄ => MStep h₀ L m C oC own led' (Inv led (i + 1) (ys ++ [y])) s s₄) E' { s with heap := h, toks := tk })
    (done : ∀ D ys led' k h' tk, Inv led n ys led' → ys.length ≤ n → Fr h₀ L h' (md D) → News h₀ L h' ((D, listOf ys.toArray k) :: led') → (∀ p ∈ led', p.1 ≠ D) → (∀ p ∈ led, p.1 < D) → Qd D { s with heap := h', toks := tk }) :
    wpAny (model prog w) A (pyIter (.ref ax)) (CompAt prog w A env (.Name x px) elt [] scope cl h₀ L m md Qd) E s := by
  refine wpAny_pyIter_range (N _ hm).1 hsmall ?_
  have W : Walks prog w A s.heap.objs.size [s.heap.objs.size] [s.heap.objs.size] n (fun i v => i < n ∧ ∃ t, v = .int (0 + i * 1) t)
      (fun i h => IsRangeIter h s.heap.objs.size (0 + (i : Nat) * 1) ((n : Int) - (i : Nat)) 1) := (Walks.range hh _ 0 1 n).bound
  refine ⟨s.heap.objs.size, [s.heap.objs.size], [s.heap.objs.size], n, _, _, led, Inv led, rfl, W, hz, (by show IsRangeIter _ _ _ _ _; rw [hn]; simpa using Heap.get?_push_size _ rfl), ?_, ?_, lst_new F, F.push _, (fun p hp => ⟨Heap.get?_push_of_some _ (N p hp).1, (N p hp).2⟩), ?_, h0, ?_, done⟩
  · intro b hb
    show b < (s.heap.push _).objs.size
    rw [Heap.size_push, List.mem_singleton.mp hb]
    exact Nat.lt_succ_self _
  · intro q
    exact absurd F.ns.lt ((List.mem_singleton.mp q) ▸ Nat.lt_irrefl _)
  · intro p hp q
    exact absurd (Heap.lt_size (N p hp).1) ((List.mem_singleton.mp q) ▸ Nat.lt_irrefl _)
  · refine cturn_nameM hx hkind (fun i h st b hb => by rw [List.mem_singleton.mp hb]; exact ⟨_, st⟩) (fun b hb => hb) (lst_new F) ?_
    rintro C i v ys led' own oC m₂ h tk E' hi ⟨_, t, rfl⟩ hI F' N' nC hm₂ hne _
    rw [show (0 : Int) + (i : Int) * 1 = (i : Int) by omega] at hm₂
    refine ok C i t ys led' own oC m₂ h tk E' hi hI F' N' nC hm₂ fun p hp => ⟨(hne p hp).2.1, fun q hq e => ?_⟩
    rcases (hne p hp).1 q hq with h1 | h1
    · exact h1 e
    · exact (hne p hp).2.2 (e ▸ h1)
end
end Mine
end
section
open PySem PySem.W PyProof.Rows PySem.Calls
open Sem (wp)
set_option maxRecDepth 100000
set_option maxHeartbeats 4000000
set_option linter.unusedVariables false
namespace Mine
example : True := by (k_with_none; trivial)
section
variable {prog : Program} {w : World} {A : Around} {E : Value → Shared → Prop} {s : Shared} {env : Env}
/-- a for over a range: J holds between the turns -/
theorem for_range {x : Str} {px : Pos} {body : List Stmt} {h₀ : Heap} {ax : Addr} {n : Nat} {t u v : Tok} {led : Led} {m : Str → Option Value} {Q : Flow → Shared → Prop} (J : Nat → (Str → Option Value) → Led → Prop)
    (hh : A.handled = none) (F : Fr h₀ env.locals s.heap m) (N : News h₀ env.locals s.heap led) (hm : (ax, rangeO 0 n 1 t u v) ∈ led) (hsmall : Builtin.Range.small 0 n 1 = true) (hn : Builtin.Range.rangeSize 0 n 1 = (n : Int)) (h0 : J 0 m led)
    (turn : ∀ (i : Nat) tv m₁ led₁ oI I h₁ tk₁, oI.cls ≠ .type "tuple" → i < n → J i m₁ led₁ → (∀ p ∈ led₁, p.1 ≠ I) → Fr h₀ env.locals h₁ m₁ → News h₀ env.locals h₁ ((I, oI) :: led₁) → (∀ p ∈ led, p.1 < I) →
      wpAny (model prog w) A (assign (.Name x px) env (.int i tv)) (fun _ s₃ => wpAny (model prog w) A (execs body env) (FStep h₀ env.locals [(I, oI)] I (J (i + 1)) { s with heap := h₁, toks := tk₁ }) E s₃) E { s with heap := h₁, toks := tk₁ })
    (done : ∀ h' tk m' led', J n m' led' → Fr h₀ env.locals h' m' → News h₀ env.locals h' led' → Q .next { s with heap := h', toks := tk }) :
    wpAny (model prog w) A (pyIter (.ref ax)) (fun it s₂ => TurnsAt prog w A h₀ env (.Name x px) body Q E it s₂) E s := by
  refine wpAny_pyIter_range (N _ hm).1 hsmall ?_
  have W : Walks prog w A s.heap.objs.size [s.heap.objs.size] [s.heap.objs.size] n (fun i v => i < n ∧ ∃ t, v = .int (0 + i * 1) t)
      (fun i h => IsRangeIter h s.heap.objs.size (0 + (i : Nat) * 1) ((n : Int) - (i : Nat)) 1) := (Walks.range hh _ 0 1 n).bound
  refine ⟨s.heap.objs.size, _, _, n, _, _, _, m, led, J, rfl, KTurns.ofWalks W (fun i v s Q E st hQ => wpAny_pure hQ), ?_, lst_new F, ?_, (by show IsRangeIter _ _ _ _ _; rw [hn]; simpa using Heap.get?_push_size _ rfl), F.push _, (fun p hp => ⟨Heap.get?_push_of_some _ (N p hp).1, (N p hp).2⟩), h0, ?_, fun h' tk m' led' F' N' _ hJ => done h' tk m' led' hJ F' N'⟩
  · intro q
    exact absurd F.ns.lt ((List.mem_singleton.mp q) ▸ Nat.lt_irrefl _)
  · intro p hp q
    exact absurd (Heap.lt_size (N p hp).1) ((List.mem_singleton.mp q) ▸ Nat.lt_irrefl _)
  · rintro i v m₁ led₁ h₁ tk₁ own hi ⟨hi', t, rfl⟩ hJ hoff hsub hget hown st F₁ N₁
    rw [show (0 : Int) + (i : Int) * 1 = (i : Int) by omega]
    have hI := hown _ (.head _) (next_is_new F) _ st
    have N₂ : News h₀ env.locals h₁ ((s.heap.objs.size, _) :: led₁) := fun p hp => N₁ p (by
      rcases List.mem_cons.mp hp with rfl | hp
      · exact List.mem_append_left _ hI
      · exact List.mem_append_right _ hp)
    refine wpAny_mono (turn i t m₁ led₁ _ s.heap.objs.size h₁ tk₁ (fun e => absurd (Value.type.inj e) (by decide)) hi hJ (fun p hp q => hoff p hp (by rw [q]; exact .head _)) F₁ N₂ (fun p hp => Heap.lt_size (N p hp).1)) (fun _ s₃ q => wpAny_mono q (fun f s' q => ?_) fun _ _ x => x) fun _ _ x => x
    obtain ⟨rfl, h', tk', m', nx, rfl, F', N', o', j'⟩ := q
    refine LoopStepV.next ⟨rfl, h', tk', m', nx, rfl, F', fun p hp => N' p ?_, fun p hp q => o' p hp (List.mem_singleton.mp q), j'⟩
    rcases List.mem_append.mp hp with hp | hp
    · have e1 : p.1 = s.heap.objs.size := List.mem_singleton.mp (hsub p hp)
      have e2 := hget p hp
      obtain ⟨a, o⟩ := p
      simp only at e1 e2
      subst e1
      have e3 := (N₁ _ (List.mem_append_left _ hI)).1
      rw [e2] at e3
      cases e3
      exact .head _
    · exact .tail _ hp
/-- a for over a list of the ledger -/
theorem for_listE {x : Str} {px : Pos} {body : List Stmt} {h₀ : Heap} {ax : Addr} {vs : List Value} {k : Nat} {led : Led} {m : Str → Option Value} {Q : Flow → Shared → Prop} (J : Nat → (Str → Option Value) → Led → Prop)
    (hh : A.handled = none) (F : Fr h₀ env.locals s.heap m) (N : News h₀ env.locals s.heap led) (hm : (ax, listOf vs.toArray k) ∈ led) (h0 : J 0 m led)
    (turn : ∀ (i : Nat) v m₁ led₁ own I h₁ tk₁, vs[i]? = some v → J i m₁ led₁ → (∀ p ∈ led₁, p.1 ≠ I) → Fr h₀ env.locals h₁ m₁ → News h₀ env.locals h₁ (own ++ led₁) → (∀ p ∈ own, p.1 = I ∨ p.1 = ax) → (∃ oI, (I, oI) ∈ own) → (∀ p ∈ led, p.1 < I) →
      wpAny (model prog w) A (assign (.Name x px) env v) (fun _ s₃ => wpAny (model prog w) A (execs body env) (FStep h₀ env.locals own I (J (i + 1)) { s with heap := h₁, toks := tk₁ }) E s₃) E { s with heap := h₁, toks := tk₁ })
    (done : ∀ h' tk m' led', J vs.length m' led' → Fr h₀ env.locals h' m' → News h₀ env.locals h' led' → Q .next { s with heap := h', toks := tk }) :
    wpAny (model prog w) A (pyIter (.ref ax)) (fun it s₂ => TurnsAt prog w A h₀ env (.Name x px) body Q E it s₂) E s := by
  have hl : s.heap.IsList ax vs.toArray := isListOf N hm
  have hax := Heap.lt_size (N _ hm).1
  refine wpAny_pyIter_list hl ?_
  have W := Walks.list (prog := prog) (w := w) hh s.heap.objs.size ax (Nat.ne_of_lt hax) vs.toArray
  have hz : vs.toArray.size = vs.length := List.size_toArray ..
  rw [hz] at W
  refine ⟨s.heap.objs.size, _, _, vs.length, _, _, _, m, led, J, rfl, KTurns.ofWalks W (fun i v s Q E st hQ => letGo_listiter st.1 hQ), ?_, lst_new F, ?_, ⟨⟨_, Heap.get?_push_size _ rfl, rfl, rfl⟩, hl.at fun o e => Heap.get?_push_of_some _ e⟩, F.push _, (fun p hp => ⟨Heap.get?_push_of_some _ (N p hp).1, (N p hp).2⟩), h0, ?_, fun h' tk m' led' F' N' _ hJ => done h' tk m' led' hJ F' N'⟩
  · intro q
    rcases List.mem_cons.mp q with q | q
    · exact absurd F.ns.lt (q ▸ Nat.lt_irrefl _)
    · exact (N _ hm).2.1 (List.mem_singleton.mp q).symm
  · intro p hp q
    exact absurd (Heap.lt_size (N p hp).1) ((List.mem_singleton.mp q) ▸ Nat.lt_irrefl _)
  · intro i v m₁ led₁ h₁ tk₁ own hi hP hJ hoff hsub hget hown st F₁ N₁
    obtain ⟨⟨oI, hoI, _⟩, _⟩ := st
    have hv : vs[i]? = some v := by rw [← List.getElem?_toArray]; exact hP
    refine wpAny_mono (turn i v m₁ led₁ own s.heap.objs.size h₁ tk₁ hv hJ (fun p hp q => hoff p hp (by rw [q]; exact .head _)) F₁ N₁ (fun p hp => (List.mem_cons.mp (hsub p hp)).imp id List.mem_singleton.mp) ⟨oI, hown _ (.head _) (next_is_new F) oI hoI⟩ (fun p hp => Heap.lt_size (N p hp).1)) (fun _ s₃ q => wpAny_mono q (fun f s' q => ?_) fun _ _ x => x) fun _ _ x => x
    obtain ⟨rfl, h', tk', m', nx, rfl, F', N', o', j'⟩ := q
    exact LoopStepV.next ⟨rfl, h', tk', m', nx, rfl, F', N', fun p hp q => o' p hp (List.mem_singleton.mp q), j'⟩
/-- the inner tuple is one just made -/
theorem in_tupL {x y : Str} {elt : Expr} {scope : Scope} {cl : List (Str × Addr)} {h₀ h : Heap} {L C ax : Addr} {m : Str → Option Value} {all led tl : Led} {v : Value} {ys vs : List Value} {Nx : List Value → Led → Prop} {tk k : Nat} (Inv1 : Nat → List Value → Led → Prop)
    (hh : A.handled = none) (F : Fr h₀ L h m) (N : News h₀ L h (tl ++ all)) (ord : ∀ q ∈ all, ∀ p ∈ tl, q.1 < p.1) (hm : (ax, tupO vs k) ∈ tl) (hsz : vs.length + ys.length ≤ sizeLine) (hi0 : Inv1 0 ys (tl ++ led)) (hend : ∀ ys' led', Inv1 vs.length ys' led' → Nx ys' led')
    (turn1 : ∀ j v1 ys led own oC m₃ h tk E', vs[j]? = some v1 → Inv1 j ys led → Fr h₀ L h m → News h₀ L h ((C, oC) :: (own ++ led)) → NsO oC m₃ → m₃ x = some v → m₃ y = some v1 →
      wpAny (model prog w) A (eval elt (compEnvC scope cl C env)) (fun z s₄ => PStep h₀ L m ((C, oC) :: (own ++ led)) led (Inv1 (j + 1) (ys ++ [z])) s s₄) E' { s with heap := h, toks := tk }) :
    wpAny (model prog w) A (pyIter (.ref ax)) (InAt prog w A env x y elt scope cl h₀ L C m all led v ys Nx s) E { s with heap := h, toks := tk } := by
  have hl : h.IsTuple ax vs.toArray := ⟨_, (N _ (List.mem_append_left _ hm)).1, rfl, _, rfl⟩
  have hax := Heap.lt_size (N _ (List.mem_append_left _ hm)).1
  refine wpAny_pyIter_tuple (s := { s with heap := h, toks := tk }) hl ?_
  have W := Walks.tuple (prog := prog) (w := w) hh h.objs.size ax (Nat.ne_of_lt hax) vs.toArray
  have hz : vs.toArray.size = vs.length := List.size_toArray ..
  rw [hz] at W
  refine ⟨_, tk, tl, h.objs.size, [h.objs.size, ax], vs.length, _, _, Inv1, rfl, rfl, W, ⟨⟨_, Heap.get?_push_size _ rfl, rfl, rfl⟩, hl.at fun o e => Heap.get?_push_of_some _ e⟩, F.push _, (fun p hp => ⟨Heap.get?_push_of_some _ (N p hp).1, (N p hp).2⟩), ord, (fun q hq => Heap.lt_size (N q hq).1), next_is_new F, Nat.ne_of_gt F.ns.lt, tupiter_ob, ?_, ?_, hsz, hi0, hend, ?_⟩
  · intro b hb
    rcases List.mem_cons.mp hb with rfl | hb
    · exact .inl rfl
    · rw [List.mem_singleton.mp hb]; exact .inr (.inl ⟨_, hm⟩)
  · intro q
    rcases List.mem_cons.mp q with q | q
    · exact absurd F.ns.lt (q ▸ Nat.lt_irrefl _)
    · exact (N _ (List.mem_append_left _ hm)).2.1 (List.mem_singleton.mp q).symm
  · intro j v1 ys led own oC m₃ h tk E' hj hP hI F' N' nC hx hy
    exact turn1 j v1 ys led own oC m₃ h tk E' (by rw [← List.getElem?_toArray]; exact hP) hI F' N' nC hx hy
/-- the same, the word told of the ledger ahead -/
theorem for_rangeG {x : Str} {px : Pos} {body : List Stmt} {h₀ : Heap} {ax : Addr} {n : Nat} {t u v : Tok} {led : Led} {m : Str → Option Value} {Q : Flow → Shared → Prop} (J : Led → Nat → (Str → Option Value) → Led → Prop)
    (hh : A.handled = none) (F : Fr h₀ env.locals s.heap m) (N : News h₀ env.locals s.heap led) (hm : (ax, rangeO 0 n 1 t u v) ∈ led) (hsmall : Builtin.Range.small 0 n 1 = true) (hn : Builtin.Range.rangeSize 0 n 1 = (n : Int)) (h0 : J led 0 m led)
    (turn : ∀ (i : Nat) tv m₁ led₁ oI I h₁ tk₁, oI.cls ≠ .type "tuple" → i < n → J led i m₁ led₁ → (∀ p ∈ led₁, p.1 ≠ I) → Fr h₀ env.locals h₁ m₁ → News h₀ env.locals h₁ ((I, oI) :: led₁) → (∀ p ∈ led, p.1 < I) →
      wpAny (model prog w) A (assign (.Name x px) env (.int i tv)) (fun _ s₃ => wpAny (model prog w) A (execs body env) (FStep h₀ env.locals [(I, oI)] I (J led (i + 1)) { s with heap := h₁, toks := tk₁ }) E s₃) E { s with heap := h₁, toks := tk₁ })
    (done : ∀ h' tk m' led', J led n m' led' → Fr h₀ env.locals h' m' → News h₀ env.locals h' led' → Q .next { s with heap := h', toks := tk }) :
    wpAny (model prog w) A (pyIter (.ref ax)) (fun it s₂ => TurnsAt prog w A h₀ env (.Name x px) body Q E it s₂) E s := for_range (J led) hh F N hm hsmall hn h0 turn done
theorem for_listG {x : Str} {px : Pos} {body : List Stmt} {h₀ : Heap} {ax : Addr} {vs : List Value} {k : Nat} {led : Led} {m : Str → Option Value} {Q : Flow → Shared → Prop} (J : Led → Nat → (Str → Option Value) → Led → Prop)
    (hh : A.handled = none) (F : Fr h₀ env.locals s.heap m) (N : News h₀ env.locals s.heap led) (hm : (ax, listOf vs.toArray k) ∈ led) (h0 : J led 0 m led)
    (turn : ∀ (i : Nat) v m₁ led₁ own I h₁ tk₁, vs[i]? = some v → J led i m₁ led₁ → (∀ p ∈ led₁, p.1 ≠ I) → Fr h₀ env.locals h₁ m₁ → News h₀ env.locals h₁ (own ++ led₁) → (∀ p ∈ own, p.1 = I ∨ p.1 = ax) → (∃ oI, (I, oI) ∈ own) → (∀ p ∈ led, p.1 < I) →
      wpAny (model prog w) A (assign (.Name x px) env v) (fun _ s₃ => wpAny (model prog w) A (execs body env) (FStep h₀ env.locals own I (J led (i + 1)) { s with heap := h₁, toks := tk₁ }) E s₃) E { s with heap := h₁, toks := tk₁ })
    (done : ∀ h' tk m' led', J led vs.length m' led' → Fr h₀ env.locals h' m' → News h₀ env.locals h' led' → Q .next { s with heap := h', toks := tk }) :
    wpAny (model prog w) A (pyIter (.ref ax)) (fun it s₂ => TurnsAt prog w A h₀ env (.Name x px) body Q E it s₂) E s := for_listE (J led) hh F N hm h0 turn done
end
end Mine
end
section
open PySem PySem.W PyProof.Rows
set_option maxRecDepth 100000
set_option maxHeartbeats 8000000
set_option linter.unusedVariables false
namespace Mine
example : True := by (k_with_none; trivial)
example : True := by ((k_with "u1" => ((case k1zz => k_asm); (case k2zz => k_asm); (case k3zz => k_asm); (case k4zz => k_asm); (case k5zz => k_asm))); trivial)
example : True := by ((k_with "u2" => ((case kKzz => first | exact rfl | assumption); (case kdzz => ktr_room); (case kuzz => ktr_units))); trivial)
example : True := by ((k_with "u3" => (intro r9zz tl9zz h9zz tk9zz F9zz N9zz l9zz o9zz; (try dsimp only at o9zz))); trivial)
example : True := by ((k_with "u4" => ((try simp only [List.nil_append, List.cons_append] at N9zz); (try dsimp only); (try k_fold))); trivial)
example : True := by ((k_with "suf" => (first | apply sub_refl | assumption | (refine sub_tail ?_; k_extra "suf") | (refine sub_app ?_; k_extra "suf") | apply sub_nil | (refine sub_appL ?_; k_extra "suf"))); trivial)
example : True := by ((k_with "in" => (first | assumption | apply in_head | (refine in_tail ?_; k_extra "in") | (refine in_app ?_; k_extra "in") | (refine in_appL ?_; k_extra "in"))); trivial)
example : True := by ((k_with "sub" => (first | k_extra "suf" | (refine sub_cons ?_ ?_; (focus k_extra "in"); k_extra "sub") | (refine sub_both ?_ ?_; (focus k_extra "sub"); k_extra "sub") | (refine sub_trans ?_ (by assumption); k_extra "suf"))); trivial)
example : True := by ((k_with "lt0" => (first | assumption | (refine Mine.pickA (by assumption) ?_; intro hz9zz; first | apply hz9zz.1 | (replace hz9zz := hz9zz.2; first | apply hz9zz.1 | (replace hz9zz := hz9zz.2; first | apply hz9zz.1 | (replace hz9zz := hz9zz.2; first | apply hz9zz.1 | (replace hz9zz := hz9zz.2; first | apply hz9zz.1 | (replace hz9zz := hz9zz.2; first | apply hz9zz.1 | (replace hz9zz := hz9zz.2; first | apply hz9zz.1 | (replace hz9zz := hz9zz.2; first | apply hz9zz.1 | (replace hz9zz := hz9zz.2; first | apply hz9zz.1 | (replace hz9zz := hz9zz.2; first | apply hz9zz.1 | (replace hz9zz := hz9zz.2; first | apply hz9zz.1 | (replace hz9zz := hz9zz.2; first | apply hz9zz.1 | (replace hz9zz := hz9zz.2; first | apply hz9zz.1 | (replace hz9zz := hz9zz.2; first | apply hz9zz.1 | apply hz9zz.2)))))))))))))))); trivial)
example : True := by ((k_with "lt1" => (first | apply Mine.sl1 | apply Mine.sl2 | apply Mine.sl3 | apply Mine.sl4 | exact Mine.dn1 (by assumption) | exact Mine.dn2 (by assumption) | exact Mine.dn3 (by assumption) | exact Mine.dn4 (by assumption) | exact Mine.upx (by assumption) (by assumption) | exact Mine.up4 (by assumption) | (refine Nat.lt_trans ?_ (by assumption); first | k_extra "lt0" | exact Mine.dn1 (by assumption) | exact Mine.dn2 (by assumption) | exact Mine.dn3 (by assumption) | exact Mine.dn4 (by assumption) | (refine Nat.lt_trans ?_ (by assumption); k_extra "lt0")))); trivial)
example : True := by ((k_with "LeaveK" => (k_dflt (refine' leaveK_ ?k1zz ?k2zz ?_; (case k1zz => k_asm); (case k2zz => k_asm); k_whole); intro kFzz kNzz; (try dsimp only))); trivial)
example : True := by ((k_with "k_mem" => (first | assumption | (refine' List.mem_append_right _ ?_; k_mem) | (refine' List.mem_append_left _ ?_; k_mem))); trivial)
example : True := by ((k_with "kcj_all" => (k_whole; first | (refine fun pzz hpzz => List.mem_append_right _ ?_; assumption) | (intro pzz hpzz; (simp only [List.mem_append, List.mem_cons, List.not_mem_nil, or_false, false_or] at hpzz ⊢); first | assumption | (simp only [hpzz, true_or, or_true]; done) | grind))); trivial)
example : True := by ((k_with "kcj_all" => (k_whole; with_reducible k_extra "sub")); trivial)
example : True := by ((k_with "newTuple" => (k_here; k_dflt (refine' kup_newTuple ?Fzz ?Nzz ?_ ?zzz; (case Fzz => k_asm); (case Nzz => k_asm); (case zzz => kmk_size)); intro D'zz h'zz F'zz N'zz l1zz; (try k_lt l1zz); (try k_sweep))); trivial)
example : True := by ((k_with "binaryOp Pow int int" => ((with_reducible refine pow_int_small ?kb1zz ?kb2zz ?kb3zz ?_); (case kb1zz => omega); (case kb2zz => omega); (case kb3zz => decide))); trivial)
example : True := by ((k_with "subscriptTail" => (k_here; (with_reducible show wpAny _ _ (subscriptTail _ _ (Value.ref _) (Value.int _ _)) _ _ _); (with_unfolding_all refine' item_litK ?k1zz ?k2zz ?k3zz ?k4zz ?_ ?k6zz; (case k1zz => exact isListOf (by k_asm) (by k_mem)); (case k2zz => first | decide | omega); (case k3zz => first | decide | omega); (case k4zz => first | rfl | assumption); (case k6zz => with_unfolding_all rfl); k_whole))); trivial)
example : True := by ((k_with "subscriptTail Name Name ref int" => (k_here; (with_reducible show wpAny _ _ (subscriptTail _ _ (Value.ref _) (Value.int _ _)) _ _ _); (with_unfolding_all refine' item_litK ?k1zz ?k2zz ?k3zz ?k4zz ?_ ?k6zz; (case k1zz => exact isListOf (by k_asm) (by k_mem)); (case k2zz => first | decide | omega); (case k3zz => first | decide | omega); (case k4zz => first | rfl | assumption); (case k6zz => with_unfolding_all rfl); k_whole))); trivial)
example : True := by ((k_with "subscriptTail Name Constant ref int" => (k_here; (with_reducible show wpAny _ _ (subscriptTail _ _ (Value.ref _) (Value.int _ _)) _ _ _); (with_unfolding_all refine' item_litK ?k1zz ?k2zz ?k3zz ?k4zz ?_ ?k6zz; (case k1zz => exact isListOf (by k_asm) (by k_mem)); (case k2zz => first | decide | omega); (case k3zz => first | decide | omega); (case k4zz => first | rfl | assumption); (case k6zz => with_unfolding_all rfl); k_whole))); trivial)
example : True := by ((k_with "call ref" => (k_here; (with_reducible show wpAny _ _ (call (Value.ref 255) _) _ _ _); k_dflt (refine' sp_use (sp_reckoned _ _ _ _ _ _ _ _ _ ?p1zz ?p2zz ?p3zz ?p4zz ?p5zz) ?k1zz ?k2zz ?k3zz ?k4zz ?k5zz ?kKzz ?kdzz ?kuzz ?_); k_extra "u1"; k_extra "u2"; (case p4zz => first | exact numIn_i | exact numIn_d (by k_mem) | exact NumIn.mono (by assumption) (by kcj_all) | assumption); (case p5zz => first | exact numIn_i | exact numIn_d (by k_mem) | exact NumIn.mono (by assumption) (by kcj_all) | assumption); (case p1zz => assumption); (case p2zz => assumption); (case p3zz => first | assumption | k_extra "sum"); k_extra "u3"; skip; k_extra "u4")); trivial)
example : True := by ((k_with "getAttr ref" => (k_here; k_dflt (refine' get_own ?k1zz ?k2zz ?k3zz ?k4zz ?k5zz ?k6zz ?k7zz ?k8zz ?k9zz ?_; (case k1zz => k_asm); (case k2zz => k_asm); (case k3zz => k_inst); (case k4zz => k_is); (case k5zz => k_is); (case k6zz => k_is); (case k7zz => k_is); (case k8zz => assumption); (case k9zz => exact rfl); k_whole))); trivial)
example : True := by ((k_with "call ref" => (k_here; (with_reducible show wpAny _ _ (call (Value.ref 262) _) _ _ _); k_dflt (refine' sp_use (sp_negated _ _ _ _ _ _ ?p1zz ?p2zz) ?k1zz ?k2zz ?k3zz ?k4zz ?k5zz ?kKzz ?kdzz ?kuzz ?_); k_extra "u1"; k_extra "u2"; (case p2zz => first | assumption | exact NumIn.mono (by assumption) (by kcj_all)); (case p1zz => assumption); k_extra "u3"; skip; k_extra "u4")); trivial)
example : True := by ((k_with "call ref" => (k_here; (with_reducible show wpAny _ _ (call (Value.ref 368) _) _ _ _); k_dflt (refine' sp_useI (sp_units _ _ _ _ ?p1zz ?p2zz) ?k1zz ?k2zz ?k3zz ?k4zz ?k5zz ?kKzz ?kdzz ?kuzz ?_); k_extra "u1"; k_extra "u2"; (case p2zz => first | assumption | exact NumIn.mono (by assumption) (by kcj_all)); (case p1zz => assumption); intro h9zz tk9zz F9zz t9zz N9zz; (try dsimp only); (try k_fold))); trivial)
example : True := by ((k_with "call ref" => (k_here; (with_reducible show wpAny _ _ (call (Value.ref 361) _) _ _ _); k_dflt (refine' sp_use (sp_law_number _ _ _ _ _ ?p1zz ?p2zz) ?k1zz ?k2zz ?k3zz ?k4zz ?k5zz ?kKzz ?kdzz ?kuzz ?_); k_extra "u1"; k_extra "u2"; (case p1zz => omega); (case p2zz => omega); k_extra "u3"; skip; k_extra "u4")); trivial)
example : True := by ((k_with "call ref" => (k_here; (with_reducible show wpAny _ _ (call (Value.ref 311) _) _ _ _); k_dflt (refine' sp_useV (sp_number_min _ _ _ _ _ _ _ _ _ ?p1zz ?p2zz ?p3zz ?p4zz ?p5zz) ?k1zz ?k2zz ?k3zz ?k4zz ?k5zz ?kKzz ?kdzz ?kuzz ?_); k_extra "u1"; k_extra "u2"; (case p5zz => k_mem); (case p3zz => first | assumption | exact NumIn.mono (by assumption) (by kcj_all)); (case p4zz => first | assumption | exact NumIn.mono (by assumption) (by kcj_all)); (case p1zz => assumption); (case p2zz => assumption); intro h9zz tk9zz F9zz N9zz; (try dsimp only); (try k_fold))); trivial)
example : True := by ((k_with "call ref" => (k_here; (with_reducible show wpAny _ _ (call (Value.ref 318) _) _ _ _); k_dflt (refine' sp_useV (sp_number_max _ _ _ _ _ _ _ _ _ ?p1zz ?p2zz ?p3zz ?p4zz ?p5zz) ?k1zz ?k2zz ?k3zz ?k4zz ?k5zz ?kKzz ?kdzz ?kuzz ?_); k_extra "u1"; k_extra "u2"; (case p5zz => k_mem); (case p3zz => first | assumption | exact NumIn.mono (by assumption) (by kcj_all)); (case p4zz => first | assumption | exact NumIn.mono (by assumption) (by kcj_all)); (case p1zz => assumption); (case p2zz => assumption); intro h9zz tk9zz F9zz N9zz; (try dsimp only); (try k_fold))); trivial)
example : True := by ((k_with "call ref" => (k_here; (with_reducible show wpAny _ _ (call (Value.ref 385) _) _ _ _); k_dflt (refine' sp_useV (sp_law_rises _ _ _ _ _ ?p1zz ?p2zz ?p3zz) ?k1zz ?k2zz ?k3zz ?k4zz ?k5zz ?kKzz ?kdzz ?kuzz ?_); k_extra "u1"; k_extra "u2"; (case p2zz => k_mem); (case p1zz => first | assumption | exact NumsIn.mono (by assumption) (by kcj_all) | k_extra "nums"); (case p3zz => first | assumption | k_extra "len"); intro h9zz tk9zz F9zz N9zz; (try dsimp only); (try k_fold))); trivial)
example : True := by ((k_with "call ref" => (k_here; (with_reducible show wpAny _ _ (call (Value.ref 380) _) _ _ _); k_dflt (refine' sp_useL (sp_law_led _ _ _ _ _ _ _ _ _ ?p1zz ?p2zz ?p3zz ?p4zz ?p5zz ?p6zz ?p7zz) ?k1zz ?k2zz ?k3zz ?k4zz ?k5zz ?kKzz ?kdzz ?kuzz ?_); k_extra "u1"; k_extra "u2"; (case p2zz => k_mem); (case p5zz => k_mem); (case p1zz => first | assumption | exact NumsIn.mono (by assumption) (by kcj_all) | k_extra "nums"); (case p3zz => first | assumption | k_extra "len"); (case p4zz => first | assumption | exact PairsIn.mono (by assumption) (by kcj_all)); (case p6zz => first | assumption | k_extra "pok"); (case p7zz => first | assumption | k_extra "len"); intro h9zz tk9zz F9zz D9zz k9zz N9zz l9zz; (try dsimp only); (try k_fold))); trivial)
example : True := by ((k_with "pyIter ref" => (first | k_extra "comp" | k_extra "for")); trivial)
example : True := by ((k_with "eval Name" => ((with_reducible show wpAny _ _ (eval _ (compEnvC _ _ _ _)) _ _ _); k_dflt (refine' comp_local ?Nzz ?hmzz ?nCzz ?hvzz ?_ ?azz ?bzz ?czz; (case bzz => exact rfl); (case azz => exact rfl); (case Nzz => k_asm); (case nCzz => assumption); (case hmzz => k_mem); (case hvzz => assumption); (case czz => decide)))); trivial)
example : True := by ((k_with "eval Name" => ((with_reducible show wpAny _ _ (eval _ (compEnvC _ _ _ _)) _ _ _); k_dflt (refine' comp_cell ?Nzz ?hmzz ?hd'zz ?_ ?azz ?bzz ?ezz ?czz; (case bzz => exact rfl); (case azz => exact rfl); (case ezz => exact rfl); (case Nzz => k_asm); (case hmzz => k_mem); (case hd'zz => assumption); (case czz => decide)))); trivial)
example : True := by ((k_with "exec Assign cons ListComp" => (k_dflt (refine' comp_assign ?aFzz ?a1zz ?a2zz ?a3zz ?a4zz ?a5zz ?a6zz ?a7zz ?a8zz ?_; (case aFzz => k_asm); (case a1zz => with_unfolding_all rfl); (case a2zz => with_unfolding_all rfl); (case a3zz => decide); (case a4zz => rfl); (case a5zz => decide); (case a6zz => intro _; with_unfolding_all rfl); (case a7zz => rfl); (case a8zz => rfl)))); trivial)
example : True := by ((k_with "eval ListComp" => (k_dflt (refine' comp_eval ?aFzz ?a2zz ?a3zz ?a4zz ?a5zz ?a6zz ?_; (case aFzz => k_asm); (case a2zz => with_unfolding_all rfl); (case a3zz => decide); (case a4zz => rfl); (case a5zz => decide); (case a6zz => intro _; with_unfolding_all rfl)))); trivial)
example : True := by ((k_with "call builtin:sorted" => (k_here; (with_reducible show wpAny _ _ (call (Value.builtin _) [Value.ref _]) _ _ _); (with_unfolding_all refine' kso_sorted ?k1zz ?k2zz ?k3zz ?k4zz ?k5zz ?_; (case k1zz => k_asm); (case k2zz => k_asm); (case k3zz => exact isListOf (by k_asm) (by k_mem)); (case k4zz => assumption); (case k5zz => assumption); k_whole); intro D'zz v'zz n'zz c'zz h'zz F'zz N'zz l1zz i'zz e'zz p'zz o'zz b'zz; (try k_lt l1zz); (try dsimp only))); trivial)
example : True := by ((k_with "compareOp Eq ref ref" => (k_here; (with_reducible show wpAny _ _ (compareOp CmpOp.Eq (Value.ref _) (Value.ref _)) _ _ _); k_dflt (refine' eq_intsK ?k1zz ?k2zz ?k3zz ?k4zz ?k5zz ?_; (case k1zz => exact isListOf (by k_asm) (by k_mem)); (case k3zz => exact isListOf (by k_asm) (by k_mem)); (case k2zz => assumption); (case k4zz => assumption); (case k5zz => ktr_units); k_whole))); trivial)
example : True := by ((k_with "exec For Tuple Name cons nil" => (k_here; (rename Fr _ _ _ _ => lF'zz); k_dflt (refine' For_invTF lF'zz ?_ ?hszz; (case hszz => intro _; with_unfolding_all rfl)))); trivial)
example : True := by ((k_with "k_all" => (assumption)); trivial)
example : True := by ((k_with "setItem ref int" => (k_here; k_dflt (refine' set_any ?k1zz ?k2zz ?k3zz ?k4zz ?k5zz ?k6zz ?_; (case k1zz => k_asm); (case k2zz => k_asm); (case k3zz => k_upd); (case k4zz => first | assumption | omega); (case k5zz => first | assumption | (simp only [List.length_set]; first | assumption | omega)); (case k6zz => omega); k_whole); intro h'zz F'zz N'zz; (try dsimp only))); trivial)
example : True := by ((k_with "subscriptTail Name Slice ref ref" => (k_here; k_dflt (refine' kmk_slice ?Fzz ?Nzz ?lzz ?pzz ?qzz ?_ ?szz ?tzz ?zzz; (case Fzz => k_asm); (case Nzz => k_asm); (case lzz => exact isListOf (by k_asm) (by k_mem)); (case pzz => kmk_part); (case qzz => kmk_part); (case szz => with_unfolding_all rfl); (case tzz => kmk_pure); (case zzz => (simp only [List.size_toArray, List.length_map, sizeLine_eq]; omega))); intro D'zz h'zz F'zz N'zz l1zz; (simp (disch := omega) only [pick_all, pick_upto, pick_from] at N'zz); (try k_lt l1zz); (try dsimp only))); trivial)
example : True := by ((k_with "len" => (first | assumption | omega | (rw [ledF_len]; omega))); trivial)
example : True := by ((k_with "pok" => (first | assumption | exact pok_of (by assumption) (by first | assumption | rw [ledF_len] | (rw [ledF_len]; assumption)))); trivial)
example : True := by ((k_with "nums" => (first | exact NumsIn.led (by assumption) _ | exact NumsIn.mono (NumsIn.led (by assumption) _) (by kcj_all))); trivial)
example : True := by ((k_with "call builtin:len" => (k_here; (with_reducible show wpAny _ _ (call (Value.builtin "len") [Value.ref _]) _ _ _); k_dflt (refine' len_any ?k1zz ?k2zz ?k3zz ?k4zz ?_; (case k1zz => k_asm); (case k2zz => k_mem); (case k3zz => first | exact List.length_map .. | rfl); (case k4zz => first | omega | decide); k_whole))); trivial)
example : True := by ((k_with "call type:range" => (k_here; k_dflt (refine' range_any ?k1zz ?k2zz ?_; (case k1zz => k_asm); (case k2zz => k_asm)); intro D9zz h9zz ta9zz tb9zz tk9zz F9zz N9zz l9zz; (try k_lt l9zz); (try dsimp only); (try k_fold))); trivial)
example : True := by ((k_with "binaryOp Add ref ref" => (k_here; (with_reducible show wpAny _ _ (binaryOp _ (Value.ref _) (Value.ref _)) _ _ _); k_dflt (refine' add_any ?k1zz ?k2zz ?k3zz ?k4zz ?k5zz ?_; (case k1zz => k_asm); (case k2zz => k_asm); (case k3zz => k_mem); (case k4zz => k_mem); (case k5zz => (simp only [List.length_append, List.length_map, List.length_take, List.length_drop, List.length_cons, List.length_nil, sizeLine_eq]; omega))); intro D9zz h9zz F9zz N9zz l9zz; (try simp only [Int.toNat_natCast, toNat_succ, ← List.map_take, ← List.map_drop, ← List.map_append] at N9zz); (try k_lt l9zz); (try dsimp only); (try k_fold))); trivial)
theorem strs_ok {ss : List Str} {zs : List VN} (p : ss.Perm (zs.map fun x => reprN x.2)) : ∀ x ∈ ss, PyData.strOk x = true := fun x hx => by
  obtain ⟨z, _, rfl⟩ := List.mem_map.mp (p.subset hx)
  exact strOk_reprN _
theorem ord_hd {D : Addr} {o : Obj} {led tl : Led} (h : ∀ q ∈ led, ∀ p ∈ (D, o) :: tl, q.1 < p.1) : ∀ q ∈ led, q.1 < D := fun q hq => h q hq _ (.head _)
example : True := by ((k_with "exec For" => (k_here; (rename Fr _ _ _ _ => lF'zz); k_dflt (refine' For_turns lF'zz ?_ ?hszz ?hEzz; (case hszz => intro _; with_unfolding_all rfl); (case hEzz => passes_own)))); trivial)
example : True := by ((k_with "call type:enumerate" => (k_extra "for")); trivial)
example : True := by ((k_with "call builtin:repr" => (k_here; k_dflt (refine' repr_any ?k1zz ?k2zz ?k3zz ?k4zz ?k5zz ?k6zz ?_; (case k1zz => k_asm); (case k2zz => k_asm); (case k3zz => first | assumption | exact NumIn.mono (by assumption) (by kcj_all)); (case k4zz => assumption); (case k5zz => exact rfl); (case k6zz => ktr_units)); intro h9zz u9zz tk9zz F9zz N9zz; (try dsimp only); (try k_fold))); trivial)
example : True := by ((k_with "call builtin:sorted" => (k_here; (with_reducible show wpAny _ _ (call (Value.builtin _) [Value.ref _]) _ _ _); k_dflt (refine' sorted_any ?k1zz ?k2zz ?k3zz ?k4zz ?k5zz ?_; (case k1zz => k_asm); (case k2zz => k_asm); (case k3zz => k_mem); (case k4zz => assumption); (case k5zz => assumption)); intro D9zz h9zz vs9zz ss9zz e9zz F9zz N9zz l9zz a9zz b9zz c9zz; (try k_lt l9zz); (try dsimp only); (try k_fold))); trivial)
example : True := by ((k_with "compareOp NotEq ref ref" => (k_here; (with_reducible show wpAny _ _ (compareOp CmpOp.NotEq (Value.ref _) (Value.ref _)) _ _ _); k_dflt (first | (refine' ne_strs ?k1zz ?k2zz ?k3zz ?k4zz ?k5zz ?k6zz ?k7zz ?k8zz ?_; (case k1zz => k_asm); (case k2zz => k_mem); (case k3zz => k_mem); (case k4zz => assumption); (case k5zz => assumption); (case k6zz => exact sortedS_unique (by assumption) (by assumption) (by assumption) (by assumption) (by assumption)); (case k7zz => exact strs_ok (by assumption)); (case k8zz => ktr_units)) | (refine' ne_same ?k1zz ?k2zz ?k3zz ?k4zz ?k5zz ?k6zz ?k7zz ?k8zz ?_; (case k1zz => k_asm); (case k2zz => k_mem); (case k3zz => k_mem); (case k4zz => first | assumption | exact DatAll.mono (by assumption) (by kcj_all)); (case k5zz => first | assumption | exact DatAll.mono (by assumption) (by kcj_all)); (case k6zz => rfl); (case k7zz => assumption); (case k8zz => ktr_units))); (try dsimp only); (try k_fold))); trivial)
example : True := by ((k_with "compareOp NotIn int ref" => (k_here; (with_reducible show wpAny _ _ (compareOp CmpOp.NotIn (Value.int _ _) (Value.ref _)) _ _ _); k_dflt (refine' notin_pair ?k1zz ?k2zz ?k3zz ?_; (case k1zz => k_asm); (case k2zz => k_mem); (case k3zz => ktr_units)); (try dsimp only); (try k_fold))); trivial)
example : True := by ((k_with "subscriptTail Name Name ref int" => (k_here; (with_reducible show wpAny _ _ (subscriptTail _ _ (Value.ref _) (Value.int _ _)) _ _ _); (with_unfolding_all refine' item_litK ?k1zz ?k2zz ?k3zz ?k4zz ?_ ?k6zz; (case k1zz => exact isListOf (by k_asm) (by k_mem)); (case k4zz => with_reducible assumption); (case k2zz => omega); (case k3zz => omega); (case k6zz => with_unfolding_all rfl); k_whole))); trivial)
theorem news_drop4 {g h : Heap} {L : Addr} {a b c d : Addr × Obj} {r : Led} (N : News g L h (a :: b :: c :: d :: r)) : News g L h r := fun p hp => N p (.tail _ (.tail _ (.tail _ (.tail _ hp))))
theorem news_mid {g h : Heap} {L : Addr} {a : Addr × Obj} {t r : Led} (N : News g L h (a :: (t ++ r))) : News g L h (a :: r) := fun p hp => N p (by
  rcases List.mem_cons.mp hp with rfl | hp
  · exact .head _
  · exact .tail _ (List.mem_append_right _ hp))
theorem ord_more {all led₀ tl₁ tlj : Led} (ho : ∀ q ∈ all, ∀ p ∈ tl₁, q.1 < p.1) (hs : ∀ q ∈ led₀, q ∈ all) (htl : ∀ q ∈ led₀, ∀ p ∈ tlj, q.1 < p.1) : ∀ q ∈ led₀, ∀ p ∈ tl₁ ++ tlj, q.1 < p.1 := fun q hq p hp => by
  rcases List.mem_append.mp hp with hp | hp
  · exact ho q (hs q hq) p hp
  · exact htl q hq p hp
theorem all_cons {d : Addr} {p : Addr × Obj} {r : Led} (h : p.1 ≠ d) (t : ∀ q ∈ r, q.1 ≠ d) : ∀ q ∈ p :: r, q.1 ≠ d := fun q hq => by
  rcases List.mem_cons.mp hq with rfl | hq
  · exact h
  · exact t q hq
example : True := by ((k_with "k_all" => ((repeat (refine all_cons ?_ ?_; focus k_ne)); assumption)); trivial)
theorem ne_objs {h₀ h : Heap} {L a b : Addr} {led : Led} {o o' : Obj} (N : News h₀ L h led) (ha : (a, o) ∈ led) (hb : (b, o') ∈ led) (hd : o.data ≠ o'.data) : a ≠ b := fun e => hd (by
  have h1 := (N _ ha).1
  have h2 := (N _ hb).1
  subst e
  rw [h1] at h2
  exact congrArg Obj.data (Option.some.inj h2))
theorem all_own {own rest : Led} {d I₁ I₂ pa : Addr} (hown : ∀ p ∈ own, p.1 = I₁ ∨ p.1 = I₂ ∨ p.1 = pa) (h1 : d ≠ I₁) (h2 : d ≠ I₂) (h3 : pa ≠ d) (hr : ∀ p ∈ rest, p.1 ≠ d) : ∀ p ∈ own ++ rest, p.1 ≠ d := fun p hp => by
  rcases List.mem_append.mp hp with hp | hp
  · rcases hown p hp with e | e | e
    · rw [e]; exact Ne.symm h1
    · rw [e]; exact Ne.symm h2
    · rw [e]; exact h3
  · exact hr p hp
theorem PairIn.mono {news news' : Led} {v : Value} {p : Int × Int} (h : PairIn news v p) (hs : ∀ p ∈ news, p ∈ news') : PairIn news' v p := by
  obtain ⟨q, t1, t2, k, e, hm⟩ := h
  exact ⟨q, t1, t2, k, e, hs _ hm⟩
/-- a row of exchanges of one pair -/
theorem sp_law_led1 (w : World) (wv : Value) (pa ra : Addr) (pv : Value) (lo hi : Int) (xs : List VN) (kp kr : Nat) (news : Led) (hx : NumsIn news xs) (hl : (ra, listOf (xs.map (·.1)).toArray kr) ∈ news) (hz : xs.length ≤ 60)
    (hp : PairIn news pv (lo, hi)) (hpl : (pa, listOf #[pv] kp) ∈ news) (hpo : PairOk xs.length (lo, hi)) :
    Sp w 6 140 380 [wv, .ref pa, .ref ra] news (fun r tl => ∃ D k', r = .ref D ∧ tl = [(D, listOf ((ledStep xs (lo, hi)).map (·.1)).toArray k')]) :=
  sp_law_led w wv pa ra [(pv, lo, hi)] xs kp kr news hx hl hz (fun x h => by rw [List.mem_singleton.mp h]; exact hp) hpl (fun x h => by rw [List.mem_singleton.mp h]; exact hpo) (by simp)
example : True := by ((k_with "call ref" => (k_here; (with_reducible show wpAny _ _ (call (Value.ref 380) _) _ _ _); k_dflt (refine' sp_useL (sp_law_led1 _ _ _ _ _ _ _ _ _ _ _ ?p1zz ?p2zz ?p3zz ?p4zz ?p5zz ?p6zz) ?k1zz ?k2zz ?k3zz ?k4zz ?k5zz ?kKzz ?kdzz ?kuzz ?_); k_extra "u1"; k_extra "u2"; (case p2zz => k_mem); (case p5zz => k_mem); (case p1zz => first | assumption | exact NumsIn.mono (by assumption) (by kcj_all) | k_extra "nums"); (case p3zz => first | assumption | k_extra "len"); (case p4zz => first | assumption | exact PairIn.mono (by assumption) (by kcj_all)); (case p6zz => first | assumption | k_extra "pok"); intro h9zz tk9zz F9zz D9zz k9zz N9zz l9zz; (have l8zz := ord_hd l9zz); (try k_lt l8zz); (try dsimp only); (try k_fold))); trivial)
/-- the places that are not exchanged -/
def offDat (zs : List VN) (lo hi : Int) (i : Nat) : List Dat := ((List.range i).filter fun j : Nat => decide ((j : Int) ≠ lo ∧ (j : Int) ≠ hi)).map fun j => numDat (zs.getD j (.none, .i 0)).2
theorem offDat_in {zs : List VN} {lo hi : Int} {i : Nat} (h : (i : Int) ≠ lo ∧ (i : Int) ≠ hi) {z : VN} (hz : zs[i]? = some z) : offDat zs lo hi (i + 1) = offDat zs lo hi i ++ [numDat z.2] := by
  unfold offDat
  rw [List.range_succ, List.filter_append, List.map_append]
  congr 1
  rw [List.filter_cons, if_pos (by simpa using h)]
  simp [List.getD_eq_getElem?_getD, hz]
theorem offDat_out {zs : List VN} {lo hi : Int} {i : Nat} (h : ¬ ((i : Int) ≠ lo ∧ (i : Int) ≠ hi)) : offDat zs lo hi (i + 1) = offDat zs lo hi i := by
  unfold offDat
  rw [List.range_succ, List.filter_append, List.map_append, List.filter_cons, if_neg (by simpa using h)]
  simp
theorem offDat_ok (zs : List VN) (lo hi : Int) (i : Nat) : ∀ d ∈ offDat zs lo hi i, kqdOk 8 d = true := fun d hd => by
  obtain ⟨j, _, rfl⟩ := List.mem_map.mp hd
  exact numDat_ok _ 7
theorem datAll_snoc {led : Led} {ys : List Value} {ds : List Dat} {v : Value} {d : Dat} (h : DatAll led ys ds) (hv : DatIn led v d) : DatAll led (ys ++ [v]) (ds ++ [d]) := h.append (.cons hv .nil)
/-- the frame between the turns -/
def keptM (pa : Addr) (wv : Value) (u : Str → Option Value) : Str → Option Value := fun z => if z = Str.ofString "world" then some wv else if z = Str.ofString "pairs" then some (.ref pa) else u z
theorem keptM_of {m : Str → Option Value} {pa : Addr} {wv : Value} (h2 : m (Str.ofString "world") = some wv) (h3 : m (Str.ofString "pairs") = some (.ref pa)) : m = keptM pa wv m := by
  funext z
  unfold keptM
  split
  · rename_i h; rw [h, h2]
  · split
    · rename_i h; rw [h, h3]
    · rfl
theorem sp_law_is_kept (w : World) (wv : Value) (pa ra : Addr) (pxs : List (Value × Int × Int)) (xs : List VN) (kp kr : Nat) (news : Led) (hx : NumsIn news xs) (hl : (ra, listOf (xs.map (·.1)).toArray kr) ∈ news) (hz : xs.length ≤ 10)
    (hp : PairsIn news pxs) (hpl : (pa, listOf (pxs.map (·.1)).toArray kp) ∈ news) (hpo : ∀ x ∈ pxs, PairOk xs.length x.2) (hpz : pxs.length ≤ 10) (hnd : NodupU xs) :
    SpG w 12 400 395 [wv, .ref pa, .ref ra] news (fun r tl => r = .bool true ∧ tl = []) := by
  unfold SpG
  intro p loose mean mg mb dp un cn cs a ccd cl outer A₀ base h₀ L m s Q E B F X N T hk hd hu hret
  refine wpAny_call ?_
  k_dflt (refine' code_defC ?k1 ?k2 ?k3 ?k4 ?k5 ?kA ?kF ?kK ?k6 ?k7 ?k8 ?k9 ?kB ?kD ?_ ?c2 ?c3 ?c4; (case kA => exact rfl); (case kF => exact rfl); (case kK => assumption); (case k1 => k_asm); (case k2 => k_asm); (case k3 => k_asm); (case k4 => k_asm); (case k5 => k_asm); (case k6 => k_is); (case k7 => k_is); (case k8 => ktr_room); (case k9 => exact BindsTo.of_eq rfl); (case kB => exact rfl); (case kD => decide +kernel); (case c2 => exact rfl); (case c3 => exact rfl); (case c4 => exact rfl); k_whole)
  intro g' L' h' tk' cells' FG' F' N' Y' B' X' T' l1
  k_cells Y'
  (try dsimp only)
  (try k_fold)
  k_with "for" => refine for_enum (fun i m led => ∃ o1 o2 o3 o4 u rc tl kc v1 v2 v3, m = keptM pa wv u ∧ led = (L' + 1 + 1 + 1 + 1, o1) :: (L' + 1 + 1 + 1, o2) :: (L' + 1 + 1, o3) :: (L' + 1, o4) :: (tl ++ news) ∧ o1.data = .cell v1 ∧ o2.data = .cell v2 ∧ o3.data = .cell v3 ∧ o4.data = .cell (some (.ref rc)) ∧ (rc, listOf ((ledF ((pxs.map (·.2)).take i) xs).map (·.1)).toArray kc) ∈ tl ++ news ∧ ∀ p ∈ tl ++ news, p.1 ≠ L' + 1 + 1 + 1 + 1 ∧ p.1 ≠ L' + 1 + 1 + 1 ∧ p.1 ≠ L' + 1 + 1 ∧ p.1 ≠ L' + 1) rfl (by k_asm) (by k_asm) (by k_mem) (held ?h0) (held ?turn) (held ?dn)
  repeat' (first | (k_unfold; (try dsimp only)) | walk1 | (dsimp only; walk1) | (leave1; try dsimp only))
  case h0 =>
    refine ⟨_, _, _, _, _, ra, [], kr, _, _, _, keptM_of rfl rfl, rfl, by assumption, by assumption, by assumption, by assumption, hl, fun p hp => ?_⟩
    have : @LT.lt Nat _ p.1 L' := l1 p hp
    exact ⟨Nat.ne_of_lt (by show @LT.lt Nat _ _ _; omega), Nat.ne_of_lt (by show @LT.lt Nat _ _ _; omega), Nat.ne_of_lt (by show @LT.lt Nat _ _ _; omega), Nat.ne_of_lt (by show @LT.lt Nat _ _ _; omega)⟩
  case turn =>
    intro i v T t kT m₁ led₁ own I₁ I₂ h₁ tk₁ hv hJ hoff Ft Nt hI1 hI2 hown hTlt
    obtain ⟨o1, o2, o3, o4, u, rc, tl, kc, v1, v2, v3, rfl, rfl, d1, d2, d3, d4, hrc, hdis⟩ := hJ
    obtain ⟨px, hpi, rfl⟩ : ∃ x, pxs[i]? = some x ∧ x.1 = v := by simpa using hv
    have hpm := List.mem_of_getElem? hpi
    have hpin := hp px hpm
    obtain ⟨q, t1, t2, kq, hq1, hq⟩ := hpin
    have hpo' := hpo px hpm
    obtain ⟨vq, lo, hi⟩ := px
    simp only at hq1 hq
    subst hq1
    have hpi' : (pxs.map (·.2))[i]? = some (lo, hi) := by rw [List.getElem?_map, hpi]; rfl
    have hvi : (pxs.map (·.1))[i]? = some (Value.ref q) := by rw [List.getElem?_map, hpi]; rfl
    have hlen := ledF_len ((pxs.map (·.2)).take i) xs
    have hsn := ledF_snoc (xs := xs) hpi'
    have hnums := hx.led ((pxs.map (·.2)).take i)
    have hnc : NodupU (ledF ((pxs.map (·.2)).take i) xs) := nodup_perm hnd (ledF_perm _ xs hnd fun p hp' => by
      obtain ⟨z, hz9, rfl⟩ := List.mem_map.mp (List.mem_of_mem_take hp')
      exact hpo z hz9)
    generalize ledF ((pxs.map (·.2)).take i) xs = cur at hlen hsn hnums hrc hnc
    have hcn : cur.length ≤ 60 := by omega
    have hpo2 : PairOk cur.length (lo, hi) := by rw [hlen]; exact hpo'
    have hpin : PairIn news (.ref q) (lo, hi) := ⟨q, t1, t2, kq, rfl, hq⟩
    have hil : (i : Int) < ((pxs.map (·.1)).length : Int) := by
      have := (List.getElem?_eq_some_iff.mp hvi).1
      omega
    have hil2 : i < 10 := by
      have := (List.getElem?_eq_some_iff.mp hvi).1
      rw [List.length_map] at this
      omega
    have N' : News g' L' h₁ ((L' + 1 + 1 + 1 + 1, o1) :: (L' + 1 + 1 + 1, o2) :: (L' + 1 + 1, o3) :: (L' + 1, o4) :: (T, tupO [.int i t, .ref q] kT) :: (own ++ (tl ++ news))) := fun p hp => Nt p (by
      exact subq (by (try dsimp only); with_reducible k_extra "sub") hp)
    clear Nt
    have hpa := hdis _ (List.mem_append_right _ hpl)
    have hi1 := hoff _ (.head _)
    have hi2 := hoff _ (.tail _ (.head _))
    have hi3 := hoff _ (.tail _ (.tail _ (.head _)))
    have hi4 := hoff _ (.tail _ (.tail _ (.tail _ (.head _))))
    have hb1 := all_own hown hi1.1 hi1.2 hpa.1 (fun p hp => (hdis p hp).1)
    have hb2 := all_own hown hi2.1 hi2.2 hpa.2.1 (fun p hp => (hdis p hp).2.1)
    have hb3 := all_own hown hi3.1 hi3.2 hpa.2.2.1 (fun p hp => (hdis p hp).2.2.1)
    have hb4 := all_own hown hi4.1 hi4.2 hpa.2.2.2 (fun p hp => (hdis p hp).2.2.2)
    have hT4 : @LT.lt Nat _ (L' + 1 + 1 + 1 + 1) T := hTlt _ (.head _)
    obtain ⟨x, y, S⟩ := stepAt hpo2
    obtain ⟨o1', o2', o3', o4', o5'⟩ := id hpo2
    simp only at o1' o2' o3' o4' o5'
    have hnn : NumsIn news (ledStep cur (lo, hi)) := fun z hz => hnums z (ledStep_mem z hz)
    have hln : (ledStep cur (lo, hi)).length = cur.length := ledStep_len
    have hc10 : cur.length ≤ 10 := by omega
    have hper := (S.perm hnc).map fun x : VN => reprN x.2
    obtain ⟨nx, okx⟩ := hnn _ (List.mem_of_getElem? S.lo')
    obtain ⟨ny, oky⟩ := hnn _ (List.mem_of_getElem? S.hi')
    have hvlo : ((ledStep cur (lo, hi)).map (·.1))[lo.toNat]? = some x.1 := by rw [List.getElem?_map, S.lo']; rfl
    have hvhi : ((ledStep cur (lo, hi)).map (·.1))[hi.toNat]? = some y.1 := by rw [List.getElem?_map, S.hi']; rfl
    have hle := S.le
    dsimp only
    k_with "comp" => refine comp_map_listG (fun led₀ i ys led => led = led₀ ∧ StrsAre ys (((ledStep cur (lo, hi)).take i).map fun x => reprN x.2)) rfl rfl rfl (by k_asm) (by k_asm) (by k_mem) (held ?sz) (held ?h0) (held ?ok) (held ?dn1)
    repeat' (first | (k_unfold; (try dsimp only)) | walk1 | (dsimp only; walk1) | (leave1; try dsimp only))
    case sz => exact Nat.le_trans (by rw [List.length_map, hln]; exact hcn) (by decide)
    case h0 => exact ⟨rfl, .nil⟩
    case ok =>
      intro C i v ys led' own oC m₂ h tk E' hv hI Fc Nc nC hm₂ hno
      obtain ⟨rfl, hss⟩ := hI
      obtain ⟨z, hzi, rfl⟩ : ∃ x, (ledStep cur (lo, hi))[i]? = some x ∧ x.1 = v := by simpa using hv
      obtain ⟨nz, okz⟩ := hnn z (List.mem_of_getElem? hzi)
      repeat' (first | (k_unfold; (try dsimp only)) | walk1 | (dsimp only; walk1) | (leave1; try dsimp only))
      exact PStep.intro [] (by k_asm) (by assumption) ktn_ord0 ⟨rfl, strs_snoc hzi hss⟩
    case dn1 =>
      have h9zz := True.intro; have tk9zz := True.intro; have D9zz := True.intro; have k9zz := True.intro; have l9zz := True.intro; have l8zz := True.intro -- ok
      rename_i h7 F1 N1 h6 h5 h4 o3c d3c h3 o2c d2c tk0 l0 h2 l10 h92 tk92 D6 k6 l92 l80 h10 o1c Fc0 Nc0 d1c -- ok
      intro Da ysa leda ka ha tka hInva hlea Fa Na hnea hlta
      obtain ⟨rfl, hss1⟩ := hInva
      rw [List.length_map, List.take_length] at hss1
      have h64a : ysa.length < 64 := by rw [List.length_map] at hlea; omega
      k_with "comp" => refine comp_map_listG (fun led₀ i ys led => led = led₀ ∧ StrsAre ys ((cur.take i).map fun x => reprN x.2)) rfl rfl rfl (by k_asm) (by k_asm) (by k_mem) (held ?sz) (held ?h0) (held ?ok) (held ?dn2)
      repeat' (first | (k_unfold; (try dsimp only)) | walk1 | (dsimp only; walk1) | (leave1; try dsimp only))
      case sz => exact Nat.le_trans (by rw [List.length_map]; exact hcn) (by decide)
      case h0 => exact ⟨rfl, .nil⟩
      case ok =>
        intro C i v ys led' own oC m₂ h tk E' hv hI Fc Nc nC hm₂ hno
        obtain ⟨rfl, hss⟩ := hI
        obtain ⟨z, hzi, rfl⟩ : ∃ x, cur[i]? = some x ∧ x.1 = v := by simpa using hv
        obtain ⟨nz, okz⟩ := hnums z (List.mem_of_getElem? hzi)
        repeat' (first | (k_unfold; (try dsimp only)) | walk1 | (dsimp only; walk1) | (leave1; try dsimp only))
        exact PStep.intro [] (by k_asm) (by assumption) ktn_ord0 ⟨rfl, strs_snoc hzi hss⟩
      case dn2 =>
        have D9zz := True.intro; have h9zz := True.intro; have vs9zz := True.intro; have ss9zz := True.intro; have e9zz := True.intro; have F9zz := True.intro; have N9zz := True.intro; have a9zz := True.intro; have b9zz := True.intro; have c9zz := True.intro; have l9zz := True.intro -- ok
        rename_i Db hb vsb ssb eb Fb Nb ab bb cb lb -- ok
        intro Dc ysc ledc kc hc tkc hInvc hlec Fc Nc hnec hltc
        obtain ⟨rfl, hss2⟩ := hInvc
        rw [List.length_map, List.take_length] at hss2
        have h64c : ysc.length < 64 := by rw [List.length_map] at hlec; omega
        k_with "comp" => refine comp_range (fun led₀ i ys led => ∃ tl, led = tl ++ led₀ ∧ (∀ q ∈ led₀, ∀ p ∈ tl, q.1 < p.1) ∧ DatAll led₀ ys (offDat (ledStep cur (lo, hi)) lo hi i)) rfl rfl (Nat.le_trans hcn (by decide)) rfl (by k_asm) (by k_asm) (by k_mem) (held ?hsA) (held ?hnA) (held ?h0A) (held ?okA) (held ?dnA)
        iterate 14 (first | (k_unfold; (try dsimp only)) | walk1 | (dsimp only; walk1) | (leave1; try dsimp only))
        have D9zz := True.intro; have h9zz := True.intro; have vs9zz := True.intro; have ss9zz := True.intro; have e9zz := True.intro; have F9zz := True.intro; have N9zz := True.intro; have a9zz := True.intro; have b9zz := True.intro; have c9zz := True.intro; have l9zz := True.intro -- ok
        rename_i Dd hd9 vsd ssd ed Fd Nd ad bd cd ld -- ok
        have nE := news_drop4 Nd
        clear ld cd bd ad Nd h64c hltc hnec Nc hss2 Fc hlec lb cb bb ab Nb Fb h64a hnea Na hss1 hlta Fa hlea Nc0 Fc0 l92 N1 F1
        repeat' (first | (k_unfold; (try dsimp only)) | walk1 | (dsimp only; walk1) | (leave1; try dsimp only))
        case hsA => exact range_small (by omega)
        case hnA => exact range_size _
        case h0A => exact ⟨[], rfl, (fun _ _ _ h => nomatch h), .nil⟩
        case okA =>
          intro C j tv ys led' own' oC m₂ h tk E' hj hI Fc Nc nC hm₂ hno
          obtain ⟨tlj, rfl, htl, hdd⟩ := hI
          obtain ⟨z, hz1⟩ : ∃ z, (ledStep cur (lo, hi))[j]? = some z := ⟨_, List.getElem?_eq_getElem (by rw [hln]; exact hj)⟩
          have hzn := (hnn z (List.mem_of_getElem? hz1)).1
          have hvj : ((ledStep cur (lo, hi)).map (·.1))[(j : Int).toNat]? = some z.1 := by rw [Int.toNat_natCast, List.getElem?_map, hz1]; rfl
          refine wpAny_tests_one ?_
          repeat' (first | (k_unfold; (try dsimp only)) | walk1 | (dsimp only; walk1) | (leave1; try dsimp only))
          all_goals first
            | refine PStep.intro [_] (by k_asm) (by assumption) (by first | exact ktn_ord1 (by assumption) | ktn_ord) ⟨_ :: tlj, rfl, ord_more (tl₁ := [_]) (all := (C, oC) :: (own' ++ (tlj ++ _))) (by first | exact ktn_ord1 (by assumption) | ktn_ord) (fun q hq => List.mem_cons_of_mem _ (List.mem_append_right _ (List.mem_append_right _ hq))) htl, ?_⟩; rw [offDat_in (by first | assumption | exact of_decide_eq_true (by assumption)) (hz1)]; exact datAll_snoc hdd (NumIn.dat (hzn.mono (by kcj_all)))
            | refine PStep.intro [_] (by k_asm) (by assumption) (by first | exact ktn_ord1 (by assumption) | ktn_ord) ⟨_ :: tlj, rfl, ord_more (tl₁ := [_]) (all := (C, oC) :: (own' ++ (tlj ++ _))) (by first | exact ktn_ord1 (by assumption) | ktn_ord) (fun q hq => List.mem_cons_of_mem _ (List.mem_append_right _ (List.mem_append_right _ hq))) htl, ?_⟩; rw [offDat_out (by first | assumption | exact of_decide_eq_false (by assumption) | exact fun q => absurd (decide_eq_true q) (by assumption))]; exact hdd
        case dnA =>
          intro De yse lede ke he tke hInve hlee Fe Ne hnee hlte
          obtain ⟨tle, rfl, hole, hde⟩ := hInve
          have Ne2 := news_mid Ne
          have hDe : @LT.lt Nat _ (L' + 1 + 1 + 1 + 1) De := hlte _ (.tail _ (.tail _ (.tail _ (.head _))))
          clear Ne hnee hlte hole hlee
          k_with "comp" => refine comp_range (fun led₀ i ys led => ∃ tl, led = tl ++ led₀ ∧ (∀ q ∈ led₀, ∀ p ∈ tl, q.1 < p.1) ∧ DatAll led₀ ys (offDat (ledStep cur (lo, hi)) lo hi i)) rfl rfl (Nat.le_trans hcn (by decide)) rfl (by k_asm) (by k_asm) (by k_mem) (held ?hsB) (held ?hnB) (held ?h0B) (held ?okB) (held ?dnB)
          repeat' (first | (k_unfold; (try dsimp only)) | walk1 | (dsimp only; walk1) | (leave1; try dsimp only))
          case hsB => exact range_small (by omega)
          case hnB => exact range_size _
          case h0B => exact ⟨[], rfl, (fun _ _ _ h => nomatch h), .nil⟩
          case okB =>
            intro C j tv ys led' own' oC m₂ h tk E' hj hI Fc Nc nC hm₂ hno
            obtain ⟨tlj, rfl, htl, hdd⟩ := hI
            obtain ⟨z, hz1⟩ : ∃ z, cur[j]? = some z := ⟨_, List.getElem?_eq_getElem hj⟩
            have hzn := (hnums z (List.mem_of_getElem? hz1)).1
            have hvj : (cur.map (·.1))[(j : Int).toNat]? = some z.1 := by rw [Int.toNat_natCast, List.getElem?_map, hz1]; rfl
            have hz2 : ((j : Int) ≠ lo ∧ (j : Int) ≠ hi) → (ledStep cur (lo, hi))[j]? = some z := fun q => by
              rw [S.off j (by omega) (by omega)]; exact hz1
            refine wpAny_tests_one ?_
            repeat' (first | (k_unfold; (try dsimp only)) | walk1 | (dsimp only; walk1) | (leave1; try dsimp only))
            all_goals first
              | refine PStep.intro [_] (by k_asm) (by assumption) (by first | exact ktn_ord1 (by assumption) | ktn_ord) ⟨_ :: tlj, rfl, ord_more (tl₁ := [_]) (all := (C, oC) :: (own' ++ (tlj ++ _))) (by first | exact ktn_ord1 (by assumption) | ktn_ord) (fun q hq => List.mem_cons_of_mem _ (List.mem_append_right _ (List.mem_append_right _ hq))) htl, ?_⟩; rw [offDat_in (by first | assumption | exact of_decide_eq_true (by assumption)) (hz2 (by first | assumption | exact of_decide_eq_true (by assumption)))]; exact datAll_snoc hdd (NumIn.dat (hzn.mono (by kcj_all)))
              | refine PStep.intro [_] (by k_asm) (by assumption) (by first | exact ktn_ord1 (by assumption) | ktn_ord) ⟨_ :: tlj, rfl, ord_more (tl₁ := [_]) (all := (C, oC) :: (own' ++ (tlj ++ _))) (by first | exact ktn_ord1 (by assumption) | ktn_ord) (fun q hq => List.mem_cons_of_mem _ (List.mem_append_right _ (List.mem_append_right _ hq))) htl, ?_⟩; rw [offDat_out (by first | assumption | exact of_decide_eq_false (by assumption) | exact fun q => absurd (decide_eq_true q) (by assumption))]; exact hdd
          case dnB =>
            intro Df ysf ledf kf hf tkf hInvf hlef Ff Nf hnef hltf
            obtain ⟨tlf, rfl, holf, hdf⟩ := hInvf
            have Nf2 := news_mid Nf
            have hDf : @LT.lt Nat _ (L' + 1 + 1 + 1 + 1) Df := hltf _ (.tail _ (.tail _ (.tail _ (.tail _ (.tail _ (.head _))))))
            clear Nf hnef hltf holf hlef
            have hokd := offDat_ok (ledStep cur (lo, hi)) lo hi cur.length
            repeat' (first | (k_unfold; (try dsimp only)) | walk1 | (dsimp only; walk1) | (leave1; try dsimp only))
            rename_i hZ o4c FZ NZ d4c -- ok
            refine EStep.intro (nx := (L' + 1 + 1 + 1 + 1, o1c) :: (L' + 1 + 1 + 1, o2c) :: (L' + 1 + 1, o3c) :: (L' + 1, o4c) :: (((D6, listOf ((ledStep cur (lo, hi)).map (·.1)).toArray k6) :: tl) ++ news)) (by k_asm) (fun p hp => NZ p ?_) ?_ ⟨o1c, o2c, o3c, o4c, _, D6, (D6, listOf ((ledStep cur (lo, hi)).map (·.1)).toArray k6) :: tl, k6, _, _, _, keptM_of rfl rfl, rfl, d1c, d2c, d3c, d4c, ?_, ?_⟩
            · exact subq (by (try dsimp only); with_reducible k_extra "sub") hp
            · have hDI : ∀ I o, (I, o) ∈ own → D6 ≠ I := fun I o hI => Nat.ne_of_gt (ktn_ltOf (d := D6) (l := own ++ (tl ++ news)) l80.2.2.2.2.2.2 (I, o) (List.mem_append_left _ hI))
              obtain ⟨_, hI1⟩ := hI1
              obtain ⟨_, hI2⟩ := hI2
              intro p hp
              simp only [List.mem_append, List.mem_cons] at hp
              rcases hp with rfl | rfl | rfl | rfl | (rfl | hp) | hp
              · exact hi1
              · exact hi2
              · exact hi3
              · exact hi4
              · exact ⟨hDI _ _ hI1, hDI _ _ hI2⟩
              · exact hoff p (.tail _ (.tail _ (.tail _ (.tail _ (List.mem_append_left _ hp)))))
              · exact hoff p (.tail _ (.tail _ (.tail _ (.tail _ (List.mem_append_right _ hp)))))
            · rw [hsn]; exact .head _
            · intro p hp
              rcases List.mem_cons.mp hp with rfl | hp
              · exact ⟨Nat.ne_of_gt l80.2.1, Nat.ne_of_gt l80.2.2.1, Nat.ne_of_gt l80.2.2.2.1, Nat.ne_of_gt l80.2.2.2.2.1⟩
              · exact hdis p hp
  case dn =>
    intro h' tk m' led' hJ F' N'
    obtain ⟨o1, o2, o3, o4, u, rc, tl, kc, v1, v2, v3, rfl, rfl, d1, d2, d3, d4, hrc, hdis⟩ := hJ
    repeat' (first | (k_unfold; (try dsimp only)) | walk1 | (dsimp only; walk1) | (leave1; try dsimp only))
    all_goals exact hret _ [] _ _ (by k_asm) (cb_drop (by assumption) (by kcj_all)) (by first | ktn_ord | exact ord_sub (by assumption) (by kcj_all)) ⟨rfl, rfl⟩
end Mine
end
section
open PySem PySem.W PyProof.Rows
set_option maxRecDepth 100000
set_option maxHeartbeats 8000000
set_option linter.unusedVariables false
namespace Mine
example : True := by (k_with_none; trivial)
example : True := by ((k_with "u1" => ((case k1zz => k_asm); (case k2zz => k_asm); (case k3zz => k_asm); (case k4zz => k_asm); (case k5zz => k_asm))); trivial)
example : True := by ((k_with "u2" => ((case kKzz => first | exact rfl | assumption); (case kdzz => ktr_room); (case kuzz => ktr_units))); trivial)
example : True := by ((k_with "u3" => (intro r9zz tl9zz h9zz tk9zz F9zz N9zz l9zz o9zz; (try dsimp only at o9zz))); trivial)
example : True := by ((k_with "u4" => ((try simp only [List.nil_append, List.cons_append] at N9zz); (try dsimp only); (try k_fold))); trivial)
example : True := by ((k_with "suf" => (first | apply sub_refl | assumption | (refine sub_tail ?_; k_extra "suf") | (refine sub_app ?_; k_extra "suf") | apply sub_nil | (refine sub_appL ?_; k_extra "suf"))); trivial)
example : True := by ((k_with "in" => (first | assumption | apply in_head | (refine in_tail ?_; k_extra "in") | (refine in_app ?_; k_extra "in") | (refine in_appL ?_; k_extra "in"))); trivial)
example : True := by ((k_with "sub" => (first | k_extra "suf" | (refine sub_cons ?_ ?_; (focus k_extra "in"); k_extra "sub") | (refine sub_both ?_ ?_; (focus k_extra "sub"); k_extra "sub") | (refine sub_trans ?_ (by assumption); k_extra "suf"))); trivial)
example : True := by ((k_with "lt0" => (first | assumption | (refine Mine.pickA (by assumption) ?_; intro hz9zz; first | apply hz9zz.1 | (replace hz9zz := hz9zz.2; first | apply hz9zz.1 | (replace hz9zz := hz9zz.2; first | apply hz9zz.1 | (replace hz9zz := hz9zz.2; first | apply hz9zz.1 | (replace hz9zz := hz9zz.2; first | apply hz9zz.1 | (replace hz9zz := hz9zz.2; first | apply hz9zz.1 | (replace hz9zz := hz9zz.2; first | apply hz9zz.1 | (replace hz9zz := hz9zz.2; first | apply hz9zz.1 | (replace hz9zz := hz9zz.2; first | apply hz9zz.1 | (replace hz9zz := hz9zz.2; first | apply hz9zz.1 | (replace hz9zz := hz9zz.2; first | apply hz9zz.1 | (replace hz9zz := hz9zz.2; first | apply hz9zz.1 | (replace hz9zz := hz9zz.2; first | apply hz9zz.1 | (replace hz9zz := hz9zz.2; first | apply hz9zz.1 | apply hz9zz.2)))))))))))))))); trivial)
example : True := by ((k_with "lt1" => (first | apply Mine.sl1 | apply Mine.sl2 | apply Mine.sl3 | apply Mine.sl4 | exact Mine.dn1 (by assumption) | exact Mine.dn2 (by assumption) | exact Mine.dn3 (by assumption) | exact Mine.dn4 (by assumption) | exact Mine.upx (by assumption) (by assumption) | exact Mine.up4 (by assumption) | (refine Nat.lt_trans ?_ (by assumption); first | k_extra "lt0" | exact Mine.dn1 (by assumption) | exact Mine.dn2 (by assumption) | exact Mine.dn3 (by assumption) | exact Mine.dn4 (by assumption) | (refine Nat.lt_trans ?_ (by assumption); k_extra "lt0")))); trivial)
example : True := by ((k_with "LeaveK" => (k_dflt (refine' leaveK_ ?k1zz ?k2zz ?_; (case k1zz => k_asm); (case k2zz => k_asm); k_whole); intro kFzz kNzz; (try dsimp only))); trivial)
example : True := by ((k_with "k_mem" => (first | assumption | (refine' List.mem_append_right _ ?_; k_mem) | (refine' List.mem_append_left _ ?_; k_mem))); trivial)
example : True := by ((k_with "kcj_all" => (k_whole; first | (refine fun pzz hpzz => List.mem_append_right _ ?_; assumption) | (intro pzz hpzz; (simp only [List.mem_append, List.mem_cons, List.not_mem_nil, or_false, false_or] at hpzz ⊢); first | assumption | (simp only [hpzz, true_or, or_true]; done) | grind))); trivial)
example : True := by ((k_with "kcj_all" => (k_whole; with_reducible k_extra "sub")); trivial)
example : True := by ((k_with "newTuple" => (k_here; k_dflt (refine' kup_newTuple ?Fzz ?Nzz ?_ ?zzz; (case Fzz => k_asm); (case Nzz => k_asm); (case zzz => kmk_size)); intro D'zz h'zz F'zz N'zz l1zz; (try k_lt l1zz); (try k_sweep))); trivial)
example : True := by ((k_with "binaryOp Pow int int" => ((with_reducible refine pow_int_small ?kb1zz ?kb2zz ?kb3zz ?_); (case kb1zz => omega); (case kb2zz => omega); (case kb3zz => decide))); trivial)
example : True := by ((k_with "subscriptTail" => (k_here; (with_reducible show wpAny _ _ (subscriptTail _ _ (Value.ref _) (Value.int _ _)) _ _ _); (with_unfolding_all refine' item_litK ?k1zz ?k2zz ?k3zz ?k4zz ?_ ?k6zz; (case k1zz => exact isListOf (by k_asm) (by k_mem)); (case k2zz => first | decide | omega); (case k3zz => first | decide | omega); (case k4zz => first | rfl | assumption); (case k6zz => with_unfolding_all rfl); k_whole))); trivial)
example : True := by ((k_with "subscriptTail Name Name ref int" => (k_here; (with_reducible show wpAny _ _ (subscriptTail _ _ (Value.ref _) (Value.int _ _)) _ _ _); (with_unfolding_all refine' item_litK ?k1zz ?k2zz ?k3zz ?k4zz ?_ ?k6zz; (case k1zz => exact isListOf (by k_asm) (by k_mem)); (case k2zz => first | decide | omega); (case k3zz => first | decide | omega); (case k4zz => first | rfl | assumption); (case k6zz => with_unfolding_all rfl); k_whole))); trivial)
example : True := by ((k_with "subscriptTail Name Constant ref int" => (k_here; (with_reducible show wpAny _ _ (subscriptTail _ _ (Value.ref _) (Value.int _ _)) _ _ _); (with_unfolding_all refine' item_litK ?k1zz ?k2zz ?k3zz ?k4zz ?_ ?k6zz; (case k1zz => exact isListOf (by k_asm) (by k_mem)); (case k2zz => first | decide | omega); (case k3zz => first | decide | omega); (case k4zz => first | rfl | assumption); (case k6zz => with_unfolding_all rfl); k_whole))); trivial)
example : True := by ((k_with "call ref" => (k_here; (with_reducible show wpAny _ _ (call (Value.ref 255) _) _ _ _); k_dflt (refine' sp_use (sp_reckoned _ _ _ _ _ _ _ _ _ ?p1zz ?p2zz ?p3zz ?p4zz ?p5zz) ?k1zz ?k2zz ?k3zz ?k4zz ?k5zz ?kKzz ?kdzz ?kuzz ?_); k_extra "u1"; k_extra "u2"; (case p4zz => first | exact numIn_i | exact numIn_d (by k_mem) | exact NumIn.mono (by assumption) (by kcj_all) | assumption); (case p5zz => first | exact numIn_i | exact numIn_d (by k_mem) | exact NumIn.mono (by assumption) (by kcj_all) | assumption); (case p1zz => assumption); (case p2zz => assumption); (case p3zz => first | assumption | k_extra "sum"); k_extra "u3"; skip; k_extra "u4")); trivial)
example : True := by ((k_with "getAttr ref" => (k_here; k_dflt (refine' get_own ?k1zz ?k2zz ?k3zz ?k4zz ?k5zz ?k6zz ?k7zz ?k8zz ?k9zz ?_; (case k1zz => k_asm); (case k2zz => k_asm); (case k3zz => k_inst); (case k4zz => k_is); (case k5zz => k_is); (case k6zz => k_is); (case k7zz => k_is); (case k8zz => assumption); (case k9zz => exact rfl); k_whole))); trivial)
example : True := by ((k_with "call ref" => (k_here; (with_reducible show wpAny _ _ (call (Value.ref 262) _) _ _ _); k_dflt (refine' sp_use (sp_negated _ _ _ _ _ _ ?p1zz ?p2zz) ?k1zz ?k2zz ?k3zz ?k4zz ?k5zz ?kKzz ?kdzz ?kuzz ?_); k_extra "u1"; k_extra "u2"; (case p2zz => first | assumption | exact NumIn.mono (by assumption) (by kcj_all)); (case p1zz => assumption); k_extra "u3"; skip; k_extra "u4")); trivial)
example : True := by ((k_with "call ref" => (k_here; (with_reducible show wpAny _ _ (call (Value.ref 368) _) _ _ _); k_dflt (refine' sp_useI (sp_units _ _ _ _ ?p1zz ?p2zz) ?k1zz ?k2zz ?k3zz ?k4zz ?k5zz ?kKzz ?kdzz ?kuzz ?_); k_extra "u1"; k_extra "u2"; (case p2zz => first | assumption | exact NumIn.mono (by assumption) (by kcj_all)); (case p1zz => assumption); intro h9zz tk9zz F9zz t9zz N9zz; (try dsimp only); (try k_fold))); trivial)
example : True := by ((k_with "call ref" => (k_here; (with_reducible show wpAny _ _ (call (Value.ref 361) _) _ _ _); k_dflt (refine' sp_use (sp_law_number _ _ _ _ _ ?p1zz ?p2zz) ?k1zz ?k2zz ?k3zz ?k4zz ?k5zz ?kKzz ?kdzz ?kuzz ?_); k_extra "u1"; k_extra "u2"; (case p1zz => omega); (case p2zz => omega); k_extra "u3"; skip; k_extra "u4")); trivial)
example : True := by ((k_with "call ref" => (k_here; (with_reducible show wpAny _ _ (call (Value.ref 311) _) _ _ _); k_dflt (refine' sp_useV (sp_number_min _ _ _ _ _ _ _ _ _ ?p1zz ?p2zz ?p3zz ?p4zz ?p5zz) ?k1zz ?k2zz ?k3zz ?k4zz ?k5zz ?kKzz ?kdzz ?kuzz ?_); k_extra "u1"; k_extra "u2"; (case p5zz => k_mem); (case p3zz => first | assumption | exact NumIn.mono (by assumption) (by kcj_all)); (case p4zz => first | assumption | exact NumIn.mono (by assumption) (by kcj_all)); (case p1zz => assumption); (case p2zz => assumption); intro h9zz tk9zz F9zz N9zz; (try dsimp only); (try k_fold))); trivial)
example : True := by ((k_with "call ref" => (k_here; (with_reducible show wpAny _ _ (call (Value.ref 318) _) _ _ _); k_dflt (refine' sp_useV (sp_number_max _ _ _ _ _ _ _ _ _ ?p1zz ?p2zz ?p3zz ?p4zz ?p5zz) ?k1zz ?k2zz ?k3zz ?k4zz ?k5zz ?kKzz ?kdzz ?kuzz ?_); k_extra "u1"; k_extra "u2"; (case p5zz => k_mem); (case p3zz => first | assumption | exact NumIn.mono (by assumption) (by kcj_all)); (case p4zz => first | assumption | exact NumIn.mono (by assumption) (by kcj_all)); (case p1zz => assumption); (case p2zz => assumption); intro h9zz tk9zz F9zz N9zz; (try dsimp only); (try k_fold))); trivial)
example : True := by ((k_with "call ref" => (k_here; (with_reducible show wpAny _ _ (call (Value.ref 385) _) _ _ _); k_dflt (refine' sp_useV (sp_law_rises _ _ _ _ _ ?p1zz ?p2zz ?p3zz) ?k1zz ?k2zz ?k3zz ?k4zz ?k5zz ?kKzz ?kdzz ?kuzz ?_); k_extra "u1"; k_extra "u2"; (case p2zz => k_mem); (case p1zz => first | assumption | exact NumsIn.mono (by assumption) (by kcj_all) | k_extra "nums"); (case p3zz => first | assumption | k_extra "len"); intro h9zz tk9zz F9zz N9zz; (try dsimp only); (try k_fold))); trivial)
example : True := by ((k_with "call ref" => (k_here; (with_reducible show wpAny _ _ (call (Value.ref 380) _) _ _ _); k_dflt (refine' sp_useL (sp_law_led _ _ _ _ _ _ _ _ _ ?p1zz ?p2zz ?p3zz ?p4zz ?p5zz ?p6zz ?p7zz) ?k1zz ?k2zz ?k3zz ?k4zz ?k5zz ?kKzz ?kdzz ?kuzz ?_); k_extra "u1"; k_extra "u2"; (case p2zz => k_mem); (case p5zz => k_mem); (case p1zz => first | assumption | exact NumsIn.mono (by assumption) (by kcj_all) | k_extra "nums"); (case p3zz => first | assumption | k_extra "len"); (case p4zz => first | assumption | exact PairsIn.mono (by assumption) (by kcj_all)); (case p6zz => first | assumption | k_extra "pok"); (case p7zz => first | assumption | k_extra "len"); intro h9zz tk9zz F9zz D9zz k9zz N9zz l9zz; (try dsimp only); (try k_fold))); trivial)
example : True := by ((k_with "pyIter ref" => (first | k_extra "comp" | k_extra "for")); trivial)
example : True := by ((k_with "eval Name" => ((with_reducible show wpAny _ _ (eval _ (compEnvC _ _ _ _)) _ _ _); k_dflt (refine' comp_local ?Nzz ?hmzz ?nCzz ?hvzz ?_ ?azz ?bzz ?czz; (case bzz => exact rfl); (case azz => exact rfl); (case Nzz => k_asm); (case nCzz => assumption); (case hmzz => k_mem); (case hvzz => assumption); (case czz => decide)))); trivial)
example : True := by ((k_with "eval Name" => ((with_reducible show wpAny _ _ (eval _ (compEnvC _ _ _ _)) _ _ _); k_dflt (refine' comp_cell ?Nzz ?hmzz ?hd'zz ?_ ?azz ?bzz ?ezz ?czz; (case bzz => exact rfl); (case azz => exact rfl); (case ezz => exact rfl); (case Nzz => k_asm); (case hmzz => k_mem); (case hd'zz => assumption); (case czz => decide)))); trivial)
example : True := by ((k_with "exec Assign cons ListComp" => (k_dflt (refine' comp_assign ?aFzz ?a1zz ?a2zz ?a3zz ?a4zz ?a5zz ?a6zz ?a7zz ?a8zz ?_; (case aFzz => k_asm); (case a1zz => with_unfolding_all rfl); (case a2zz => with_unfolding_all rfl); (case a3zz => decide); (case a4zz => rfl); (case a5zz => decide); (case a6zz => intro _; with_unfolding_all rfl); (case a7zz => rfl); (case a8zz => rfl)))); trivial)
example : True := by ((k_with "eval ListComp" => (k_dflt (refine' comp_eval ?aFzz ?a2zz ?a3zz ?a4zz ?a5zz ?a6zz ?_; (case aFzz => k_asm); (case a2zz => with_unfolding_all rfl); (case a3zz => decide); (case a4zz => rfl); (case a5zz => decide); (case a6zz => intro _; with_unfolding_all rfl)))); trivial)
example : True := by ((k_with "call builtin:sorted" => (k_here; (with_reducible show wpAny _ _ (call (Value.builtin _) [Value.ref _]) _ _ _); (with_unfolding_all refine' kso_sorted ?k1zz ?k2zz ?k3zz ?k4zz ?k5zz ?_; (case k1zz => k_asm); (case k2zz => k_asm); (case k3zz => exact isListOf (by k_asm) (by k_mem)); (case k4zz => assumption); (case k5zz => assumption); k_whole); intro D'zz v'zz n'zz c'zz h'zz F'zz N'zz l1zz i'zz e'zz p'zz o'zz b'zz; (try k_lt l1zz); (try dsimp only))); trivial)
example : True := by ((k_with "compareOp Eq ref ref" => (k_here; (with_reducible show wpAny _ _ (compareOp CmpOp.Eq (Value.ref _) (Value.ref _)) _ _ _); k_dflt (refine' eq_intsK ?k1zz ?k2zz ?k3zz ?k4zz ?k5zz ?_; (case k1zz => exact isListOf (by k_asm) (by k_mem)); (case k3zz => exact isListOf (by k_asm) (by k_mem)); (case k2zz => assumption); (case k4zz => assumption); (case k5zz => ktr_units); k_whole))); trivial)
example : True := by ((k_with "exec For Tuple Name cons nil" => (k_here; (rename Fr _ _ _ _ => lF'zz); k_dflt (refine' For_invTF lF'zz ?_ ?hszz; (case hszz => intro _; with_unfolding_all rfl)))); trivial)
example : True := by ((k_with "k_all" => (assumption)); trivial)
example : True := by ((k_with "setItem ref int" => (k_here; k_dflt (refine' set_any ?k1zz ?k2zz ?k3zz ?k4zz ?k5zz ?k6zz ?_; (case k1zz => k_asm); (case k2zz => k_asm); (case k3zz => k_upd); (case k4zz => first | assumption | omega); (case k5zz => first | assumption | (simp only [List.length_set]; first | assumption | omega)); (case k6zz => omega); k_whole); intro h'zz F'zz N'zz; (try dsimp only))); trivial)
example : True := by ((k_with "subscriptTail Name Slice ref ref" => (k_here; k_dflt (refine' kmk_slice ?Fzz ?Nzz ?lzz ?pzz ?qzz ?_ ?szz ?tzz ?zzz; (case Fzz => k_asm); (case Nzz => k_asm); (case lzz => exact isListOf (by k_asm) (by k_mem)); (case pzz => kmk_part); (case qzz => kmk_part); (case szz => with_unfolding_all rfl); (case tzz => kmk_pure); (case zzz => (simp only [List.size_toArray, List.length_map, sizeLine_eq]; omega))); intro D'zz h'zz F'zz N'zz l1zz; (simp (disch := omega) only [pick_all, pick_upto, pick_from] at N'zz); (try k_lt l1zz); (try dsimp only))); trivial)
example : True := by ((k_with "len" => (first | assumption | omega | (rw [ledF_len]; omega))); trivial)
example : True := by ((k_with "pok" => (first | assumption | exact pok_of (by assumption) (by first | assumption | rw [ledF_len] | (rw [ledF_len]; assumption)))); trivial)
example : True := by ((k_with "nums" => (first | exact NumsIn.led (by assumption) _ | exact NumsIn.mono (NumsIn.led (by assumption) _) (by kcj_all))); trivial)
example : True := by ((k_with "call builtin:len" => (k_here; (with_reducible show wpAny _ _ (call (Value.builtin "len") [Value.ref _]) _ _ _); k_dflt (refine' len_any ?k1zz ?k2zz ?k3zz ?k4zz ?_; (case k1zz => k_asm); (case k2zz => k_mem); (case k3zz => first | exact List.length_map .. | rfl); (case k4zz => first | omega | decide); k_whole))); trivial)
example : True := by ((k_with "call type:range" => (k_here; k_dflt (refine' range_any ?k1zz ?k2zz ?_; (case k1zz => k_asm); (case k2zz => k_asm)); intro D9zz h9zz ta9zz tb9zz tk9zz F9zz N9zz l9zz; (try k_lt l9zz); (try dsimp only); (try k_fold))); trivial)
example : True := by ((k_with "binaryOp Add ref ref" => (k_here; (with_reducible show wpAny _ _ (binaryOp _ (Value.ref _) (Value.ref _)) _ _ _); k_dflt (refine' add_any ?k1zz ?k2zz ?k3zz ?k4zz ?k5zz ?_; (case k1zz => k_asm); (case k2zz => k_asm); (case k3zz => k_mem); (case k4zz => k_mem); (case k5zz => (simp only [List.length_append, List.length_map, List.length_take, List.length_drop, List.length_cons, List.length_nil, sizeLine_eq]; omega))); intro D9zz h9zz F9zz N9zz l9zz; (try simp only [Int.toNat_natCast, toNat_succ, ← List.map_take, ← List.map_drop, ← List.map_append] at N9zz); (try k_lt l9zz); (try dsimp only); (try k_fold))); trivial)
/-- a call that alters one object of the ledger -/
def SpM (w : World) (k u : Nat) (f : Addr) (args : List Value) (jar : Addr) (oj : Obj) (news : Led) (R : Value → Led → Obj → Prop) : Prop :=
  ∀ (p : Program) (loose : List Str) (mean : ExcName → Option Value) (mg mb : Str → Option Value) (dp un : Nat) (gd : Option (List Code)) (cn : Str) (cs : Scope) (a : Addr) (ccd : Value) (cl : List (Str × Addr)) (outer : List Env) (A₀ : Around) (base h₀ : Heap) (L : Addr) (m : Str → Option Value) (s : Shared)
    (Q E : Value → Shared → Prop),
    Below A₀ base outer h₀ → Fr h₀ L s.heap m → (hd.heap_1 w.params).In h₀ → News h₀ L s.heap ((jar, oj) :: news) → Top p loose mean mg mb h₀ → cs.kind = .function → dp + k < recursionLimit → un + u < cLine → (∀ p ∈ news, p.1 ≠ jar) →
    (∀ r tl oj' h' tk', Fr h₀ L h' m → News h₀ L h' (tl ++ (jar, oj') :: news) → (∀ q ∈ (jar, oj') :: news, ∀ p ∈ tl, q.1 < p.1) → R r tl oj' → Q r { s with heap := h', toks := tk' }) →
    wpAny (model PW w) (ktrTop dp un gd cn cs L a ccd cl outer) (call (.ref f) args) Q E s
theorem spM_use {w : World} {k u : Nat} {f : Addr} {args : List Value} {jar : Addr} {oj : Obj} {news : Led} {R : Value → Led → Obj → Prop} (C : SpM w k u f args jar oj news R)
    {p : Program} {loose : List Str} {mean : ExcName → Option Value} {mg mb : Str → Option Value} {dp un : Nat} {gd : Option (List Code)} {cn : Str} {cs : Scope} {a : Addr} {ccd : Value} {cl : List (Str × Addr)} {outer : List Env} {A₀ : Around} {base h₀ : Heap} {L : Addr} {m : Str → Option Value} {s : Shared}
    {Q E : Value → Shared → Prop} (B : Below A₀ base outer h₀) (F : Fr h₀ L s.heap m) (X : (hd.heap_1 w.params).In h₀) (N : News h₀ L s.heap ((jar, oj) :: news)) (T : Top p loose mean mg mb h₀) (hk : cs.kind = .function) (hd : dp + k < recursionLimit) (hu : un + u < cLine) (hj : ∀ p ∈ news, p.1 ≠ jar)
    (ret : ∀ r tl oj' h' tk', Fr h₀ L h' m → News h₀ L h' (tl ++ (jar, oj') :: news) → (∀ q ∈ (jar, oj') :: news, ∀ p ∈ tl, q.1 < p.1) → R r tl oj' → Q r { s with heap := h', toks := tk' }) :
    wpAny (model PW w) (ktrTop dp un gd cn cs L a ccd cl outer) (call (.ref f) args) Q E s := C _ _ _ _ _ _ _ _ _ _ _ _ _ _ _ _ _ _ _ _ _ _ B F X N T hk hd hu hj ret
abbrev jarO (sl : Addr) (spot : Int) (t : Tok) (k : Nat) : Obj := listOf #[.ref sl, .int spot t] k
def Jar (sl : Addr) (spot : Int) (o : Obj) : Prop := ∃ t k, o = jarO sl spot t k
theorem ints_get {vs : List Value} {ns : List Int} (h : IntsAre vs ns) : ∀ (i : Nat), i < vs.length → ∃ n t, vs[i]? = some (.int n t) := by
  induction h with
  | nil => intro i hi; simp at hi
  | cons n t _ ih => intro i hi; cases i with
    | zero => exact ⟨n, t, rfl⟩
    | succ i => exact ih i (by simpa using hi)
theorem sp_fetched (w : World) (jar sl : Addr) (spot many : Int) (t tj : Tok) (vs : List Value) (ns : List Int) (ks kj : Nat) (news : Led) (h0 : 0 ≤ spot) (h1 : spot ≤ 1000) (hm : 1 ≤ many) (hm2 : many ≤ 1000) (hi : IntsAre vs ns) (hz : vs.length ≤ 60) (hl : (sl, listOf vs.toArray ks) ∈ news) :
    SpM w 4 60 347 [.ref jar, .int many t] jar (jarO sl spot tj kj) news (fun r tl oj' => (∃ x tx, r = .int x tx ∧ 0 ≤ x ∧ x < many) ∧ tl = [] ∧ Jar sl (spot + 1) oj') := by
  by_cases hsp : spot < (vs.length : Int)
  · obtain ⟨n, tn, hn⟩ := ints_get hi spot.toNat (by omega)
    unfold SpM
    intro p loose mean mg mb dp un gd cn cs a ccd cl outer A₀ base h₀ L m s Q E B F X N T hk hd hu hjar hret
    refine wpAny_call ?_
    k_dflt ktr_enter
    repeat' (first | (k_unfold; (try dsimp only)) | walk1 | (dsimp only; walk1) | (leave1; try dsimp only))
    all_goals refine hret _ [] _ _ _ (by k_asm) (by k_asm) (fun _ _ _ h => nomatch h) ⟨⟨_, _, rfl, Int.fmod_nonneg_of_pos _ (by omega), Int.fmod_lt_of_pos _ (by omega)⟩, rfl, ⟨_, _, rfl⟩⟩
  · skip
    unfold SpM
    intro p loose mean mg mb dp un gd cn cs a ccd cl outer A₀ base h₀ L m s Q E B F X N T hk hd hu hjar hret
    refine wpAny_call ?_
    k_dflt ktr_enter
    repeat' (first | (k_unfold; (try dsimp only)) | walk1 | (dsimp only; walk1) | (leave1; try dsimp only))
    all_goals refine hret _ [] _ _ _ (by k_asm) (by k_asm) (fun _ _ _ h => nomatch h) ⟨⟨_, _, rfl, Int.fmod_nonneg_of_pos _ (by omega), Int.fmod_lt_of_pos _ (by omega)⟩, rfl, ⟨_, _, rfl⟩⟩
abbrev pairT (lo hi : Int) (t1 t2 : Tok) (k : Nat) : Obj := tupO [.int lo t1, .int hi t2] k
theorem fetched_use {w : World} {jar sl : Addr} {spot many : Int} {t tj : Tok} {vs : List Value} {ns : List Int} {ks kj : Nat} {news : Led} (h0 : 0 ≤ spot) (h1 : spot ≤ 1000) (hm : 1 ≤ many) (hm2 : many ≤ 1000) (hi : IntsAre vs ns) (hz : vs.length ≤ 60) (hl : (sl, listOf vs.toArray ks) ∈ news) :
    SpM w 4 60 347 [.ref jar, .int many t] jar (jarO sl spot tj kj) news (fun r tl oj' => (∃ x tx, r = .int x tx ∧ 0 ≤ x ∧ x < many) ∧ tl = [] ∧ Jar sl (spot + 1) oj') := sp_fetched w jar sl spot many t tj vs ns ks kj news h0 h1 hm hm2 hi hz hl
example : True := by ((k_with "call ref" => (k_here; (with_reducible show wpAny _ _ (call (Value.ref 347) _) _ _ _); k_dflt (refine' spM_use (fetched_use ?p1zz ?p2zz ?p3zz ?p4zz ?p5zz ?p6zz ?p7zz) ?k1zz ?k2zz ?k3zz ?k4zz ?k5zz ?kKzz ?kdzz ?kuzz ?kjzz ?_; k_extra "u1"; (case p7zz => k_mem); (case p5zz => assumption); (case p6zz => first | assumption | omega); (case p1zz => omega); (case p2zz => omega); (case p3zz => omega); (case p4zz => omega); k_extra "u2"; (case kjzz => assumption); intro r9zz tl9zz oj9zz h9zz tk9zz F9zz N9zz l9zz o9zz; (obtain ⟨⟨x9zz, tx9zz, e9zz, x91zz, x92zz⟩, f9zz, ts9zz, kj9zz, j9zz⟩ := o9zz); subst e9zz; subst f9zz; subst j9zz; (try simp only [List.nil_append, List.cons_append] at N9zz); clear l9zz; (try dsimp only); (try k_fold)))); trivial)
theorem pair_ne {lo x many : Int} (h1 : 0 ≤ lo) (h2 : lo < many) (h3 : 0 ≤ x) (h4 : x < many - 1) : lo ≠ (lo + 1 + x).fmod many := by
  intro e
  rw [Int.fmod_eq_emod_of_nonneg _ (by omega)] at e
  have h := Int.mul_ediv_add_emod (lo + 1 + x) many
  rw [← e] at h
  generalize (lo + 1 + x) / many = q at h
  have h5 : many * q = 1 + x := by omega
  rcases Int.lt_or_le q 1 with hq | hq
  · have : many * q ≤ many * 0 := Int.mul_le_mul_of_nonneg_left (by omega) (by omega)
    omega
  · have : many * 1 ≤ many * q := Int.mul_le_mul_of_nonneg_left hq (by omega)
    omega
theorem sp_pair (w : World) (jar sl : Addr) (spot many : Int) (t tj : Tok) (vs : List Value) (ns : List Int) (ks kj : Nat) (news : Led) (h0 : 0 ≤ spot) (h1 : spot ≤ 900) (hm : 3 ≤ many) (hm2 : many ≤ 1000) (hi : IntsAre vs ns) (hz : vs.length ≤ 60) (hl : (sl, listOf vs.toArray ks) ∈ news) :
    SpM w 8 120 354 [.ref jar, .int many t] jar (jarO sl spot tj kj) news (fun r tl oj' => (∃ q lo hi t1 t2 k, r = .ref q ∧ tl = [(q, pairT lo hi t1 t2 k)] ∧ 0 ≤ lo ∧ lo < many ∧ 0 ≤ hi ∧ hi < many ∧ lo ≠ hi) ∧ Jar sl (spot + 1 + 1) oj') := by
  unfold SpM
  intro p loose mean mg mb dp un gd cn cs a ccd cl outer A₀ base h₀ L m s Q E B F X N T hk hd hu hjar hret
  refine wpAny_call ?_
  k_dflt ktr_enter
  repeat' (first | (k_unfold; (try dsimp only)) | walk1 | (dsimp only; walk1) | (leave1; try dsimp only))
  all_goals exact hret _ [_] _ _ _ (by k_asm) (by k_asm) (by first | exact ktn_ord1 (by assumption) | ktn_ord) ⟨⟨_, _, _, _, _, _, rfl, rfl, by assumption, by assumption, Int.fmod_nonneg_of_pos _ (by omega), Int.fmod_lt_of_pos _ (by omega), pair_ne (by assumption) (by assumption) (by assumption) (by assumption)⟩, ⟨_, _, rfl⟩⟩
end Mine
end
section
open PySem PySem.W PyProof.Rows
set_option maxRecDepth 100000
set_option maxHeartbeats 8000000
set_option linter.unusedVariables false
namespace Mine
example : True := by (k_with_none; trivial)
example : True := by ((k_with "u1" => ((case k1zz => k_asm); (case k2zz => k_asm); (case k3zz => k_asm); (case k4zz => k_asm); (case k5zz => k_asm))); trivial)
example : True := by ((k_with "u2" => ((case kKzz => first | exact rfl | assumption); (case kdzz => ktr_room); (case kuzz => ktr_units))); trivial)
example : True := by ((k_with "u3" => (intro r9zz tl9zz h9zz tk9zz F9zz N9zz l9zz o9zz; (try dsimp only at o9zz))); trivial)
example : True := by ((k_with "u4" => ((try simp only [List.nil_append, List.cons_append] at N9zz); (try dsimp only); (try k_fold))); trivial)
example : True := by ((k_with "suf" => (first | apply sub_refl | assumption | (refine sub_tail ?_; k_extra "suf") | (refine sub_app ?_; k_extra "suf") | apply sub_nil | (refine sub_appL ?_; k_extra "suf"))); trivial)
example : True := by ((k_with "in" => (first | assumption | apply in_head | (refine in_tail ?_; k_extra "in") | (refine in_app ?_; k_extra "in") | (refine in_appL ?_; k_extra "in"))); trivial)
example : True := by ((k_with "sub" => (first | k_extra "suf" | (refine sub_cons ?_ ?_; (focus k_extra "in"); k_extra "sub") | (refine sub_both ?_ ?_; (focus k_extra "sub"); k_extra "sub") | (refine sub_trans ?_ (by assumption); k_extra "suf"))); trivial)
example : True := by ((k_with "lt0" => (first | assumption | (refine Mine.pickA (by assumption) ?_; intro hz9zz; first | apply hz9zz.1 | (replace hz9zz := hz9zz.2; first | apply hz9zz.1 | (replace hz9zz := hz9zz.2; first | apply hz9zz.1 | (replace hz9zz := hz9zz.2; first | apply hz9zz.1 | (replace hz9zz := hz9zz.2; first | apply hz9zz.1 | (replace hz9zz := hz9zz.2; first | apply hz9zz.1 | (replace hz9zz := hz9zz.2; first | apply hz9zz.1 | (replace hz9zz := hz9zz.2; first | apply hz9zz.1 | (replace hz9zz := hz9zz.2; first | apply hz9zz.1 | (replace hz9zz := hz9zz.2; first | apply hz9zz.1 | (replace hz9zz := hz9zz.2; first | apply hz9zz.1 | (replace hz9zz := hz9zz.2; first | apply hz9zz.1 | (replace hz9zz := hz9zz.2; first | apply hz9zz.1 | (replace hz9zz := hz9zz.2; first | apply hz9zz.1 | apply hz9zz.2)))))))))))))))); trivial)
example : True := by ((k_with "lt1" => (first | apply Mine.sl1 | apply Mine.sl2 | apply Mine.sl3 | apply Mine.sl4 | exact Mine.dn1 (by assumption) | exact Mine.dn2 (by assumption) | exact Mine.dn3 (by assumption) | exact Mine.dn4 (by assumption) | exact Mine.upx (by assumption) (by assumption) | exact Mine.up4 (by assumption) | (refine Nat.lt_trans ?_ (by assumption); first | k_extra "lt0" | exact Mine.dn1 (by assumption) | exact Mine.dn2 (by assumption) | exact Mine.dn3 (by assumption) | exact Mine.dn4 (by assumption) | (refine Nat.lt_trans ?_ (by assumption); k_extra "lt0")))); trivial)
/-- the entries of a world under way: few, told by texts alone, the two that are read among them -/
structure WD (k : Nat) (es : List DictEntry) (tb td : Tok) : Prop where
  len : es.length ≤ k
  keys : es.any (·.refKey) = false
  bits : ∃ e, es.find? (·.key.isStr (Str.ofString "bits")) = some e ∧ e.val = .int 16 tb
  digits : ∃ e, es.find? (·.key.isStr (Str.ofString "digits")) = some e ∧ e.val = .int 9 td
theorem putL_len (name : Str) (hsh : Int) (key v : Value) : ∀ es : List DictEntry, (putL name hsh key v es).length ≤ es.length + 1
  | [] => Nat.le_refl _
  | e :: r => by
    unfold putL
    split
    · exact Nat.le_succ _
    · exact Nat.succ_le_succ (putL_len name hsh key v r)
theorem putL_ref {name : Str} {hsh : Int} {t : Tok} {v : Value} : ∀ es : List DictEntry, es.any (·.refKey) = false → (putL name hsh (.str name t) v es).any (·.refKey) = false
  | [], _ => rfl
  | e :: r, h => by
    rw [List.any_cons, Bool.or_eq_false_iff] at h
    unfold putL
    split
    · rw [List.any_cons, Bool.or_eq_false_iff]; exact ⟨h.1, h.2⟩
    · rw [List.any_cons, Bool.or_eq_false_iff]; exact ⟨h.1, putL_ref r h.2⟩
theorem putL_get {name other : Str} {hsh : Int} {t : Tok} {v val : Value} (hne : name ≠ other) : ∀ es : List DictEntry, (∃ e, es.find? (·.key.isStr other) = some e ∧ e.val = val) → ∃ e, (putL name hsh (.str name t) v es).find? (·.key.isStr other) = some e ∧ e.val = val
  | [], ⟨_, h, _⟩ => by cases h
  | e :: r, ⟨x, h, hx⟩ => by
    unfold putL
    cases ho : e.key.isStr other with
    | true =>
      rw [List.find?_cons, ho] at h
      obtain rfl := Option.some.inj h
      have hn : e.key.isStr name = false := by
        cases hk : e.key.isStr name with
        | false => rfl
        | true =>
          exfalso
          cases hq : e.key <;> rw [hq] at hk ho <;> simp [Value.isStr] at hk ho
          exact hne (hk.symm.trans ho)
      rw [hn]
      exact ⟨e, by show List.find? _ (e :: _) = _; rw [List.find?_cons, ho], hx⟩
    | false =>
      rw [List.find?_cons, ho] at h
      split
      · exact ⟨x, by rw [List.find?_cons]; show (match e.key.isStr other with | true => _ | false => _) = _; rw [ho]; exact h, hx⟩
      · obtain ⟨y, hy, hv⟩ := putL_get (hsh := hsh) (t := t) (v := v) hne r ⟨x, h, hx⟩
        exact ⟨y, by rw [List.find?_cons, ho]; exact hy, hv⟩
theorem wd_put {k : Nat} {es : List DictEntry} {tb td : Tok} {name : Str} {hsh : Int} {t : Tok} {v : Value} (W : WD k es tb td) (h1 : name ≠ Str.ofString "bits") (h2 : name ≠ Str.ofString "digits") : WD (k + 1) (putL name hsh (.str name t) v es) tb td :=
  ⟨Nat.le_trans (putL_len ..) (Nat.succ_le_succ W.len), putL_ref _ W.keys, putL_get h1 _ W.bits, putL_get h2 _ W.digits⟩
theorem wd_get {k : Nat} {es : List DictEntry} {tb td : Tok} (W : WD k es tb td) (name : Str) : (getL name es).isSome = true := by
  unfold getL
  split
  · rfl
  · rw [W.keys]; rfl
theorem wd_bits {k : Nat} {es : List DictEntry} {tb td : Tok} (W : WD k es tb td) : getL (Str.ofString "bits") es = some (some (.int 16 tb)) := by
  obtain ⟨e, h, hv⟩ := W.bits
  unfold getL; rw [h, ← hv]
theorem wd_digits {k : Nat} {es : List DictEntry} {tb td : Tok} (W : WD k es tb td) : getL (Str.ofString "digits") es = some (some (.int 9 td)) := by
  obtain ⟨e, h, hv⟩ := W.digits
  unfold getL; rw [h, ← hv]
theorem news_tl {g h : Heap} {L : Addr} {a : Addr × Obj} {r : Led} (N : News g L h (a :: r)) : News g L h r := fun p hp => N p (.tail _ hp)
/-- one more field of a world under way -/
theorem set_w {w : World} {A : Around} {E : Value → Shared → Prop} {s : Shared} {h₀ : Heap} {L x dx : Addr} {m : Str → Option Value} {R : Led} {es : List DictEntry} {n k : Nat} {tb td : Tok} {name : Str} {v : Value} {Q : Unit → Shared → Prop}
    (F : Fr h₀ L s.heap m) (X : (hd.heap_1 w.params).In h₀) (N : News h₀ L s.heap ((x, instObj 336 dx) :: (dx, dictOf es n) :: R)) (hx : @LT.lt Nat _ dx x) (hR : ∀ p ∈ R, p.1 < dx) (W : WD k es tb td)
    (ht : takerIn (hd.heap_1 w.params) 336 name = some none) (h1 : name ≠ Str.ofString "bits") (h2 : name ≠ Str.ofString "digits") (hz : Nat.ble k 900 = true)
    (hs : findIn (hd.heap_1 w.params) (.ref 336) "__setattr__" = some (some (.builtin "object.__setattr__"))) (hp : plainOver (hd.heap_1 w.params) 336 = true) (hh : hasDictIn (hd.heap_1 w.params) 336 = true)
    (h : ∀ h' es' n', Fr h₀ L h' m → News h₀ L h' ((x, instObj 336 dx) :: (dx, dictOf es' n') :: R) → WD (k + 1) es' tb td → Q () { s with heap := h', toks := s.toks + 2 }) :
    wpAny (model PW w) A (setAttr (.ref x) name v) Q E s :=
  set_dict F X N (InstAt.of_news N (.head _) (.tail _ (.head _))) rfl hs hp ht hh (wd_get W name) rfl (.tail (Nat.ne_of_gt hx) (.head fun p hp => Nat.ne_of_lt (hR p hp)))
    (Nat.le_trans (wd_put (hsh := PyData.keyHash w.params name) (t := s.toks + 1) (v := v) W h1 h2).len (by have := Nat.le_of_ble_eq_true hz; omega)) fun h' F' N' => h h' _ _ F' N' (wd_put W h1 h2)
theorem world_ord {x d : Addr} {o o' : Obj} {r : Led} (h1 : ∀ p ∈ r, p.1 < d) (h2 : d < x) : ∀ q ∈ r, ∀ p ∈ [(x, o), (d, o')], q.1 < p.1 := fun q hq p hp => by
  simp only [List.mem_cons, List.not_mem_nil, or_false] at hp
  rcases hp with rfl | rfl
  · exact Nat.lt_trans (h1 q hq) h2
  · exact h1 q hq
example : True := by ((k_with "newList" => (k_here; k_dflt (refine' newList_K ?k1zz ?k2zz ?_; (case k1zz => k_asm); (case k2zz => k_asm); k_whole); intro l'zz h'zz F'zz N'zz l1zz; (replace N'zz := news_tl N'zz); clear l1zz; (try k_sweep))); trivial)
example : True := by ((k_with "eval Dict nil nil" => (k_here; k_dflt (refine' newDict_K ?k1zz ?k2zz (TopRead.nolimit (by k_asm)) ?_; (case k1zz => k_asm); (case k2zz => k_asm); k_whole); intro d'zz h'zz o'zz F'zz N'zz l1zz lo'zz hs'zz fs'zz hi'zz fi'zz; (replace N'zz := news_tl N'zz); clear l1zz lo'zz hs'zz fs'zz hi'zz fi'zz; (try k_sweep))); trivial)
example : True := by ((k_with "setAttr ref" => (k_here; k_dflt (refine' set_w ?k1zz ?k2zz ?k3zz ?k4zz ?k5zz ?k6zz ?k7zz ?k8zz ?k9zz ?kazz ?kbzz ?kczz ?kdzz ?_; (case k1zz => k_asm); (case k2zz => k_asm); (case k3zz => k_asm); (case k4zz => assumption); (case k5zz => assumption); (case k6zz => first | assumption | exact ⟨Nat.le_refl _, rfl, ⟨_, rfl, rfl⟩, ⟨_, rfl, rfl⟩⟩); (case k7zz => k_is); (case k8zz => decide); (case k9zz => decide); (case kazz => exact rfl); (case kbzz => k_is); (case kczz => k_is); (case kdzz => k_is); k_whole); intro h'zz es'zz n'zz F'zz N'zz W'zz; (try k_sweep))); trivial)
theorem sp_world (w : World) (t1 t2 : Tok) (news : Led) :
    Sp w 4 60 336 [.int 16 t1, .int 9 t2] news (fun r tl => ∃ x dx es n tb td, tl = [(x, instObj 336 dx), (dx, dictOf es n)] ∧ WorldIn tl r x dx es n tb td) := by
  unfold Sp
  intro p loose mean mg mb dp un gd cn cs a ccd cl outer A₀ base h₀ L m s Q E B F X N T hk hd hu hret
  k_dflt (refine' call_cls ?k1 ?k2 ?k3 ?k4 ?k5 ?k6 ?_; (case k1 => k_asm); (case k2 => k_asm); (case k3 => k_asm); (case k4 => k_is); (case k5 => k_is); (case k6 => k_is); k_whole; intro x' d' h' F' N' l1 l2)
  k_dflt (refine' code_def ?k1 ?k2 ?k3 ?k4 ?k5 ?kA ?kF ?kK ?k6 ?k7 ?k8 ?k9 ?kB ?_ ?c2 ?c3 ?c4 ?c5; (case kA => exact rfl); (case kF => exact rfl); (case kK => assumption); (case k1 => k_asm); (case k2 => k_asm); (case k3 => k_asm); (case k4 => k_asm); (case k5 => k_asm); (case k6 => k_is); (case k7 => k_is); (case k8 => ktr_room); (case k9 => exact binds_K (by k_in) rfl (by k_is) rfl rfl rfl); (case c5 => decide); (case kB => exact locs rfl); (case c2 => exact rfl); (case c3 => exact rfl); (case c4 => exact rfl); k_whole)
  intro g' L' h' FG' F' N' B' X' T'
  (try dsimp only)
  (try k_fold)
  have hx9 : @LT.lt Nat _ d' x' := l2
  repeat' (first | (k_unfold; (try dsimp only)) | walk1 | (dsimp only; walk1) | (leave1; try dsimp only))
  all_goals exact hret _ [_, _] _ _ (by k_asm) (by assumption) (world_ord l1 l2) ⟨_, _, _, _, _, _, rfl, ⟨rfl, .head _, .tail _ (.head _), wd_bits (by assumption), wd_digits (by assumption)⟩⟩
end Mine
end
section
open PySem PySem.W PyProof.Rows
set_option maxRecDepth 100000
set_option maxHeartbeats 8000000
set_option linter.unusedVariables false
namespace Mine
example : True := by (k_with_none; trivial)
example : True := by ((k_with "u1" => ((case k1zz => k_asm); (case k2zz => k_asm); (case k3zz => k_asm); (case k4zz => k_asm); (case k5zz => k_asm))); trivial)
example : True := by ((k_with "u2" => ((case kKzz => first | exact rfl | assumption); (case kdzz => ktr_room); (case kuzz => ktr_units))); trivial)
example : True := by ((k_with "u3" => (intro r9zz tl9zz h9zz tk9zz F9zz N9zz l9zz o9zz; (try dsimp only at o9zz))); trivial)
example : True := by ((k_with "u4" => ((try simp only [List.nil_append, List.cons_append] at N9zz); (try dsimp only); (try k_fold))); trivial)
example : True := by ((k_with "suf" => (first | apply sub_refl | assumption | (refine sub_tail ?_; k_extra "suf") | (refine sub_app ?_; k_extra "suf") | apply sub_nil | (refine sub_appL ?_; k_extra "suf"))); trivial)
example : True := by ((k_with "in" => (first | assumption | apply in_head | (refine in_tail ?_; k_extra "in") | (refine in_app ?_; k_extra "in") | (refine in_appL ?_; k_extra "in"))); trivial)
example : True := by ((k_with "sub" => (first | k_extra "suf" | (refine sub_cons ?_ ?_; (focus k_extra "in"); k_extra "sub") | (refine sub_both ?_ ?_; (focus k_extra "sub"); k_extra "sub") | (refine sub_trans ?_ (by assumption); k_extra "suf"))); trivial)
example : True := by ((k_with "lt0" => (first | assumption | (refine Mine.pickA (by assumption) ?_; intro hz9zz; first | apply hz9zz.1 | (replace hz9zz := hz9zz.2; first | apply hz9zz.1 | (replace hz9zz := hz9zz.2; first | apply hz9zz.1 | (replace hz9zz := hz9zz.2; first | apply hz9zz.1 | (replace hz9zz := hz9zz.2; first | apply hz9zz.1 | (replace hz9zz := hz9zz.2; first | apply hz9zz.1 | (replace hz9zz := hz9zz.2; first | apply hz9zz.1 | (replace hz9zz := hz9zz.2; first | apply hz9zz.1 | (replace hz9zz := hz9zz.2; first | apply hz9zz.1 | (replace hz9zz := hz9zz.2; first | apply hz9zz.1 | (replace hz9zz := hz9zz.2; first | apply hz9zz.1 | (replace hz9zz := hz9zz.2; first | apply hz9zz.1 | (replace hz9zz := hz9zz.2; first | apply hz9zz.1 | (replace hz9zz := hz9zz.2; first | apply hz9zz.1 | apply hz9zz.2)))))))))))))))); trivial)
example : True := by ((k_with "lt1" => (first | apply Mine.sl1 | apply Mine.sl2 | apply Mine.sl3 | apply Mine.sl4 | exact Mine.dn1 (by assumption) | exact Mine.dn2 (by assumption) | exact Mine.dn3 (by assumption) | exact Mine.dn4 (by assumption) | exact Mine.upx (by assumption) (by assumption) | exact Mine.up4 (by assumption) | (refine Nat.lt_trans ?_ (by assumption); first | k_extra "lt0" | exact Mine.dn1 (by assumption) | exact Mine.dn2 (by assumption) | exact Mine.dn3 (by assumption) | exact Mine.dn4 (by assumption) | (refine Nat.lt_trans ?_ (by assumption); k_extra "lt0")))); trivial)
theorem upd_perm {jar : Addr} {o : Obj} {led : Led} {g : Obj → Led} (U : UpdF jar o led g) : ∃ r, (∀ p ∈ r, p.1 ≠ jar) ∧ (∀ p, p ∈ led ↔ p ∈ (jar, o) :: r) ∧ (∀ o' p, p ∈ g o' ↔ p ∈ (jar, o') :: r) := by
  obtain ⟨pre, post, h1, h2, h3, h4⟩ := U.split
  refine ⟨pre ++ post, fun p hp => ?_, fun p => ?_, fun o' p => ?_⟩
  · rcases List.mem_append.mp hp with hp | hp
    · exact h3 p hp
    · exact h4 p hp
  · rw [h1]; simp only [List.mem_append, List.mem_cons]; constructor <;> (rintro (h | h | h) <;> simp [h])
  · rw [h2]; simp only [List.mem_append, List.mem_cons]; constructor <;> (rintro (h | h | h) <;> simp [h])
theorem fetched_at {w : World} {p : Program} {loose : List Str} {mean : ExcName → Option Value} {mg mb : Str → Option Value} {dp un : Nat} {gd : Option (List Code)} {cn : Str} {cs : Scope} {a : Addr} {ccd : Value} {cl : List (Str × Addr)} {outer : List Env} {A₀ : Around} {base h₀ : Heap} {L : Addr} {m : Str → Option Value} {s : Shared}
    {Q E : Value → Shared → Prop} {jar sl : Addr} {spot many : Int} {t tj : Tok} {vs : List Value} {ns : List Int} {ks kj : Nat} {led : Led} {g : Obj → Led} (U : UpdF jar (jarO sl spot tj kj) led g) (B : Below A₀ base outer h₀) (F : Fr h₀ L s.heap m) (X : (hd.heap_1 w.params).In h₀) (N : News h₀ L s.heap led) (T : Top p loose mean mg mb h₀) (hk : cs.kind = .function) (hd : dp + 4 < recursionLimit) (hu : un + 60 < cLine)
    (h0 : 0 ≤ spot) (h1 : spot ≤ 1000) (hm : 1 ≤ many) (hm2 : many ≤ 1000) (hi : IntsAre vs ns) (hz : vs.length ≤ 60) (hl : (sl, listOf vs.toArray ks) ∈ led) (hne : sl ≠ jar)
    (ret : ∀ x tx ts kj' h' tk', 0 ≤ x → x < many → Fr h₀ L h' m → News h₀ L h' (g (jarO sl (spot + 1) ts kj')) → Q (.int x tx) { s with heap := h', toks := tk' }) :
    wpAny (model PW w) (ktrTop dp un gd cn cs L a ccd cl outer) (call (.ref 347) [.ref jar, .int many t]) Q E s := by
  obtain ⟨r, r1, r2, r3⟩ := upd_perm U
  have hl' : (sl, listOf vs.toArray ks) ∈ r := by
    rcases List.mem_cons.mp ((r2 _).mp hl) with e | e
    · exact absurd (congrArg Prod.fst e) hne
    · exact e
  refine spM_use (sp_fetched w jar sl spot many t tj vs ns ks kj r h0 h1 hm hm2 hi hz hl') B F X (fun p hp => N p ((r2 p).mpr hp)) T hk hd hu r1 fun v tl oj' h' tk' F' N' _ hR => ?_
  obtain ⟨⟨x, tx, rfl, x1, x2⟩, rfl, ts, kj', rfl⟩ := hR
  exact ret x tx ts kj' h' tk' x1 x2 F' fun p hp => N' p ((r3 _ p).mp hp)
theorem pair_at {w : World} {p : Program} {loose : List Str} {mean : ExcName → Option Value} {mg mb : Str → Option Value} {dp un : Nat} {gd : Option (List Code)} {cn : Str} {cs : Scope} {a : Addr} {ccd : Value} {cl : List (Str × Addr)} {outer : List Env} {A₀ : Around} {base h₀ : Heap} {L : Addr} {m : Str → Option Value} {s : Shared}
    {Q E : Value → Shared → Prop} {jar sl : Addr} {spot many : Int} {t tj : Tok} {vs : List Value} {ns : List Int} {ks kj : Nat} {led : Led} {g : Obj → Led} (U : UpdF jar (jarO sl spot tj kj) led g) (B : Below A₀ base outer h₀) (F : Fr h₀ L s.heap m) (X : (hd.heap_1 w.params).In h₀) (N : News h₀ L s.heap led) (T : Top p loose mean mg mb h₀) (hk : cs.kind = .function) (hd : dp + 8 < recursionLimit) (hu : un + 120 < cLine)
    (h0 : 0 ≤ spot) (h1 : spot ≤ 900) (hm : 3 ≤ many) (hm2 : many ≤ 1000) (hi : IntsAre vs ns) (hz : vs.length ≤ 60) (hl : (sl, listOf vs.toArray ks) ∈ led) (hne : sl ≠ jar)
    (ret : ∀ q lo hi t1 t2 k ts kj' h' tk', 0 ≤ lo → lo < many → 0 ≤ hi → hi < many → lo ≠ hi → Fr h₀ L h' m → News h₀ L h' ((q, pairT lo hi t1 t2 k) :: g (jarO sl (spot + 1 + 1) ts kj')) → (∀ z ∈ led, z.1 < q) → Q (.ref q) { s with heap := h', toks := tk' }) :
    wpAny (model PW w) (ktrTop dp un gd cn cs L a ccd cl outer) (call (.ref 354) [.ref jar, .int many t]) Q E s := by
  obtain ⟨r, r1, r2, r3⟩ := upd_perm U
  have hl' : (sl, listOf vs.toArray ks) ∈ r := by
    rcases List.mem_cons.mp ((r2 _).mp hl) with e | e
    · exact absurd (congrArg Prod.fst e) hne
    · exact e
  refine spM_use (sp_pair w jar sl spot many t tj vs ns ks kj r h0 h1 hm hm2 hi hz hl') B F X (fun p hp => N p ((r2 p).mpr hp)) T hk hd hu r1 fun v tl oj' h' tk' F' N' o' hR => ?_
  obtain ⟨⟨q, lo, hi', t1, t2, k, rfl, rfl, a1, a2, a3, a4, a5⟩, ts, kj', rfl⟩ := hR
  refine ret q lo hi' t1 t2 k ts kj' h' tk' a1 a2 a3 a4 a5 F' (fun p hp => N' p ?_) fun z hz => ?_
  · rcases List.mem_cons.mp hp with rfl | hp
    · exact .head _
    · exact .tail _ ((r3 _ p).mp hp)
  · rcases List.mem_cons.mp ((r2 z).mp hz) with rfl | h
    · exact o' (jar, _) (.head _) _ (.head _)
    · exact o' z (.tail _ h) _ (.head _)
theorem ints_take {vs : List Value} {ns : List Int} (h : IntsAre vs ns) : ∀ n, IntsAre (vs.take n) (ns.take n) := by
  induction h with
  | nil => intro n; simpa using IntsAre.nil
  | cons a t _ ih => intro n; cases n with
    | zero => exact .nil
    | succ n => exact .cons a t (ih n)
def LawDef (body : List Stmt) (scope : Scope) : Prop := ∃ n a d r tp ts b p, PW.main.body.getLast? = some (.FunctionDef n a body d r tp scope ts b p)
abbrev lawA (L fa : Addr) (scope : Scope) : Around := callerA.deeper (envOfC (Str.ofString "law") scope L fa (.ref 411))
def lawBody : List Stmt := match PW.main.body.getLast? with
  | some (.FunctionDef _ _ body _ _ _ _ _ _ _) => body
  | _ => []
def lawScope : Scope := match PW.main.body.getLast? with
  | some (.FunctionDef _ _ _ _ _ _ scope _ _ _) => scope
  | _ => { kind := .function, names := [], isGenerator := false, isCoroutine := false }
theorem LawDef.at {body : List Stmt} {scope : Scope} (h : LawDef body scope) : body = lawBody ∧ scope = lawScope := by
  obtain ⟨n, a, d, r, tp, ts, b, p, e⟩ := h
  unfold lawBody lawScope
  rw [e]
  exact ⟨rfl, rfl⟩
/-- the ledger of law: what alters is at its head -/
abbrev headLed (L : Addr) (ot oc om : Obj) (jar : Addr) (jo : Obj) (R : Led) : Led := (409, ot) :: (L + 1 + 1, oc) :: (L + 1 + 1 + 1, om) :: (jar, jo) :: R
/-- what stays -/
structure Rest (L jar sl x dx : Addr) (oj ow : Obj) (vs : List Value) (ks : Nat) (es : List DictEntry) (n : Nat) (R : Led) : Prop where
  cj : (L + 1, oj) ∈ R
  cw : (L + 1 + 1 + 1 + 1, ow) ∈ R
  ms : (sl, listOf vs.toArray ks) ∈ R
  mx : (x, instObj 336 dx) ∈ R
  md : (dx, dictOf es n) ∈ R
  o4 : ∀ p ∈ R, p.1 ≠ 409
  oc : ∀ p ∈ R, p.1 ≠ L + 1 + 1
  om : ∀ p ∈ R, p.1 ≠ L + 1 + 1 + 1
  oj : ∀ p ∈ R, p.1 ≠ jar
theorem all_app {d : Addr} {tl R : Led} (h : ∀ p ∈ tl, p.1 ≠ d) (t : ∀ p ∈ R, p.1 ≠ d) : ∀ p ∈ tl ++ R, p.1 ≠ d := fun p hp => (List.mem_append.mp hp).elim (h p) (t p)
theorem Rest.add {L jar sl x dx : Addr} {oj ow : Obj} {vs : List Value} {ks : Nat} {es : List DictEntry} {n : Nat} {R : Led} (h : Rest L jar sl x dx oj ow vs ks es n R) {tl : Led} (o1 : @LT.lt Nat _ 409 L) (o2 : @LT.lt Nat _ (L + 1 + 1 + 1 + 1) jar) (ht : ∀ p ∈ tl, @LT.lt Nat _ jar p.1) : Rest L jar sl x dx oj ow vs ks es n (tl ++ R) where
  cj := List.mem_append_right _ h.cj
  cw := List.mem_append_right _ h.cw
  ms := List.mem_append_right _ h.ms
  mx := List.mem_append_right _ h.mx
  md := List.mem_append_right _ h.md
  o4 := all_app (fun p hp => Nat.ne_of_gt (by have := ht p hp; show @LT.lt Nat _ _ _; omega)) h.o4
  oc := all_app (fun p hp => Nat.ne_of_gt (by have := ht p hp; show @LT.lt Nat _ _ _; omega)) h.oc
  om := all_app (fun p hp => Nat.ne_of_gt (by have := ht p hp; show @LT.lt Nat _ _ _; omega)) h.om
  oj := all_app (fun p hp => Nat.ne_of_gt (ht p hp)) h.oj
/-- the pairs -/
structure PairsAt (R : Led) (many : Nat) (pa : Addr) (pxs : List (Value × Int × Int)) (kp : Nat) : Prop where
  mem : (pa, listOf (pxs.map (·.1)).toArray kp) ∈ R
  ins : PairsIn R pxs
  ok : ∀ y ∈ pxs, PairOk many y.2
  len : pxs.length ≤ 10
theorem PairsAt.mono {R R' : Led} {many : Nat} {pa : Addr} {pxs : List (Value × Int × Int)} {kp : Nat} (h : PairsAt R many pa pxs kp) (hs : ∀ p ∈ R, p ∈ R') : PairsAt R' many pa pxs kp := ⟨hs _ h.mem, h.ins.mono hs, h.ok, h.len⟩
theorem stop_at {M : Model} {A : Around} {stmts : List Stmt} {env : Env} {Q : Flow → Shared → Prop} {E : Value → Shared → Prop} {s : Shared} (st : List Stmt) (n : Nat) (hn : stmts.length = n) (e : stmts = st) (h : Hold (wpAny M A (execs st env) Q E s)) : wpAny M A (execs stmts env) Q E s := e ▸ h
def putM : List (String × Value) → (Str → Option Value) → Str → Option Value
  | [], u => u
  | p :: r, u => fun z => if z = Str.ofString p.1 then some p.2 else putM r u z
theorem putM_nil (m : Str → Option Value) : m = putM [] m := rfl
theorem putM_cons {k : String} {v : Value} {l : List (String × Value)} {m : Str → Option Value} (h : m (Str.ofString k) = some v) (t : m = putM l m) : m = putM ((k, v) :: l) m := by
  funext z
  show m z = if z = Str.ofString k then some v else putM l m z
  split
  · rename_i e; rw [e, h]
  · exact congrFun t z
theorem append_any {prog : Program} {w : World} {A : Around} {E : Value → Shared → Prop} {s : Shared} {h₀ : Heap} {L D : Addr} {m : Str → Option Value} {news news' : Led} {vs : List Value} {n : Nat} {x : Value} {Q : Value → Shared → Prop} (F : Fr h₀ L s.heap m) (N : News h₀ L s.heap news) (U : Upd D (listOf vs.toArray n) (listOf (vs ++ [x]).toArray (n + 1)) news news')
    (h : ∀ h', Fr h₀ L h' m → News h₀ L h' news' → Q .none { s with heap := h' }) (hsz : vs.length ≤ sizeLine) : wpAny (model prog w) A (call (.builtin "list.append") [.ref D, x]) Q E s := by
  refine append_K (its := vs.toArray) (n := n) (x := x) F N (news' := news') ?_ h (by simpa using hsz)
  rw [List.push_toArray]
  exact U
theorem arr_mem : ∀ (n : Nat) (xs : List VN), ∀ r ∈ arr n xs, ∀ x ∈ r, x ∈ xs := by
  intro n
  induction n with
  | zero => intro xs r hr x hx; simp [arr] at hr; subst hr; exact hx
  | succ n ih =>
    intro xs r hr x hx
    rw [arr] at hr
    split at hr
    · rw [List.mem_singleton.mp hr] at hx; exact hx
    · simp only [List.mem_flatMap, List.mem_map, List.mem_range] at hr
      obtain ⟨i, hi, q, hq, rfl⟩ := hr
      rcases List.mem_cons.mp hx with rfl | hx
      · rw [List.getD_eq_getElem?_getD, List.getElem?_eq_getElem hi]; exact List.getElem_mem _
      · have := ih _ q hq x hx
        rcases List.mem_append.mp this with h | h
        · exact List.mem_of_mem_take h
        · exact List.mem_of_mem_drop h
/-- what is newer than the jar -/
def upJ (jar : Addr) (led : Led) : Led := led.filter fun p => decide (@LT.lt Nat _ jar p.1)
theorem upJ_lt (jar : Addr) (led : Led) : ∀ p ∈ upJ jar led, @LT.lt Nat _ jar p.1 := fun p hp => of_decide_eq_true (List.mem_filter.mp hp).2
theorem upJ_sub {jar : Addr} {led : Led} : ∀ p ∈ upJ jar led, p ∈ led := fun p hp => (List.mem_filter.mp hp).1
theorem upJ_mem {jar : Addr} {led : Led} {p : Addr × Obj} (h : p ∈ led) (l : @LT.lt Nat _ jar p.1) : p ∈ upJ jar led := List.mem_filter.mpr ⟨h, decide_eq_true l⟩
theorem upJ_mem_app {jar : Addr} {led R : Led} {p : Addr × Obj} (h : p ∈ led) (l : @LT.lt Nat _ jar p.1) : p ∈ upJ jar led ++ R := List.mem_append_left _ (upJ_mem h l)
theorem head_news {h₀ h : Heap} {L jar : Addr} {ot oc om jo : Obj} {R led : Led} (N : News h₀ L h led) (hs : ∀ p ∈ headLed L ot oc om jar jo R, p ∈ led) : News h₀ L h (headLed L ot oc om jar jo (upJ jar led ++ R)) := fun p hp => N p (by
  rcases List.mem_cons.mp hp with rfl | hp
  · exact hs _ (.head _)
  · rcases List.mem_cons.mp hp with rfl | hp
    · exact hs _ (.tail _ (.head _))
    · rcases List.mem_cons.mp hp with rfl | hp
      · exact hs _ (.tail _ (.tail _ (.head _)))
      · rcases List.mem_cons.mp hp with rfl | hp
        · exact hs _ (.tail _ (.tail _ (.tail _ (.head _))))
        · rcases List.mem_append.mp hp with hp | hp
          · exact upJ_sub p hp
          · exact hs _ (.tail _ (.tail _ (.tail _ (.tail _ hp)))))
/-- the same over a range of an int -/
theorem comp_rangeMI {prog : Program} {w : World} {A : Around} {E : Value → Shared → Prop} {s : Shared} {env : Env} {x : Str} {px : Pos} {elt : Expr} {scope : Scope} {cl : List (Str × Addr)} {h₀ : Heap} {L ax : Addr} {n : Int} {t u v : Tok} {led : Led} {m : Str → Option Value} {md : Addr → Str → Option Value} {Qd : Addr → Shared → Prop} (Inv : Led → Nat → List Value → Led → Prop)
    (hx : scope.names.lookup x = some .local) (hkind : scope.kind = .function)
    (hh : A.handled = none) (F : Fr h₀ L s.heap m) (N : News h₀ L s.heap led) (hm : (ax, rangeO 0 n 1 t u v) ∈ led) (hn : 0 ≤ n) (hz : n ≤ 60) (h0 : Inv led 0 [] led)
    (ok : ∀ C (i : Nat) tv ys led' own oC m₂ h tk E', (i : Int) < n → Inv led i ys led' → Fr h₀ L h m → News h₀ L h ((C, oC) :: (own ++ led')) → NsO oC m₂ → m₂ x = some (.int i tv) → (∀ p ∈ led', p.1 ≠ C ∧ ∀ q ∈ own, p.1 ≠ q.1) →
      wpAny (model prog w) A (eval elt (compEnvC scope cl C env)) (fun y s₄ => MStep h₀ L m C oC own led' (Inv led (i + 1) (ys ++ [y])) s s₄) E' { s with heap := h, toks := tk })
    (done : ∀ D ys led' k h' tk, Inv led n.toNat ys led' → Fr h₀ L h' (md D) → News h₀ L h' ((D, listOf ys.toArray k) :: led') → (∀ p ∈ led', p.1 ≠ D) → (∀ p ∈ led, p.1 < D) → Qd D { s with heap := h', toks := tk }) :
    wpAny (model prog w) A (pyIter (.ref ax)) (CompAt prog w A env (.Name x px) elt [] scope cl h₀ L m md Qd) E s := by
  obtain ⟨k, rfl⟩ := Int.eq_ofNat_of_zero_le hn
  exact comp_rangeM (n := k) Inv hx hkind (Nat.le_trans (by omega : k ≤ 60) (by decide)) hh F N hm (range_small (by omega : k ≤ 60)) (range_size _) h0 (fun C i tv ys led' own oC m₂ h tk E' hi => ok C i tv ys led' own oC m₂ h tk E' (by omega)) (fun D ys led' k' h' tk a _ => done D ys led' k' h' tk (by simpa using a))
theorem NumsIn.drop {led led' : Led} {xs : List VN} (h : NumsIn led xs) (hs : ∀ p ∈ led, p ∈ led' ∨ NoTup p.2) : NumsIn led' xs := fun x hx => ⟨numIn_drop hs (h x hx).1, (h x hx).2⟩
theorem od_sub {A B : Led} (h : ∀ p ∈ A, p ∈ B) : ∀ p ∈ A, p ∈ B ∨ NoTup p.2 := fun p q => .inl (h p q)
theorem od_cons {A B : Led} {a : Addr × Obj} (k : a ∈ B ∨ NoTup a.2) (h : ∀ p ∈ A, p ∈ B ∨ NoTup p.2) : ∀ p ∈ a :: A, p ∈ B ∨ NoTup p.2 := fun p q => by
  cases q with
  | head => exact k
  | tail _ q => exact h p q
theorem od_both {A C B : Led} (h : ∀ p ∈ A, p ∈ B ∨ NoTup p.2) (k : ∀ p ∈ C, p ∈ B ∨ NoTup p.2) : ∀ p ∈ A ++ C, p ∈ B ∨ NoTup p.2 := fun p q => (List.mem_append.mp q).elim (h p) (k p)
theorem noTup_list {vs : Array Value} {k : Nat} : NoTup (W.listOf vs k) := fun _ _ e => absurd (Value.type.inj (congrArg Obj.cls e)) (by decide)
theorem nums_snoc {led : Led} {xs : List VN} {v : Value} {N : Num} (h : NumsIn led xs) (hv : NumIn led v N) (ok : N.Ok) : NumsIn led (xs ++ [(v, N)]) := fun x hx => by
  rcases List.mem_append.mp hx with hx | hx
  · exact h x hx
  · rw [List.mem_singleton.mp hx]; exact ⟨hv, ok⟩
theorem units_snoc {xs : List VN} {v : Value} {N : Num} (h : (unitsL xs).Pairwise (· < ·)) (hb : ∀ x ∈ xs, x.2.units < N.units) : (unitsL (xs ++ [(v, N)])).Pairwise (· < ·) := by
  unfold unitsL at *
  rw [List.map_append, List.pairwise_append]
  refine ⟨h, by simp, fun a ha b hb' => ?_⟩
  obtain ⟨x, hx, rfl⟩ := List.mem_map.mp ha
  simp at hb'
  rw [hb']; exact hb x hx
theorem news_push {h₀ h : Heap} {L : Addr} {tl l R : Led} (N : News h₀ L h (tl ++ (l ++ R))) : News h₀ L h (l ++ (tl ++ R)) := fun p hp => N p (by
  rcases List.mem_append.mp hp with hp | hp
  · exact List.mem_append_right _ (List.mem_append_left _ hp)
  · rcases List.mem_append.mp hp with hp | hp
    · exact List.mem_append_left _ hp
    · exact List.mem_append_right _ (List.mem_append_right _ hp))
theorem fr_eq {h₀ h : Heap} {L : Addr} {m m' : Str → Option Value} (F : Fr h₀ L h m) (e : m = m') : Fr h₀ L h m' := e ▸ F
theorem memD {a : Addr × Obj} {l : List (Addr × Obj)} (h : a ∈ l) : List.Mem a l := h
theorem hold_intro {P : Prop} (h : Hold P) : P := h
theorem ord_tl {D : Addr} {o : Obj} {led tl : Led} (h : ∀ q ∈ led, ∀ p ∈ (D, o) :: tl, q.1 < p.1) : ∀ q ∈ led, ∀ p ∈ tl, q.1 < p.1 := fun q hq p hp => h q hq p (.tail _ hp)
end Mine
end
section
open PySem PySem.W PyProof.Rows PySem.Calls
open Sem (wp)
set_option maxRecDepth 100000
set_option maxHeartbeats 4000000
set_option linter.unusedVariables false
namespace Mine
example : True := by (k_with_none; trivial)
section
variable {prog : Program} {w : World} {A : Around} {E : Value → Shared → Prop} {s : Shared} {env : Env}
/-- a store to a comprehension's own name -/
theorem comp_store {x : Str} {px : Pos} {scope : Scope} {cl : List (Str × Addr)} {h₀ : Heap} {L C : Addr} {oC : Obj} {m m₂ : Str → Option Value} {rest : Led} {v : Value} {Q : Unit → Shared → Prop}
    (hx : scope.names.lookup x = some .local) (hkind : scope.kind = .function) (F : Fr h₀ L s.heap m) (N : News h₀ L s.heap ((C, oC) :: rest)) (nC : NsO oC m₂) (hr : ∀ p ∈ rest, p.1 ≠ C)
    (h : ∀ h₂ oC', Fr h₀ L h₂ m → News h₀ L h₂ ((C, oC') :: rest) → NsO oC' (fun z => if z = x then some v else m₂ z) → Q () { s with heap := h₂, toks := s.toks + 1 }) :
    wpAny (model prog w) A (assign (.Name x px) (compEnvC scope cl C env) v) Q E s := by
  have nCh := nC.ns (N _ (.head _)).1
  have hC0 := (N (C, oC) (.head _)).2.2
  have hCL : C ≠ L := (N (C, oC) (.head _)).2.1
  refine wpAny_assign_Name (wpAny_storeName_local (lookup_relabel_local hx) nCh (fun h₂ hn₂ hs₂ => ?_) (by simp [compEnvC, relabel, hkind]))
  replace hs₂ : Heap.SameBut C s.heap h₂ := hs₂
  obtain ⟨oC', eC', nC'⟩ := NsO.of hn₂
  refine h h₂ oC' (fr_ext F hs₂.extBut hC0 hCL) (fun p hp => ?_) nC'
  rcases List.mem_cons.mp hp with rfl | hp
  · exact ⟨eC', hCL, hC0⟩
  · exact news_ext (fun q hq => N q (.tail _ hq)) hs₂.extBut hr p hp
/-- a turn with two names for a pair of the ledger -/
theorem cturn_pair {x y : Str} {px py pos : Pos} {kk : Nat} {elt : Expr} {scope : Scope} {cl : List (Str × Addr)} {I : Addr} {fp wr : List Addr} {n : Nat} {P : Nat → Value → Prop} {St : Nat → Heap → Prop} {h₀ : Heap} {L : Addr} {m : Str → Option Value} {Inv : Nat → List Value → Led → Prop}
    (hh : A.handled = none) (hx : scope.names.lookup x = some .local) (hy' : scope.names.lookup y = some .local) (hxy : x ≠ y) (hkind : scope.kind = .function) (hob : ∀ i h, St i h → ∀ b ∈ wr, ∃ o, h.get? b = some o) (hsub : ∀ b ∈ wr, b ∈ fp) (hwr : ∀ b ∈ wr, h₀.get? b = none)
    (hgo : ∀ i v (s : Shared) (Q : Unit → Shared → Prop) (E : Value → Shared → Prop), St i s.heap → Q () s → wpAny (model prog w) A (letOwnedTupleGo (.Tuple [.Name x px, .Name y py] kk pos) (.ref I) v) Q E s)
    (hq : ∀ i v ys led, i < n → P i v → Inv i ys led → ∃ q a b k, v = .ref q ∧ (q, tupO [a, b] k) ∈ led)
    (ok : ∀ C i q a b k ys led own oC m₂ h tk E', i < n → P i (.ref q) → Inv i ys led → (q, tupO [a, b] k) ∈ led → Fr h₀ L h m → News h₀ L h ((C, oC) :: (own ++ led)) → NsO oC m₂ → m₂ x = some a → m₂ y = some b →
      wpAny (model prog w) A (eval elt (compEnvC scope cl C env)) (fun y s₄ => PStep h₀ L m ((C, oC) :: (own ++ led)) led (Inv (i + 1) (ys ++ [y])) s s₄) E' { s with heap := h, toks := tk }) :
    CTurn prog w A env (.Tuple [.Name x px, .Name y py] kk pos) elt [] scope cl I fp wr n P St h₀ L m Inv s := by
  intro C D i v ys led own oC m₂ h tk E' hi hP hI hy hl st F N nC hoC hD hown hownD
  obtain ⟨q, a, b, k, rfl, hqm⟩ := hq i v ys led hi hP hI
  refine hgo (i + 1) _ _ _ _ st ?_
  have hsz : ∀ p ∈ (C, oC) :: (own ++ led), p.1 ≠ h.objs.size := fun p hp => Nat.ne_of_lt (Heap.lt_size (N p hp).1)
  have hr : ∀ p ∈ own ++ led, p.1 ≠ C := fun p hp => by
    rcases List.mem_append.mp hp with hp | hp
    · exact hoC p hp
    · exact (hl p hp).2.2
  refine wpAny_assign_Tuple (items := #[a, b]) hh ⟨_, (N _ (.tail _ (List.mem_append_right _ hqm))).1, rfl, k, rfl⟩ rfl rfl fun h₁ ext => ?_
  have F₁ : Fr h₀ L h₁ m := fr_ext F ext (next_is_new F) (Nat.ne_of_gt F.ns.lt)
  have N₁ : News h₀ L h₁ ((C, oC) :: (own ++ led)) := news_ext N ext hsz
  show wpAny _ A (assignInOrder [assign (.Name x px) _, assign (.Name y py) _] [a, b]) _ _ _
  refine wpAny_assignInOrder_more (comp_store (s := { s with heap := h₁, toks := tk }) hx hkind F₁ N₁ nC hr fun h₂ oC₂ F₂ N₂ nC₂ => ?_)
  refine wpAny_assignInOrder_more (comp_store (s := { s with heap := h₂, toks := tk + 1 }) hy' hkind F₂ N₂ nC₂ hr fun h₃ oC₃ F₃ N₃ nC₃ => ?_)
  refine wpAny_assignInOrder_none ?_
  obtain ⟨kD, hD⟩ := hD
  have hw : ∀ b ∈ wr, ∃ o, (b, o) ∈ own := fun b hb => by
    obtain ⟨o, ho⟩ := hob _ _ st b hb
    exact ⟨o, hown b (hsub b hb) (hwr b hb) o ho⟩
  refine wpAny_tests_nil ?_
  rw [if_pos rfl]
  exact wpAny_mono (ok C i q a b k ys led own oC₃ _ h₃ _ E' hi hP hI hqm F₃ N₃ nC₃ (by simp [hxy]) (by simp)) (fun y s₄ q => cstep_of nC₃ hD hw hl q) fun _ _ q => q
/-- a comprehension over a list of pairs -/
theorem comp_pair_list {x y : Str} {px py pos : Pos} {kk : Nat} {elt : Expr} {scope : Scope} {cl : List (Str × Addr)} {h₀ : Heap} {L ax : Addr} {vs : List Value} {k : Nat} {led : Led} {m : Str → Option Value} {md : Addr → Str → Option Value} {Qd : Addr → Shared → Prop} (Inv : Led → Nat → List Value → Led → Prop)
    (hx : scope.names.lookup x = some .local) (hy : scope.names.lookup y = some .local) (hxy : x ≠ y) (hkind : scope.kind = .function)
    (hh : A.handled = none) (F : Fr h₀ L s.heap m) (N : News h₀ L s.heap led) (hm : (ax, listOf vs.toArray k) ∈ led) (hsz : vs.length ≤ sizeLine) (h0 : Inv led 0 [] led)
    (hq : ∀ i v ys led', vs[i]? = some v → Inv led i ys led' → ∃ q a b k, v = .ref q ∧ (q, tupO [a, b] k) ∈ led')
    (ok : ∀ C i q a b k ys led' own oC m₂ h tk E', vs[i]? = some (.ref q) → Inv led i ys led' → (q, tupO [a, b] k) ∈ led' → Fr h₀ L h m → News h₀ L h ((C, oC) :: (own ++ led')) → NsO oC m₂ → m₂ x = some a → m₂ y = some b →
      wpAny (model prog w) A (eval elt (compEnvC scope cl C env)) (fun y s₄ => PStep h₀ L m ((C, oC) :: (own ++ led')) led' (Inv led (i + 1) (ys ++ [y])) s s₄) E' { s with heap := h, toks := tk })
    (done : ∀ D ys led' k h' tk, Inv led vs.length ys led' → ys.length ≤ vs.length → Fr h₀ L h' (md D) → News h₀ L h' ((D, listOf ys.toArray k) :: led') → (∀ p ∈ led', p.1 ≠ D) → (∀ p ∈ led, p.1 < D) → Qd D { s with heap := h', toks := tk }) :
    wpAny (model prog w) A (pyIter (.ref ax)) (CompAt prog w A env (.Tuple [.Name x px, .Name y py] kk pos) elt [] scope cl h₀ L m md Qd) E s := by
  refine iter_list (Inv led) hh F N hm hsz h0 (fun I hI0 => ?_) done
  exact cturn_pair hh hx hy hxy hkind listiter_ob (fun b hb => by rw [List.mem_singleton.mp hb]; exact .head _) (fun b hb => by rw [List.mem_singleton.mp hb]; exact hI0) (fun i v s Q E st hQ => letGo_listiter st.1 hQ) (fun i v ys led' _ hP hI => hq i v ys led' hP hI) (fun C i q a b k ys led' own oC m₂ h tk E' _ hP hI => ok C i q a b k ys led' own oC m₂ h tk E' hP hI)
end
end Mine
end
section
open PySem PySem.W PyProof.Rows
set_option maxRecDepth 100000
set_option maxHeartbeats 4000000
set_option linter.unusedVariables false
namespace Mine
example : True := by (k_with_none; trivial)
theorem num_neg_units (N : Num) : N.neg.units = -N.units := by
  cases N with
  | i n => show 100 * (0 - n) = -(100 * n); omega
  | d c e => exact units_neg
theorem num_neg_ok {N : Num} (h : N.Ok) : N.neg.Ok := by
  cases N with
  | i n => obtain ⟨a, b⟩ := h; exact ⟨by omega, by omega⟩
  | d c e => exact neg_ok h
theorem ledStep_neg {z zs : List VN} {lo hi : Int} (hnd : NodupU z) (hp : PairOk z.length (lo, hi)) (e : zs.map (·.2) = z.map fun x => x.2.neg) : (ledStep zs (hi, lo)).map (·.2) = (ledStep z (lo, hi)).map fun x => x.2.neg := by
  obtain ⟨a1, a2, a3, a4, a5⟩ := hp
  simp only at a1 a2 a3 a4 a5
  have hl : zs.length = z.length := by have := congrArg List.length e; simpa using this
  have h1 : lo.toNat < z.length := by omega
  have h2 : hi.toNat < z.length := by omega
  have x1 : z[lo.toNat]? = some z[lo.toNat] := List.getElem?_eq_getElem h1
  have x2 : z[hi.toNat]? = some z[hi.toNat] := List.getElem?_eq_getElem h2
  have y1 : zs[lo.toNat]? = some (zs[lo.toNat]'(by omega)) := List.getElem?_eq_getElem _
  have y2 : zs[hi.toNat]? = some (zs[hi.toNat]'(by omega)) := List.getElem?_eq_getElem _
  have e1 : (zs[lo.toNat]'(by omega)).2 = (z[lo.toNat]).2.neg := by
    have := congrArg (fun l => l[lo.toNat]?) e
    simp only [List.getElem?_map, x1, y1, Option.map_some] at this
    exact Option.some.inj this
  have e2 : (zs[hi.toNat]'(by omega)).2 = (z[hi.toNat]).2.neg := by
    have := congrArg (fun l => l[hi.toNat]?) e
    simp only [List.getElem?_map, x2, y2, Option.map_some] at this
    exact Option.some.inj this
  have hne := nodup_ne hnd x1 x2 (by omega)
  generalize z[lo.toNat] = x at x1 e1 hne
  generalize z[hi.toNat] = y at x2 e2 hne
  generalize (zs[lo.toNat]'(by omega)) = x' at y1 e1
  generalize (zs[hi.toNat]'(by omega)) = y' at y2 e2
  have u1 : x'.2.units = -x.2.units := by rw [e1, num_neg_units]
  have u2 : y'.2.units = -y.2.units := by rw [e2, num_neg_units]
  unfold ledStep
  simp only [x1, x2, y1, y2, List.map_set, e]
  rw [List.set_comm _ _ (by omega : hi.toNat ≠ lo.toNat)]
  have m1 : (mn y' x').2 = (mx x y).2.neg := by
    unfold mn mx
    rw [u1, u2]
    rcases Int.lt_or_gt_of_ne hne with h | h
    · rw [if_neg (by omega), if_pos h, e2]
    · rw [if_pos (by omega), if_neg (by omega), e1]
  have m2 : (mx y' x').2 = (mn x y).2.neg := by
    unfold mn mx
    rw [u1, u2]
    rcases Int.lt_or_gt_of_ne hne with h | h
    · rw [if_pos (by omega), if_neg (by omega), e1]
    · rw [if_neg (by omega), if_pos (by omega), e2]
  rw [m1, m2]
theorem ledF_neg (ps : List (Int × Int)) : ∀ (z zs : List VN), NodupU z → (∀ p ∈ ps, PairOk z.length p) → zs.map (·.2) = z.map (fun x => x.2.neg) → (ledF (ps.map fun p => (p.2, p.1)) zs).map (·.2) = (ledF ps z).map fun x => x.2.neg := by
  induction ps with
  | nil => intro z zs _ _ e; exact e
  | cons p r ih =>
    intro z zs hn hp e
    obtain ⟨lo, hi⟩ := p
    have hp0 := hp _ (.head _)
    obtain ⟨x, y, S⟩ := stepAt hp0
    exact ih (ledStep z (lo, hi)) (ledStep zs (hi, lo)) (nodup_perm hn (S.perm hn)) (fun p hp' => by rw [ledStep_len]; exact hp p (.tail _ hp')) (ledStep_neg hn hp0 e)
/-- negated, one by one -/
def GNeg (led : Led) (x : VN) (r : Value) : Prop := NumIn led r x.2.neg
theorem GNeg.drop : DropG GNeg := fun led led' x y hs h => numIn_drop hs h
theorem negs_of {led : Led} : ∀ {xs : List VN} {ys : List Value}, ys.length = xs.length → (∀ x ∈ xs, x.2.Ok) → AllG GNeg led xs ys → ∃ zs : List VN, zs.map (·.1) = ys ∧ zs.map (·.2) = xs.map (fun x => x.2.neg) ∧ NumsIn led zs := by
  intro xs
  induction xs with
  | nil => intro ys h _ _; cases ys with
    | nil => exact ⟨[], rfl, rfl, fun _ h => nomatch h⟩
    | cons => simp at h
  | cons x r ih => intro ys h ok g; cases ys with
    | nil => simp at h
    | cons y ys =>
      obtain ⟨zs, h1, h2, h3⟩ := ih (ys := ys) (by simpa using h) (fun x hx => ok x (.tail _ hx)) (fun j x' y' a b => g (j + 1) x' y' a b)
      refine ⟨(y, x.2.neg) :: zs, by simp [h1], by simp [h2], fun q hq => ?_⟩
      rcases List.mem_cons.mp hq with rfl | hq
      · exact ⟨g 0 x y rfl rfl, num_neg_ok (ok x (.head _))⟩
      · exact h3 q hq
/-- the pairs turned round -/
theorem swap_ok {n : Nat} {pxs qxs : List (Value × Int × Int)} (h : ∀ x ∈ pxs, PairOk n x.2) (e : qxs.map (·.2) = (pxs.map (·.2)).map fun p => (p.2, p.1)) : ∀ x ∈ qxs, PairOk n x.2 := fun x hx => by
  have : x.2 ∈ (pxs.map (·.2)).map fun p => (p.2, p.1) := by rw [← e]; exact List.mem_map_of_mem hx
  simp only [List.mem_map] at this
  obtain ⟨_, ⟨y, hy, rfl⟩, e2⟩ := this
  obtain ⟨a, b, c, d, f⟩ := h y hy
  rw [← e2]
  exact ⟨c, d, a, b, Ne.symm f⟩
theorem dats_eq {a b : List VN} (h : a.map (·.2) = b.map (·.2)) : (a.map fun x => numDat x.2) = b.map fun x => numDat x.2 := by
  have := congrArg (List.map numDat) h
  simpa [List.map_map, Function.comp_def] using this
end Mine
end
section
open PySem PySem.W PyProof.Rows
set_option maxRecDepth 100000
set_option maxHeartbeats 8000000
set_option linter.unusedVariables false
namespace Mine
example : True := by (k_with_none; trivial)
example : True := by ((k_with "u1" => ((case k1zz => k_asm); (case k2zz => k_asm); (case k3zz => k_asm); (case k4zz => k_asm); (case k5zz => k_asm))); trivial)
example : True := by ((k_with "u2" => ((case kKzz => first | exact rfl | assumption); (case kdzz => ktr_room); (case kuzz => ktr_units))); trivial)
example : True := by ((k_with "u3" => (intro r9zz tl9zz h9zz tk9zz F9zz N9zz l9zz o9zz; (try dsimp only at o9zz))); trivial)
example : True := by ((k_with "u4" => ((try simp only [List.nil_append, List.cons_append] at N9zz); (try dsimp only); (try k_fold))); trivial)
example : True := by ((k_with "suf" => (first | apply sub_refl | assumption | (refine sub_tail ?_; k_extra "suf") | (refine sub_app ?_; k_extra "suf") | apply sub_nil | (refine sub_appL ?_; k_extra "suf"))); trivial)
example : True := by ((k_with "in" => (first | assumption | apply in_head | (refine in_tail ?_; k_extra "in") | (refine in_app ?_; k_extra "in") | (refine in_appL ?_; k_extra "in"))); trivial)
example : True := by ((k_with "sub" => (first | k_extra "suf" | (refine sub_cons ?_ ?_; (focus k_extra "in"); k_extra "sub") | (refine sub_both ?_ ?_; (focus k_extra "sub"); k_extra "sub") | (refine sub_trans ?_ (by assumption); k_extra "suf"))); trivial)
example : True := by ((k_with "lt0" => (first | assumption | (refine Mine.pickA (by assumption) ?_; intro hz9zz; first | apply hz9zz.1 | (replace hz9zz := hz9zz.2; first | apply hz9zz.1 | (replace hz9zz := hz9zz.2; first | apply hz9zz.1 | (replace hz9zz := hz9zz.2; first | apply hz9zz.1 | (replace hz9zz := hz9zz.2; first | apply hz9zz.1 | (replace hz9zz := hz9zz.2; first | apply hz9zz.1 | (replace hz9zz := hz9zz.2; first | apply hz9zz.1 | (replace hz9zz := hz9zz.2; first | apply hz9zz.1 | (replace hz9zz := hz9zz.2; first | apply hz9zz.1 | (replace hz9zz := hz9zz.2; first | apply hz9zz.1 | (replace hz9zz := hz9zz.2; first | apply hz9zz.1 | (replace hz9zz := hz9zz.2; first | apply hz9zz.1 | (replace hz9zz := hz9zz.2; first | apply hz9zz.1 | (replace hz9zz := hz9zz.2; first | apply hz9zz.1 | apply hz9zz.2)))))))))))))))); trivial)
example : True := by ((k_with "lt1" => (first | apply Mine.sl1 | apply Mine.sl2 | apply Mine.sl3 | apply Mine.sl4 | exact Mine.dn1 (by assumption) | exact Mine.dn2 (by assumption) | exact Mine.dn3 (by assumption) | exact Mine.dn4 (by assumption) | exact Mine.upx (by assumption) (by assumption) | exact Mine.up4 (by assumption) | (refine Nat.lt_trans ?_ (by assumption); first | k_extra "lt0" | exact Mine.dn1 (by assumption) | exact Mine.dn2 (by assumption) | exact Mine.dn3 (by assumption) | exact Mine.dn4 (by assumption) | (refine Nat.lt_trans ?_ (by assumption); k_extra "lt0")))); trivial)
example : True := by ((k_with "LeaveK" => (k_dflt (refine' leaveK_ ?k1zz ?k2zz ?_; (case k1zz => k_asm); (case k2zz => k_asm); k_whole); intro kFzz kNzz; (try dsimp only))); trivial)
example : True := by ((k_with "k_mem" => (first | assumption | (refine' List.mem_append_right _ ?_; k_mem) | (refine' List.mem_append_left _ ?_; k_mem))); trivial)
example : True := by ((k_with "kcj_all" => (k_whole; first | (refine fun pzz hpzz => List.mem_append_right _ ?_; assumption) | (intro pzz hpzz; (simp only [List.mem_append, List.mem_cons, List.not_mem_nil, or_false, false_or] at hpzz ⊢); first | assumption | (simp only [hpzz, true_or, or_true]; done) | grind))); trivial)
example : True := by ((k_with "kcj_all" => (k_whole; with_reducible k_extra "sub")); trivial)
example : True := by ((k_with "newTuple" => (k_here; k_dflt (refine' kup_newTuple ?Fzz ?Nzz ?_ ?zzz; (case Fzz => k_asm); (case Nzz => k_asm); (case zzz => kmk_size)); intro D'zz h'zz F'zz N'zz l1zz; (try k_lt l1zz); (try k_sweep))); trivial)
example : True := by ((k_with "binaryOp Pow int int" => ((with_reducible refine pow_int_small ?kb1zz ?kb2zz ?kb3zz ?_); (case kb1zz => omega); (case kb2zz => omega); (case kb3zz => decide))); trivial)
example : True := by ((k_with "subscriptTail" => (k_here; (with_reducible show wpAny _ _ (subscriptTail _ _ (Value.ref _) (Value.int _ _)) _ _ _); (with_unfolding_all refine' item_litK ?k1zz ?k2zz ?k3zz ?k4zz ?_ ?k6zz; (case k1zz => exact isListOf (by k_asm) (by k_mem)); (case k2zz => first | decide | omega); (case k3zz => first | decide | omega); (case k4zz => first | rfl | assumption); (case k6zz => with_unfolding_all rfl); k_whole))); trivial)
example : True := by ((k_with "subscriptTail Name Name ref int" => (k_here; (with_reducible show wpAny _ _ (subscriptTail _ _ (Value.ref _) (Value.int _ _)) _ _ _); (with_unfolding_all refine' item_litK ?k1zz ?k2zz ?k3zz ?k4zz ?_ ?k6zz; (case k1zz => exact isListOf (by k_asm) (by k_mem)); (case k2zz => first | decide | omega); (case k3zz => first | decide | omega); (case k4zz => first | rfl | assumption); (case k6zz => with_unfolding_all rfl); k_whole))); trivial)
example : True := by ((k_with "subscriptTail Name Constant ref int" => (k_here; (with_reducible show wpAny _ _ (subscriptTail _ _ (Value.ref _) (Value.int _ _)) _ _ _); (with_unfolding_all refine' item_litK ?k1zz ?k2zz ?k3zz ?k4zz ?_ ?k6zz; (case k1zz => exact isListOf (by k_asm) (by k_mem)); (case k2zz => first | decide | omega); (case k3zz => first | decide | omega); (case k4zz => first | rfl | assumption); (case k6zz => with_unfolding_all rfl); k_whole))); trivial)
example : True := by ((k_with "call ref" => (k_here; (with_reducible show wpAny _ _ (call (Value.ref 255) _) _ _ _); k_dflt ((refine' sp_use (sp_reckoned _ _ _ _ _ _ _ _ _ ?p1zz ?p2zz ?p3zz ?p4zz ?p5zz) ?k1zz ?k2zz ?k3zz ?k4zz ?k5zz ?kKzz ?kdzz ?kuzz ?_); k_extra "u1"; k_extra "u2"; (case p4zz => first | exact numIn_i | exact numIn_d (by k_mem) | exact NumIn.mono (by assumption) (by kcj_all) | assumption); (case p5zz => first | exact numIn_i | exact numIn_d (by k_mem) | exact NumIn.mono (by assumption) (by kcj_all) | assumption); (case p1zz => assumption); (case p2zz => assumption); (case p3zz => first | assumption | k_extra "sum"); k_extra "u3"; skip; k_extra "u4"))); trivial)
example : True := by ((k_with "getAttr ref" => (k_here; k_dflt (refine' get_own ?k1zz ?k2zz ?k3zz ?k4zz ?k5zz ?k6zz ?k7zz ?k8zz ?k9zz ?_; (case k1zz => k_asm); (case k2zz => k_asm); (case k3zz => k_inst); (case k4zz => k_is); (case k5zz => k_is); (case k6zz => k_is); (case k7zz => k_is); (case k8zz => assumption); (case k9zz => exact rfl); k_whole))); trivial)
example : True := by ((k_with "call ref" => (k_here; (with_reducible show wpAny _ _ (call (Value.ref 262) _) _ _ _); k_dflt ((refine' sp_use (sp_negated _ _ _ _ _ _ ?p1zz ?p2zz) ?k1zz ?k2zz ?k3zz ?k4zz ?k5zz ?kKzz ?kdzz ?kuzz ?_); k_extra "u1"; k_extra "u2"; (case p2zz => first | assumption | exact NumIn.mono (by assumption) (by kcj_all)); (case p1zz => assumption); k_extra "u3"; skip; k_extra "u4"))); trivial)
example : True := by ((k_with "call ref" => (k_here; (with_reducible show wpAny _ _ (call (Value.ref 368) _) _ _ _); k_dflt ((refine' sp_useI (sp_units _ _ _ _ ?p1zz ?p2zz) ?k1zz ?k2zz ?k3zz ?k4zz ?k5zz ?kKzz ?kdzz ?kuzz ?_); k_extra "u1"; k_extra "u2"; (case p2zz => first | assumption | exact NumIn.mono (by assumption) (by kcj_all)); (case p1zz => assumption); intro h9zz tk9zz F9zz t9zz N9zz; (try dsimp only); (try k_fold)))); trivial)
example : True := by ((k_with "call ref" => (k_here; (with_reducible show wpAny _ _ (call (Value.ref 361) _) _ _ _); k_dflt ((refine' sp_use (sp_law_number _ _ _ _ _ ?p1zz ?p2zz) ?k1zz ?k2zz ?k3zz ?k4zz ?k5zz ?kKzz ?kdzz ?kuzz ?_); k_extra "u1"; k_extra "u2"; (case p1zz => omega); (case p2zz => omega); k_extra "u3"; skip; k_extra "u4"))); trivial)
example : True := by ((k_with "call ref" => (k_here; (with_reducible show wpAny _ _ (call (Value.ref 311) _) _ _ _); k_dflt ((refine' sp_useV (sp_number_min _ _ _ _ _ _ _ _ _ ?p1zz ?p2zz ?p3zz ?p4zz ?p5zz) ?k1zz ?k2zz ?k3zz ?k4zz ?k5zz ?kKzz ?kdzz ?kuzz ?_); k_extra "u1"; k_extra "u2"; (case p5zz => k_dflt k_mem); (case p3zz => first | assumption | exact NumIn.mono (by assumption) (by kcj_all)); (case p4zz => first | assumption | exact NumIn.mono (by assumption) (by kcj_all)); (case p1zz => assumption); (case p2zz => assumption); intro h9zz tk9zz F9zz N9zz; (try dsimp only); (try k_fold)))); trivial)
example : True := by ((k_with "call ref" => (k_here; (with_reducible show wpAny _ _ (call (Value.ref 318) _) _ _ _); k_dflt ((refine' sp_useV (sp_number_max _ _ _ _ _ _ _ _ _ ?p1zz ?p2zz ?p3zz ?p4zz ?p5zz) ?k1zz ?k2zz ?k3zz ?k4zz ?k5zz ?kKzz ?kdzz ?kuzz ?_); k_extra "u1"; k_extra "u2"; (case p5zz => k_dflt k_mem); (case p3zz => first | assumption | exact NumIn.mono (by assumption) (by kcj_all)); (case p4zz => first | assumption | exact NumIn.mono (by assumption) (by kcj_all)); (case p1zz => assumption); (case p2zz => assumption); intro h9zz tk9zz F9zz N9zz; (try dsimp only); (try k_fold)))); trivial)
example : True := by ((k_with "call ref" => (k_here; (with_reducible show wpAny _ _ (call (Value.ref 385) _) _ _ _); k_dflt ((refine' sp_useV (sp_law_rises _ _ _ _ _ ?p1zz ?p2zz ?p3zz) ?k1zz ?k2zz ?k3zz ?k4zz ?k5zz ?kKzz ?kdzz ?kuzz ?_); k_extra "u1"; k_extra "u2"; (case p2zz => k_dflt k_mem); (case p1zz => first | assumption | exact NumsIn.mono (by assumption) (by kcj_all) | k_extra "nums"); (case p3zz => first | assumption | k_extra "len"); intro h9zz tk9zz F9zz N9zz; (try dsimp only); (try k_fold)))); trivial)
example : True := by ((k_with "call ref" => (k_here; (with_reducible show wpAny _ _ (call (Value.ref 380) _) _ _ _); k_dflt ((refine' sp_useL (sp_law_led _ _ _ _ _ _ _ _ _ ?p1zz ?p2zz ?p3zz ?p4zz ?p5zz ?p6zz ?p7zz) ?k1zz ?k2zz ?k3zz ?k4zz ?k5zz ?kKzz ?kdzz ?kuzz ?_); k_extra "u1"; k_extra "u2"; (case p2zz => k_dflt k_mem); (case p5zz => k_dflt k_mem); (case p1zz => first | assumption | exact NumsIn.mono (by assumption) (by kcj_all) | k_extra "nums"); (case p3zz => first | assumption | k_extra "len"); (case p4zz => first | assumption | exact PairsIn.mono (by assumption) (by kcj_all)); (case p6zz => first | assumption | k_extra "pok"); (case p7zz => first | assumption | k_extra "len"); intro h9zz tk9zz F9zz D9zz k9zz N9zz l9zz; (try dsimp only); (try k_fold)))); trivial)
example : True := by ((k_with "pyIter ref" => (first | k_extra "comp" | k_extra "for")); trivial)
example : True := by ((k_with "eval Name" => ((with_reducible show wpAny _ _ (eval _ (compEnvC _ _ _ _)) _ _ _); k_dflt (refine' comp_local ?Nzz ?hmzz ?nCzz ?hvzz ?_ ?azz ?bzz ?czz; (case bzz => exact rfl); (case azz => exact rfl); (case Nzz => k_asm); (case nCzz => assumption); (case hmzz => k_dflt k_mem); (case hvzz => assumption); (case czz => decide)))); trivial)
example : True := by ((k_with "eval Name" => ((with_reducible show wpAny _ _ (eval _ (compEnvC _ _ _ _)) _ _ _); k_dflt (refine' comp_cell ?Nzz ?hmzz ?hd'zz ?_ ?azz ?bzz ?ezz ?czz; (case bzz => exact rfl); (case azz => exact rfl); (case ezz => exact rfl); (case Nzz => k_asm); (case hmzz => k_dflt k_mem); (case hd'zz => assumption); (case czz => decide)))); trivial)
example : True := by ((k_with "exec Assign cons ListComp" => (k_dflt (refine' comp_assign ?aFzz ?a1zz ?a2zz ?a3zz ?a4zz ?a5zz ?a6zz ?a7zz ?a8zz ?_; (case aFzz => k_asm); (case a1zz => with_unfolding_all rfl); (case a2zz => with_unfolding_all rfl); (case a3zz => decide); (case a4zz => rfl); (case a5zz => decide); (case a6zz => intro _; with_unfolding_all rfl); (case a7zz => rfl); (case a8zz => rfl)))); trivial)
example : True := by ((k_with "eval ListComp" => (k_dflt (refine' comp_eval ?aFzz ?a2zz ?a3zz ?a4zz ?a5zz ?a6zz ?_; (case aFzz => k_asm); (case a2zz => with_unfolding_all rfl); (case a3zz => decide); (case a4zz => rfl); (case a5zz => decide); (case a6zz => intro _; with_unfolding_all rfl)))); trivial)
example : True := by ((k_with "call builtin:sorted" => (k_here; (with_reducible show wpAny _ _ (call (Value.builtin _) [Value.ref _]) _ _ _); (with_unfolding_all refine' kso_sorted ?k1zz ?k2zz ?k3zz ?k4zz ?k5zz ?_; (case k1zz => k_asm); (case k2zz => k_asm); (case k3zz => exact isListOf (by k_asm) (by k_mem)); (case k4zz => assumption); (case k5zz => assumption); k_whole); intro D'zz v'zz n'zz c'zz h'zz F'zz N'zz l1zz i'zz e'zz p'zz o'zz b'zz; (try k_lt l1zz); (try dsimp only))); trivial)
example : True := by ((k_with "compareOp Eq ref ref" => (k_here; (with_reducible show wpAny _ _ (compareOp CmpOp.Eq (Value.ref _) (Value.ref _)) _ _ _); k_dflt (refine' eq_intsK ?k1zz ?k2zz ?k3zz ?k4zz ?k5zz ?_; (case k1zz => exact isListOf (by k_asm) (by k_mem)); (case k3zz => exact isListOf (by k_asm) (by k_mem)); (case k2zz => assumption); (case k4zz => assumption); (case k5zz => ktr_units); k_whole))); trivial)
example : True := by ((k_with "exec For Tuple Name cons nil" => (k_here; (rename Fr _ _ _ _ => lF'zz); k_dflt (refine' For_invTF lF'zz ?_ ?hszz; (case hszz => intro _; with_unfolding_all rfl)))); trivial)
example : True := by ((k_with "k_all" => (assumption)); trivial)
example : True := by ((k_with "setItem ref int" => (k_here; k_dflt (refine' set_any ?k1zz ?k2zz ?k3zz ?k4zz ?k5zz ?k6zz ?_; (case k1zz => k_asm); (case k2zz => k_asm); (case k3zz => k_upd); (case k4zz => first | assumption | omega); (case k5zz => first | assumption | (simp only [List.length_set]; first | assumption | omega)); (case k6zz => omega); k_whole); intro h'zz F'zz N'zz; (try dsimp only))); trivial)
example : True := by ((k_with "subscriptTail Name Slice ref ref" => (k_here; k_dflt (refine' kmk_slice ?Fzz ?Nzz ?lzz ?pzz ?qzz ?_ ?szz ?tzz ?zzz; (case Fzz => k_asm); (case Nzz => k_asm); (case lzz => exact isListOf (by k_asm) (by k_mem)); (case pzz => kmk_part); (case qzz => kmk_part); (case szz => with_unfolding_all rfl); (case tzz => kmk_pure); (case zzz => (simp only [List.size_toArray, List.length_map, sizeLine_eq]; omega))); intro D'zz h'zz F'zz N'zz l1zz; (simp (disch := omega) only [pick_all, pick_upto, pick_from] at N'zz); (try k_lt l1zz); (try dsimp only))); trivial)
example : True := by ((k_with "len" => (first | assumption | omega | (rw [ledF_len]; omega))); trivial)
example : True := by ((k_with "pok" => (first | assumption | exact pok_of (by assumption) (by first | assumption | rw [ledF_len] | (rw [ledF_len]; assumption)))); trivial)
example : True := by ((k_with "nums" => (first | exact NumsIn.led (by assumption) _ | exact NumsIn.mono (NumsIn.led (by assumption) _) (by kcj_all))); trivial)
example : True := by ((k_with "call builtin:len" => (k_here; (with_reducible show wpAny _ _ (call (Value.builtin "len") [Value.ref _]) _ _ _); k_dflt (refine' len_any ?k1zz ?k2zz ?k3zz ?k4zz ?_; (case k1zz => k_asm); (case k2zz => k_dflt k_mem); (case k3zz => first | exact List.length_map .. | rfl); (case k4zz => first | omega | decide); k_whole))); trivial)
example : True := by ((k_with "call type:range" => (k_here; k_dflt (refine' range_any ?k1zz ?k2zz ?_; (case k1zz => k_asm); (case k2zz => k_asm)); intro D9zz h9zz ta9zz tb9zz tk9zz F9zz N9zz l9zz; (try k_lt l9zz); (try dsimp only); (try k_fold))); trivial)
example : True := by ((k_with "binaryOp Add ref ref" => (k_here; (with_reducible show wpAny _ _ (binaryOp _ (Value.ref _) (Value.ref _)) _ _ _); k_dflt (refine' add_any ?k1zz ?k2zz ?k3zz ?k4zz ?k5zz ?_; (case k1zz => k_asm); (case k2zz => k_asm); (case k3zz => k_dflt k_mem); (case k4zz => k_dflt k_mem); (case k5zz => (simp only [List.length_append, List.length_map, List.length_take, List.length_drop, List.length_cons, List.length_nil, sizeLine_eq]; omega))); intro D9zz h9zz F9zz N9zz l9zz; (try simp only [Int.toNat_natCast, toNat_succ, ← List.map_take, ← List.map_drop, ← List.map_append] at N9zz); (try k_lt l9zz); (try dsimp only); (try k_fold))); trivial)
example : True := by ((k_with "call ref" => (k_here; (with_reducible show wpAny _ _ (call (Value.ref 347) _) _ _ _); k_dflt (refine' fetched_at ?kUzz ?k1zz ?k2zz ?k3zz ?k4zz ?k5zz ?kKzz ?kdzz ?kuzz ?p1zz ?p2zz ?p3zz ?p4zz ?p5zz ?p6zz ?p7zz ?p8zz ?_; (case k1zz => k_asm); (case k2zz => k_asm); (case k3zz => k_asm); (case k4zz => k_asm); (case kUzz => k_updF); (case k5zz => k_asm); (case p7zz => k_dflt k_mem); (case p5zz => assumption); (case p6zz => first | assumption | omega | exact Nat.le_trans (List.length_take_le _ _) (by decide)); (case p8zz => k_ne); (case p1zz => omega); (case p2zz => omega); (case p3zz => omega); (case p4zz => omega); k_extra "u2"; intro x9zz tx9zz ts9zz kj9zz h9zz tk9zz x91zz x92zz F9zz N9zz; (try dsimp only at N9zz); (try dsimp only); (try k_fold)))); trivial)
example : True := by ((k_with "call ref" => (k_here; (with_reducible show wpAny _ _ (call (Value.ref 354) _) _ _ _); k_dflt (refine' pair_at ?kUzz ?k1zz ?k2zz ?k3zz ?k4zz ?k5zz ?kKzz ?kdzz ?kuzz ?p1zz ?p2zz ?p3zz ?p4zz ?p5zz ?p6zz ?p7zz ?p8zz ?_; (case k1zz => k_asm); (case k2zz => k_asm); (case k3zz => k_asm); (case k4zz => k_asm); (case kUzz => k_updF); (case k5zz => k_asm); (case p7zz => k_dflt k_mem); (case p5zz => assumption); (case p6zz => first | assumption | omega | exact Nat.le_trans (List.length_take_le _ _) (by decide)); (case p8zz => k_ne); (case p1zz => omega); (case p2zz => omega); (case p3zz => omega); (case p4zz => omega); k_extra "u2"; intro q9zz lo9zz hi9zz ta9zz tb9zz k9zz ts9zz kj9zz h9zz tk9zz y91zz y92zz y93zz y94zz y95zz F9zz N9zz l9zz; (try k_lt l9zz); (try dsimp only at N9zz); (try dsimp only); (try k_fold)))); trivial)
example : True := by ((k_with "callWith ref" => (k_here; k_dflt (refine' callWith_K ?k1zz ?k2zz ?_; (case k1zz => k_asm); (case k2zz => k_is); k_whole))); trivial)
example : True := by ((k_with "k_all" => ((repeat (refine all_cons ?_ ?_; focus k_ne)); first | assumption | exact List.forall_mem_nil _)); trivial)
example : True := by ((k_with "execs cons" => (k_extra "next")); trivial)
example : True := by ((k_with "k_mem" => (refine' memD ?_; assumption)); trivial)
def PairsL (jar : Addr) (led : Led) (many : Nat) (pxs : List (Value × Int × Int)) : Prop := ∀ x ∈ pxs, (∃ q t1 t2 k, x.1 = .ref q ∧ (q, tupO [.int x.2.1 t1, .int x.2.2 t2] k) ∈ led ∧ @LT.lt Nat _ jar q) ∧ PairOk many x.2
theorem pl_nil {jar : Addr} {led : Led} {many : Nat} : PairsL jar led many [] := fun _ h => nomatch h
theorem pl_cons {jar : Addr} {led : Led} {many : Nat} {q : Addr} {lo hi : Int} {t1 t2 : Tok} {k : Nat} {r : List (Value × Int × Int)} (hm : (q, tupO [.int lo t1, .int hi t2] k) ∈ led) (hl : @LT.lt Nat _ jar q) (ok : PairOk many (lo, hi)) (h : PairsL jar led many r) : PairsL jar led many ((.ref q, lo, hi) :: r) := fun x hx => by
  rcases List.mem_cons.mp hx with rfl | hx
  · exact ⟨⟨q, t1, t2, k, rfl, hm, hl⟩, ok⟩
  · exact h x hx
theorem pl_set {jar : Addr} {led : Led} {many : Nat} {q : Addr} {lo hi : Int} {t1 t2 : Tok} {k i : Nat} {r : List (Value × Int × Int)} (hm : (q, tupO [.int lo t1, .int hi t2] k) ∈ led) (hl : @LT.lt Nat _ jar q) (ok : PairOk many (lo, hi)) (h : PairsL jar led many r) : PairsL jar led many (r.set i (.ref q, lo, hi)) := fun x hx => by
  rcases List.mem_or_eq_of_mem_set hx with hx | rfl
  · exact h x hx
  · exact ⟨⟨q, t1, t2, k, rfl, hm, hl⟩, ok⟩
theorem b1_end {h₀ h : Heap} {L jar l : Addr} {ot oc om jo : Obj} {R led : Led} {many kp : Nat} {pxs : List (Value × Int × Int)} (N : News h₀ L h led) (hs : ∀ p ∈ headLed L ot oc om jar jo R, p ∈ led) (hl : (l, listOf (pxs.map (·.1)).toArray kp) ∈ led) (ll : @LT.lt Nat _ jar l) (hp : PairsL jar led many pxs) (hz : pxs.length ≤ 5) :
    ∃ pxs kp tl, PairsAt (tl ++ R) many l pxs kp ∧ pxs.length ≤ 5 ∧ (∀ p ∈ tl, @LT.lt Nat _ jar p.1) ∧ News h₀ L h (headLed L ot oc om jar jo (tl ++ R)) :=
  ⟨pxs, kp, upJ jar led, ⟨upJ_mem_app hl ll, fun x hx => by
    obtain ⟨⟨q, t1, t2, k, e, hm, hq⟩, _⟩ := hp x hx
    exact ⟨q, t1, t2, k, e, upJ_mem_app hm hq⟩, fun x hx => (hp x hx).2, by omega⟩, hz, upJ_lt _ _, head_news N hs⟩
theorem b1_set {h₀ h : Heap} {L jar l q : Addr} {ot oc om jo : Obj} {R led : Led} {many kp k i : Nat} {lo hi : Int} {t1 t2 : Tok} {pxs : List (Value × Int × Int)} (N : News h₀ L h led) (hs : ∀ p ∈ headLed L ot oc om jar jo R, p ∈ led) (hl : (l, listOf ((pxs.map (·.1)).set i (.ref q)).toArray kp) ∈ led) (ll : @LT.lt Nat _ jar l) (hp : PairsL jar led many pxs) (hz : pxs.length ≤ 5)
    (hm : (q, tupO [.int lo t1, .int hi t2] k) ∈ led) (hq : @LT.lt Nat _ jar q) (ok : PairOk many (lo, hi)) :
    ∃ pxs kp tl, PairsAt (tl ++ R) many l pxs kp ∧ pxs.length ≤ 5 ∧ (∀ p ∈ tl, @LT.lt Nat _ jar p.1) ∧ News h₀ L h (headLed L ot oc om jar jo (tl ++ R)) := by
  refine b1_end (kp := kp) (pxs := pxs.set i (.ref q, lo, hi)) N hs ?_ ll (pl_set hm hq ok hp) (by simpa using hz)
  rw [List.map_set]; exact hl
theorem pok_dec {n : Nat} {a b : Int} (h1 : 0 ≤ a) (h2 : a < n) (h3 : 0 ≤ b) (h4 : b < n) (h5 : a ≠ b) : PairOk n (a, b) := ⟨h1, h2, h3, h4, h5⟩
theorem b1_n3 {h₀ h : Heap} {L jar l a b c : Addr} {ot oc om jo : Obj} {R : Led} {s0 t0 s1 t1 s2 t2 : Tok} (N : News h₀ L h ((l, listOf #[.ref a, .ref b, .ref c] 0) :: (c, tupO [.int 0 s2, .int 1 t2] 0) :: (b, tupO [.int 1 s1, .int 2 t1] 0) :: (a, tupO [.int 0 s0, .int 1 t0] 0) :: headLed L ot oc om jar jo R)) (la : @LT.lt Nat _ jar a) (lb : @LT.lt Nat _ jar b) (lc : @LT.lt Nat _ jar c) (ll : @LT.lt Nat _ jar l) : ∃ pxs kp tl, PairsAt (tl ++ R) 3 l pxs kp ∧ pxs.length ≤ 5 ∧ (∀ p ∈ tl, @LT.lt Nat _ jar p.1) ∧ News h₀ L h (headLed L ot oc om jar jo (tl ++ R)) :=
  b1_end (pxs := [(.ref a, 0, 1), (.ref b, 1, 2), (.ref c, 0, 1)]) N (fun p hp => .tail _ (.tail _ (.tail _ (.tail _ hp)))) (.head _) ll (pl_cons (.tail _ (.tail _ (.tail _ (.head _)))) la (pok_dec (by decide) (by decide) (by decide) (by decide) (by decide)) (pl_cons (.tail _ (.tail _ (.head _))) lb (pok_dec (by decide) (by decide) (by decide) (by decide) (by decide)) (pl_cons (.tail _ (.head _)) lc (pok_dec (by decide) (by decide) (by decide) (by decide) (by decide)) (pl_nil)))) (by simp)
theorem b1_s3 {h₀ h : Heap} {L jar l a b c : Addr} {ot oc om jo : Obj} {R : Led} {s0 t0 s1 t1 s2 t2 : Tok} {q : Addr} {lo hi : Int} {ta tb : Tok} {k i : Nat} (N : News h₀ L h ((q, pairT lo hi ta tb k) :: (l, listOf ([Value.ref a, .ref b, .ref c].set i (.ref q)).toArray 0) :: (c, tupO [.int 0 s2, .int 1 t2] 0) :: (b, tupO [.int 1 s1, .int 2 t1] 0) :: (a, tupO [.int 0 s0, .int 1 t0] 0) :: headLed L ot oc om jar jo R)) (la : @LT.lt Nat _ jar a) (lb : @LT.lt Nat _ jar b) (lc : @LT.lt Nat _ jar c) (ll : @LT.lt Nat _ jar l) (lq : @LT.lt Nat _ jar q) (ok : PairOk 3 (lo, hi)) : ∃ pxs kp tl, PairsAt (tl ++ R) 3 l pxs kp ∧ pxs.length ≤ 5 ∧ (∀ p ∈ tl, @LT.lt Nat _ jar p.1) ∧ News h₀ L h (headLed L ot oc om jar jo (tl ++ R)) :=
  b1_set (pxs := [(.ref a, 0, 1), (.ref b, 1, 2), (.ref c, 0, 1)]) N (fun p hp => .tail _ (.tail _ (.tail _ (.tail _ (.tail _ hp))))) (.tail _ (.head _)) ll (pl_cons (.tail _ (.tail _ (.tail _ (.tail _ (.head _))))) la (pok_dec (by decide) (by decide) (by decide) (by decide) (by decide)) (pl_cons (.tail _ (.tail _ (.tail _ (.head _)))) lb (pok_dec (by decide) (by decide) (by decide) (by decide) (by decide)) (pl_cons (.tail _ (.tail _ (.head _))) lc (pok_dec (by decide) (by decide) (by decide) (by decide) (by decide)) (pl_nil)))) (by simp) (.head _) lq ok
theorem b1_n4 {h₀ h : Heap} {L jar l a b c d e : Addr} {ot oc om jo : Obj} {R : Led} {s0 t0 s1 t1 s2 t2 s3 t3 s4 t4 : Tok} (N : News h₀ L h ((l, listOf #[.ref a, .ref b, .ref c, .ref d, .ref e] 0) :: (e, tupO [.int 1 s4, .int 2 t4] 0) :: (d, tupO [.int 1 s3, .int 3 t3] 0) :: (c, tupO [.int 0 s2, .int 2 t2] 0) :: (b, tupO [.int 2 s1, .int 3 t1] 0) :: (a, tupO [.int 0 s0, .int 1 t0] 0) :: headLed L ot oc om jar jo R)) (la : @LT.lt Nat _ jar a) (lb : @LT.lt Nat _ jar b) (lc : @LT.lt Nat _ jar c) (ld : @LT.lt Nat _ jar d) (le : @LT.lt Nat _ jar e) (ll : @LT.lt Nat _ jar l) : ∃ pxs kp tl, PairsAt (tl ++ R) 4 l pxs kp ∧ pxs.length ≤ 5 ∧ (∀ p ∈ tl, @LT.lt Nat _ jar p.1) ∧ News h₀ L h (headLed L ot oc om jar jo (tl ++ R)) :=
  b1_end (pxs := [(.ref a, 0, 1), (.ref b, 2, 3), (.ref c, 0, 2), (.ref d, 1, 3), (.ref e, 1, 2)]) N (fun p hp => .tail _ (.tail _ (.tail _ (.tail _ (.tail _ (.tail _ hp)))))) (.head _) ll (pl_cons (.tail _ (.tail _ (.tail _ (.tail _ (.tail _ (.head _)))))) la (pok_dec (by decide) (by decide) (by decide) (by decide) (by decide)) (pl_cons (.tail _ (.tail _ (.tail _ (.tail _ (.head _))))) lb (pok_dec (by decide) (by decide) (by decide) (by decide) (by decide)) (pl_cons (.tail _ (.tail _ (.tail _ (.head _)))) lc (pok_dec (by decide) (by decide) (by decide) (by decide) (by decide)) (pl_cons (.tail _ (.tail _ (.head _))) ld (pok_dec (by decide) (by decide) (by decide) (by decide) (by decide)) (pl_cons (.tail _ (.head _)) le (pok_dec (by decide) (by decide) (by decide) (by decide) (by decide)) (pl_nil)))))) (by simp)
theorem b1_s4 {h₀ h : Heap} {L jar l a b c d e : Addr} {ot oc om jo : Obj} {R : Led} {s0 t0 s1 t1 s2 t2 s3 t3 s4 t4 : Tok} {q : Addr} {lo hi : Int} {ta tb : Tok} {k i : Nat} (N : News h₀ L h ((q, pairT lo hi ta tb k) :: (l, listOf ([Value.ref a, .ref b, .ref c, .ref d, .ref e].set i (.ref q)).toArray 0) :: (e, tupO [.int 1 s4, .int 2 t4] 0) :: (d, tupO [.int 1 s3, .int 3 t3] 0) :: (c, tupO [.int 0 s2, .int 2 t2] 0) :: (b, tupO [.int 2 s1, .int 3 t1] 0) :: (a, tupO [.int 0 s0, .int 1 t0] 0) :: headLed L ot oc om jar jo R)) (la : @LT.lt Nat _ jar a) (lb : @LT.lt Nat _ jar b) (lc : @LT.lt Nat _ jar c) (ld : @LT.lt Nat _ jar d) (le : @LT.lt Nat _ jar e) (ll : @LT.lt Nat _ jar l) (lq : @LT.lt Nat _ jar q) (ok : PairOk 4 (lo, hi)) : ∃ pxs kp tl, PairsAt (tl ++ R) 4 l pxs kp ∧ pxs.length ≤ 5 ∧ (∀ p ∈ tl, @LT.lt Nat _ jar p.1) ∧ News h₀ L h (headLed L ot oc om jar jo (tl ++ R)) :=
  b1_set (pxs := [(.ref a, 0, 1), (.ref b, 2, 3), (.ref c, 0, 2), (.ref d, 1, 3), (.ref e, 1, 2)]) N (fun p hp => .tail _ (.tail _ (.tail _ (.tail _ (.tail _ (.tail _ (.tail _ hp))))))) (.tail _ (.head _)) ll (pl_cons (.tail _ (.tail _ (.tail _ (.tail _ (.tail _ (.tail _ (.head _))))))) la (pok_dec (by decide) (by decide) (by decide) (by decide) (by decide)) (pl_cons (.tail _ (.tail _ (.tail _ (.tail _ (.tail _ (.head _)))))) lb (pok_dec (by decide) (by decide) (by decide) (by decide) (by decide)) (pl_cons (.tail _ (.tail _ (.tail _ (.tail _ (.head _))))) lc (pok_dec (by decide) (by decide) (by decide) (by decide) (by decide)) (pl_cons (.tail _ (.tail _ (.tail _ (.head _)))) ld (pok_dec (by decide) (by decide) (by decide) (by decide) (by decide)) (pl_cons (.tail _ (.tail _ (.head _))) le (pok_dec (by decide) (by decide) (by decide) (by decide) (by decide)) (pl_nil)))))) (by simp) (.head _) lq ok
theorem four_of {x : Int} (h : ¬ 3 + x = 3) (h0 : 0 ≤ x) (h1 : x < 2) : 3 + x = 4 := by omega
theorem stageB1 {w : World} {body : List Stmt} {scope : Scope} (hdef : LawDef body scope) {p : Program} {loose : List Str} {mean : ExcName → Option Value} {mg mb : Str → Option Value} {h₀ : Heap} {L fa : Addr} {m : Str → Option Value} {s : Shared} {Q : Flow → Shared → Prop} {E : Value → Shared → Prop}
    {ow om oc oj ot : Obj} {jar sl x dx : Addr} {tj tb td : Tok} {kj ks n : Nat} {vs : List Value} {ns : List Int} {es : List DictEntry} {c0 m0 : Option Value} {R : Led}
    (B : Below callerA h₀ [] h₀) (X : (hd.heap_1 w.params).In h₀) (T : Top p loose mean mg mb h₀)
    (dw : ow.data = .cell (some (.ref x))) (dm : om.data = .cell m0) (dc : oc.data = .cell c0) (dj : oj.data = .cell (some (.ref jar)))
    (hvs : IntsAre vs ns) (hvl : vs.length ≤ 60)
    (o1 : @LT.lt Nat _ 409 L) (o2 : @LT.lt Nat _ (L + 1 + 1 + 1 + 1) jar) (o3 : @LT.lt Nat _ sl jar) (hW : WorldIn R (.ref x) x dx es n tb td)
    (hR : Rest L jar sl x dx oj ow vs ks es n R)
    (hE : PassesOwn (model PW w) (lawA L fa scope) (envOfC (Str.ofString "law") scope L fa (.ref 411)) E)
    (hot : ot.cls ≠ .type "tuple")
    (F : Fr h₀ L s.heap m) (N : News h₀ L s.heap (headLed L ot oc om jar (jarO sl 0 tj kj) R))
    (next : ∀ h' tk' many tm pa kp pxs tl tj' kj' sp u, (many = 3 ∨ many = 4) → PairsAt (tl ++ R) many pa pxs kp → pxs.length ≤ 5 → (∀ p ∈ tl, @LT.lt Nat _ jar p.1) → 0 ≤ sp → sp ≤ 10 → Fr h₀ L h' (putM [("many", .int many tm), ("pairs", .ref pa)] u) → News h₀ L h' (headLed L ot oc om jar (jarO sl sp tj' kj') (tl ++ R)) →
      wpAny (model PW w) (lawA L fa scope) (execs (body.drop 5) (envOfC (Str.ofString "law") scope L fa (.ref 411))) Q E { s with heap := h', toks := tk' }) :
    wpAny (model PW w) (lawA L fa scope) (execs (body.drop 1) (envOfC (Str.ofString "law") scope L fa (.ref 411))) Q E s := by
  obtain ⟨hb9, hs9⟩ := LawDef.at hdef
  clear hdef
  subst hb9
  have q7 : lawScope = Scope.mk _ _ _ _ _ := rfl
  rw [q7] at hs9
  clear q7
  subst hs9
  dsimp only [headLed] at N
  obtain ⟨r1, r2, r3, r4, r5, r6, r7, r8, r9⟩ := hR
  have q3 : lawBody.drop 1 = _ :: _ :: _ :: _ :: lawBody.drop 5 := rfl
  rw [q3]
  clear q3
  generalize lawBody.drop 5 = rest9 at next ⊢
  repeat' (first | (k_unfold; (try dsimp only)) | walk1 | (dsimp only; walk1) | (leave1; try dsimp only))
  all_goals first
    | (rename (3 + _ = (3 : Int)) => hm9
       rename News _ _ _ _ => NZ
       first
         | (obtain ⟨P1, K1, T1, a1, a2, a3, a4⟩ := b1_s3 NZ (by show @LT.lt Nat _ _ _; omega) (by show @LT.lt Nat _ _ _; omega) (by show @LT.lt Nat _ _ _; omega) (by show @LT.lt Nat _ _ _; omega) (by show @LT.lt Nat _ _ _; omega) ⟨by assumption, by show _ < (3 : Int); omega, by assumption, by show _ < (3 : Int); omega, by assumption⟩
            exact next _ _ 3 _ _ K1 P1 T1 _ _ _ _ (.inl rfl) a1 a2 a3 (by omega) (by omega) (fr_eq (by k_asm) (putM_cons (congrArg (fun z => some (Value.int z _)) hm9) (putM_cons rfl (putM_nil _)))) a4)
         | (obtain ⟨P1, K1, T1, a1, a2, a3, a4⟩ := b1_n3 NZ (by show @LT.lt Nat _ _ _; omega) (by show @LT.lt Nat _ _ _; omega) (by show @LT.lt Nat _ _ _; omega) (by show @LT.lt Nat _ _ _; omega)
            exact next _ _ 3 _ _ K1 P1 T1 _ _ _ _ (.inl rfl) a1 a2 a3 (by omega) (by omega) (fr_eq (by k_asm) (putM_cons (congrArg (fun z => some (Value.int z _)) hm9) (putM_cons rfl (putM_nil _)))) a4))
    | (rename (¬ (3 + _ = (3 : Int))) => hm8; have hm9 := four_of hm8 (by assumption) (by assumption)
       rename News _ _ _ _ => NZ
       first
         | (obtain ⟨P1, K1, T1, a1, a2, a3, a4⟩ := b1_s4 NZ (by show @LT.lt Nat _ _ _; omega) (by show @LT.lt Nat _ _ _; omega) (by show @LT.lt Nat _ _ _; omega) (by show @LT.lt Nat _ _ _; omega) (by show @LT.lt Nat _ _ _; omega) (by show @LT.lt Nat _ _ _; omega) (by show @LT.lt Nat _ _ _; omega) ⟨by assumption, by show _ < (4 : Int); omega, by assumption, by show _ < (4 : Int); omega, by assumption⟩
            exact next _ _ 4 _ _ K1 P1 T1 _ _ _ _ (.inr rfl) a1 a2 a3 (by omega) (by omega) (fr_eq (by k_asm) (putM_cons (congrArg (fun z => some (Value.int z _)) hm9) (putM_cons rfl (putM_nil _)))) a4)
         | (obtain ⟨P1, K1, T1, a1, a2, a3, a4⟩ := b1_n4 NZ (by show @LT.lt Nat _ _ _; omega) (by show @LT.lt Nat _ _ _; omega) (by show @LT.lt Nat _ _ _; omega) (by show @LT.lt Nat _ _ _; omega) (by show @LT.lt Nat _ _ _; omega) (by show @LT.lt Nat _ _ _; omega)
            exact next _ _ 4 _ _ K1 P1 T1 _ _ _ _ (.inr rfl) a1 a2 a3 (by omega) (by omega) (fr_eq (by k_asm) (putM_cons (congrArg (fun z => some (Value.int z _)) hm9) (putM_cons rfl (putM_nil _)))) a4))
end Mine
end
section
open PySem PySem.W PyProof.Rows
set_option maxRecDepth 100000
set_option maxHeartbeats 8000000
set_option linter.unusedVariables false
namespace Mine
example : True := by (k_with_none; trivial)
example : True := by ((k_with "u1" => ((case k1zz => k_asm); (case k2zz => k_asm); (case k3zz => k_asm); (case k4zz => k_asm); (case k5zz => k_asm))); trivial)
example : True := by ((k_with "u2" => ((case kKzz => first | exact rfl | assumption); (case kdzz => ktr_room); (case kuzz => ktr_units))); trivial)
example : True := by ((k_with "u3" => (intro r9zz tl9zz h9zz tk9zz F9zz N9zz l9zz o9zz; (try dsimp only at o9zz))); trivial)
example : True := by ((k_with "u4" => ((try simp only [List.nil_append, List.cons_append] at N9zz); (try dsimp only); (try k_fold))); trivial)
example : True := by ((k_with "suf" => (first | apply sub_refl | assumption | (refine sub_tail ?_; k_extra "suf") | (refine sub_app ?_; k_extra "suf") | apply sub_nil | (refine sub_appL ?_; k_extra "suf"))); trivial)
example : True := by ((k_with "in" => (first | assumption | apply in_head | (refine in_tail ?_; k_extra "in") | (refine in_app ?_; k_extra "in") | (refine in_appL ?_; k_extra "in"))); trivial)
example : True := by ((k_with "sub" => (first | k_extra "suf" | (refine sub_cons ?_ ?_; (focus k_extra "in"); k_extra "sub") | (refine sub_both ?_ ?_; (focus k_extra "sub"); k_extra "sub") | (refine sub_trans ?_ (by assumption); k_extra "suf"))); trivial)
example : True := by ((k_with "lt0" => (first | assumption | (refine Mine.pickA (by assumption) ?_; intro hz9zz; first | apply hz9zz.1 | (replace hz9zz := hz9zz.2; first | apply hz9zz.1 | (replace hz9zz := hz9zz.2; first | apply hz9zz.1 | (replace hz9zz := hz9zz.2; first | apply hz9zz.1 | (replace hz9zz := hz9zz.2; first | apply hz9zz.1 | (replace hz9zz := hz9zz.2; first | apply hz9zz.1 | (replace hz9zz := hz9zz.2; first | apply hz9zz.1 | (replace hz9zz := hz9zz.2; first | apply hz9zz.1 | (replace hz9zz := hz9zz.2; first | apply hz9zz.1 | (replace hz9zz := hz9zz.2; first | apply hz9zz.1 | (replace hz9zz := hz9zz.2; first | apply hz9zz.1 | (replace hz9zz := hz9zz.2; first | apply hz9zz.1 | (replace hz9zz := hz9zz.2; first | apply hz9zz.1 | (replace hz9zz := hz9zz.2; first | apply hz9zz.1 | apply hz9zz.2)))))))))))))))); trivial)
example : True := by ((k_with "lt1" => (first | apply Mine.sl1 | apply Mine.sl2 | apply Mine.sl3 | apply Mine.sl4 | exact Mine.dn1 (by assumption) | exact Mine.dn2 (by assumption) | exact Mine.dn3 (by assumption) | exact Mine.dn4 (by assumption) | exact Mine.upx (by assumption) (by assumption) | exact Mine.up4 (by assumption) | (refine Nat.lt_trans ?_ (by assumption); first | k_extra "lt0" | exact Mine.dn1 (by assumption) | exact Mine.dn2 (by assumption) | exact Mine.dn3 (by assumption) | exact Mine.dn4 (by assumption) | (refine Nat.lt_trans ?_ (by assumption); k_extra "lt0")))); trivial)
example : True := by ((k_with "LeaveK" => (k_dflt (refine' leaveK_ ?k1zz ?k2zz ?_; (case k1zz => k_asm); (case k2zz => k_asm); k_whole); intro kFzz kNzz; (try dsimp only))); trivial)
example : True := by ((k_with "k_mem" => (first | assumption | (refine' List.mem_append_right _ ?_; k_mem) | (refine' List.mem_append_left _ ?_; k_mem))); trivial)
example : True := by ((k_with "kcj_all" => (k_whole; first | (refine fun pzz hpzz => List.mem_append_right _ ?_; assumption) | (intro pzz hpzz; (simp only [List.mem_append, List.mem_cons, List.not_mem_nil, or_false, false_or] at hpzz ⊢); first | assumption | (simp only [hpzz, true_or, or_true]; done) | grind))); trivial)
example : True := by ((k_with "kcj_all" => (k_whole; with_reducible k_extra "sub")); trivial)
example : True := by ((k_with "newTuple" => (k_here; k_dflt (refine' kup_newTuple ?Fzz ?Nzz ?_ ?zzz; (case Fzz => k_asm); (case Nzz => k_asm); (case zzz => kmk_size)); intro D'zz h'zz F'zz N'zz l1zz; (try k_lt l1zz); (try k_sweep))); trivial)
example : True := by ((k_with "binaryOp Pow int int" => ((with_reducible refine pow_int_small ?kb1zz ?kb2zz ?kb3zz ?_); (case kb1zz => omega); (case kb2zz => omega); (case kb3zz => decide))); trivial)
example : True := by ((k_with "subscriptTail" => (k_here; (with_reducible show wpAny _ _ (subscriptTail _ _ (Value.ref _) (Value.int _ _)) _ _ _); (with_unfolding_all refine' item_litK ?k1zz ?k2zz ?k3zz ?k4zz ?_ ?k6zz; (case k1zz => exact isListOf (by k_asm) (by k_mem)); (case k2zz => first | decide | omega); (case k3zz => first | decide | omega); (case k4zz => first | rfl | assumption); (case k6zz => with_unfolding_all rfl); k_whole))); trivial)
example : True := by ((k_with "subscriptTail Name Name ref int" => (k_here; (with_reducible show wpAny _ _ (subscriptTail _ _ (Value.ref _) (Value.int _ _)) _ _ _); (with_unfolding_all refine' item_litK ?k1zz ?k2zz ?k3zz ?k4zz ?_ ?k6zz; (case k1zz => exact isListOf (by k_asm) (by k_mem)); (case k2zz => first | decide | omega); (case k3zz => first | decide | omega); (case k4zz => first | rfl | assumption); (case k6zz => with_unfolding_all rfl); k_whole))); trivial)
example : True := by ((k_with "subscriptTail Name Constant ref int" => (k_here; (with_reducible show wpAny _ _ (subscriptTail _ _ (Value.ref _) (Value.int _ _)) _ _ _); (with_unfolding_all refine' item_litK ?k1zz ?k2zz ?k3zz ?k4zz ?_ ?k6zz; (case k1zz => exact isListOf (by k_asm) (by k_mem)); (case k2zz => first | decide | omega); (case k3zz => first | decide | omega); (case k4zz => first | rfl | assumption); (case k6zz => with_unfolding_all rfl); k_whole))); trivial)
example : True := by ((k_with "call ref" => (k_here; (with_reducible show wpAny _ _ (call (Value.ref 255) _) _ _ _); k_dflt ((refine' sp_use (sp_reckoned _ _ _ _ _ _ _ _ _ ?p1zz ?p2zz ?p3zz ?p4zz ?p5zz) ?k1zz ?k2zz ?k3zz ?k4zz ?k5zz ?kKzz ?kdzz ?kuzz ?_); k_extra "u1"; k_extra "u2"; (case p4zz => first | exact numIn_i | exact numIn_d (by k_mem) | exact NumIn.mono (by assumption) (by kcj_all) | assumption); (case p5zz => first | exact numIn_i | exact numIn_d (by k_mem) | exact NumIn.mono (by assumption) (by kcj_all) | assumption); (case p1zz => assumption); (case p2zz => assumption); (case p3zz => first | assumption | k_extra "sum"); k_extra "u3"; skip; k_extra "u4"))); trivial)
example : True := by ((k_with "getAttr ref" => (k_here; k_dflt (refine' get_own ?k1zz ?k2zz ?k3zz ?k4zz ?k5zz ?k6zz ?k7zz ?k8zz ?k9zz ?_; (case k1zz => k_asm); (case k2zz => k_asm); (case k3zz => k_inst); (case k4zz => k_is); (case k5zz => k_is); (case k6zz => k_is); (case k7zz => k_is); (case k8zz => assumption); (case k9zz => exact rfl); k_whole))); trivial)
example : True := by ((k_with "call ref" => (k_here; (with_reducible show wpAny _ _ (call (Value.ref 262) _) _ _ _); k_dflt ((refine' sp_use (sp_negated _ _ _ _ _ _ ?p1zz ?p2zz) ?k1zz ?k2zz ?k3zz ?k4zz ?k5zz ?kKzz ?kdzz ?kuzz ?_); k_extra "u1"; k_extra "u2"; (case p2zz => first | assumption | exact NumIn.mono (by assumption) (by kcj_all)); (case p1zz => assumption); k_extra "u3"; skip; k_extra "u4"))); trivial)
example : True := by ((k_with "call ref" => (k_here; (with_reducible show wpAny _ _ (call (Value.ref 368) _) _ _ _); k_dflt ((refine' sp_useI (sp_units _ _ _ _ ?p1zz ?p2zz) ?k1zz ?k2zz ?k3zz ?k4zz ?k5zz ?kKzz ?kdzz ?kuzz ?_); k_extra "u1"; k_extra "u2"; (case p2zz => first | assumption | exact NumIn.mono (by assumption) (by kcj_all)); (case p1zz => assumption); intro h9zz tk9zz F9zz t9zz N9zz; (try dsimp only); (try k_fold)))); trivial)
example : True := by ((k_with "call ref" => (k_here; (with_reducible show wpAny _ _ (call (Value.ref 361) _) _ _ _); k_dflt ((refine' sp_use (sp_law_number _ _ _ _ _ ?p1zz ?p2zz) ?k1zz ?k2zz ?k3zz ?k4zz ?k5zz ?kKzz ?kdzz ?kuzz ?_); k_extra "u1"; k_extra "u2"; (case p1zz => omega); (case p2zz => omega); k_extra "u3"; skip; k_extra "u4"))); trivial)
example : True := by ((k_with "call ref" => (k_here; (with_reducible show wpAny _ _ (call (Value.ref 311) _) _ _ _); k_dflt ((refine' sp_useV (sp_number_min _ _ _ _ _ _ _ _ _ ?p1zz ?p2zz ?p3zz ?p4zz ?p5zz) ?k1zz ?k2zz ?k3zz ?k4zz ?k5zz ?kKzz ?kdzz ?kuzz ?_); k_extra "u1"; k_extra "u2"; (case p5zz => k_dflt k_mem); (case p3zz => first | assumption | exact NumIn.mono (by assumption) (by kcj_all)); (case p4zz => first | assumption | exact NumIn.mono (by assumption) (by kcj_all)); (case p1zz => assumption); (case p2zz => assumption); intro h9zz tk9zz F9zz N9zz; (try dsimp only); (try k_fold)))); trivial)
example : True := by ((k_with "call ref" => (k_here; (with_reducible show wpAny _ _ (call (Value.ref 318) _) _ _ _); k_dflt ((refine' sp_useV (sp_number_max _ _ _ _ _ _ _ _ _ ?p1zz ?p2zz ?p3zz ?p4zz ?p5zz) ?k1zz ?k2zz ?k3zz ?k4zz ?k5zz ?kKzz ?kdzz ?kuzz ?_); k_extra "u1"; k_extra "u2"; (case p5zz => k_dflt k_mem); (case p3zz => first | assumption | exact NumIn.mono (by assumption) (by kcj_all)); (case p4zz => first | assumption | exact NumIn.mono (by assumption) (by kcj_all)); (case p1zz => assumption); (case p2zz => assumption); intro h9zz tk9zz F9zz N9zz; (try dsimp only); (try k_fold)))); trivial)
example : True := by ((k_with "call ref" => (k_here; (with_reducible show wpAny _ _ (call (Value.ref 385) _) _ _ _); k_dflt ((refine' sp_useV (sp_law_rises _ _ _ _ _ ?p1zz ?p2zz ?p3zz) ?k1zz ?k2zz ?k3zz ?k4zz ?k5zz ?kKzz ?kdzz ?kuzz ?_); k_extra "u1"; k_extra "u2"; (case p2zz => k_dflt k_mem); (case p1zz => first | assumption | exact NumsIn.mono (by assumption) (by kcj_all) | k_extra "nums"); (case p3zz => first | assumption | k_extra "len"); intro h9zz tk9zz F9zz N9zz; (try dsimp only); (try k_fold)))); trivial)
example : True := by ((k_with "call ref" => (k_here; (with_reducible show wpAny _ _ (call (Value.ref 380) _) _ _ _); k_dflt ((refine' sp_useL (sp_law_led _ _ _ _ _ _ _ _ _ ?p1zz ?p2zz ?p3zz ?p4zz ?p5zz ?p6zz ?p7zz) ?k1zz ?k2zz ?k3zz ?k4zz ?k5zz ?kKzz ?kdzz ?kuzz ?_); k_extra "u1"; k_extra "u2"; (case p2zz => k_dflt k_mem); (case p5zz => k_dflt k_mem); (case p1zz => first | assumption | exact NumsIn.mono (by assumption) (by kcj_all) | k_extra "nums"); (case p3zz => first | assumption | k_extra "len"); (case p4zz => first | assumption | exact PairsIn.mono (by assumption) (by kcj_all)); (case p6zz => first | assumption | k_extra "pok"); (case p7zz => first | assumption | k_extra "len"); intro h9zz tk9zz F9zz D9zz k9zz N9zz l9zz; (try dsimp only); (try k_fold)))); trivial)
example : True := by ((k_with "pyIter ref" => (first | k_extra "comp" | k_extra "for")); trivial)
example : True := by ((k_with "eval Name" => ((with_reducible show wpAny _ _ (eval _ (compEnvC _ _ _ _)) _ _ _); k_dflt (refine' comp_local ?Nzz ?hmzz ?nCzz ?hvzz ?_ ?azz ?bzz ?czz; (case bzz => exact rfl); (case azz => exact rfl); (case Nzz => k_asm); (case nCzz => assumption); (case hmzz => k_dflt k_mem); (case hvzz => assumption); (case czz => decide)))); trivial)
example : True := by ((k_with "eval Name" => ((with_reducible show wpAny _ _ (eval _ (compEnvC _ _ _ _)) _ _ _); k_dflt (refine' comp_cell ?Nzz ?hmzz ?hd'zz ?_ ?azz ?bzz ?ezz ?czz; (case bzz => exact rfl); (case azz => exact rfl); (case ezz => exact rfl); (case Nzz => k_asm); (case hmzz => k_dflt k_mem); (case hd'zz => assumption); (case czz => decide)))); trivial)
example : True := by ((k_with "exec Assign cons ListComp" => (k_dflt (refine' comp_assign ?aFzz ?a1zz ?a2zz ?a3zz ?a4zz ?a5zz ?a6zz ?a7zz ?a8zz ?_; (case aFzz => k_asm); (case a1zz => with_unfolding_all rfl); (case a2zz => with_unfolding_all rfl); (case a3zz => decide); (case a4zz => rfl); (case a5zz => decide); (case a6zz => intro _; with_unfolding_all rfl); (case a7zz => rfl); (case a8zz => rfl)))); trivial)
example : True := by ((k_with "eval ListComp" => (k_dflt (refine' comp_eval ?aFzz ?a2zz ?a3zz ?a4zz ?a5zz ?a6zz ?_; (case aFzz => k_asm); (case a2zz => with_unfolding_all rfl); (case a3zz => decide); (case a4zz => rfl); (case a5zz => decide); (case a6zz => intro _; with_unfolding_all rfl)))); trivial)
example : True := by ((k_with "call builtin:sorted" => (k_here; (with_reducible show wpAny _ _ (call (Value.builtin _) [Value.ref _]) _ _ _); (with_unfolding_all refine' kso_sorted ?k1zz ?k2zz ?k3zz ?k4zz ?k5zz ?_; (case k1zz => k_asm); (case k2zz => k_asm); (case k3zz => exact isListOf (by k_asm) (by k_mem)); (case k4zz => assumption); (case k5zz => assumption); k_whole); intro D'zz v'zz n'zz c'zz h'zz F'zz N'zz l1zz i'zz e'zz p'zz o'zz b'zz; (try k_lt l1zz); (try dsimp only))); trivial)
example : True := by ((k_with "compareOp Eq ref ref" => (k_here; (with_reducible show wpAny _ _ (compareOp CmpOp.Eq (Value.ref _) (Value.ref _)) _ _ _); k_dflt (refine' eq_intsK ?k1zz ?k2zz ?k3zz ?k4zz ?k5zz ?_; (case k1zz => exact isListOf (by k_asm) (by k_mem)); (case k3zz => exact isListOf (by k_asm) (by k_mem)); (case k2zz => assumption); (case k4zz => assumption); (case k5zz => ktr_units); k_whole))); trivial)
example : True := by ((k_with "exec For Tuple Name cons nil" => (k_here; (rename Fr _ _ _ _ => lF'zz); k_dflt (refine' For_invTF lF'zz ?_ ?hszz; (case hszz => intro _; with_unfolding_all rfl)))); trivial)
example : True := by ((k_with "k_all" => (assumption)); trivial)
example : True := by ((k_with "setItem ref int" => (k_here; k_dflt (refine' set_any ?k1zz ?k2zz ?k3zz ?k4zz ?k5zz ?k6zz ?_; (case k1zz => k_asm); (case k2zz => k_asm); (case k3zz => k_upd); (case k4zz => first | assumption | omega); (case k5zz => first | assumption | (simp only [List.length_set]; first | assumption | omega)); (case k6zz => omega); k_whole); intro h'zz F'zz N'zz; (try dsimp only))); trivial)
example : True := by ((k_with "subscriptTail Name Slice ref ref" => (k_here; k_dflt (refine' kmk_slice ?Fzz ?Nzz ?lzz ?pzz ?qzz ?_ ?szz ?tzz ?zzz; (case Fzz => k_asm); (case Nzz => k_asm); (case lzz => exact isListOf (by k_asm) (by k_mem)); (case pzz => kmk_part); (case qzz => kmk_part); (case szz => with_unfolding_all rfl); (case tzz => kmk_pure); (case zzz => (simp only [List.size_toArray, List.length_map, sizeLine_eq]; omega))); intro D'zz h'zz F'zz N'zz l1zz; (simp (disch := omega) only [pick_all, pick_upto, pick_from] at N'zz); (try k_lt l1zz); (try dsimp only))); trivial)
example : True := by ((k_with "len" => (first | assumption | omega | (rw [ledF_len]; omega))); trivial)
example : True := by ((k_with "pok" => (first | assumption | exact pok_of (by assumption) (by first | assumption | rw [ledF_len] | (rw [ledF_len]; assumption)))); trivial)
example : True := by ((k_with "nums" => (first | exact NumsIn.led (by assumption) _ | exact NumsIn.mono (NumsIn.led (by assumption) _) (by kcj_all))); trivial)
example : True := by ((k_with "call builtin:len" => (k_here; (with_reducible show wpAny _ _ (call (Value.builtin "len") [Value.ref _]) _ _ _); k_dflt (refine' len_any ?k1zz ?k2zz ?k3zz ?k4zz ?_; (case k1zz => k_asm); (case k2zz => k_dflt k_mem); (case k3zz => first | exact List.length_map .. | rfl); (case k4zz => first | omega | decide); k_whole))); trivial)
example : True := by ((k_with "call type:range" => (k_here; k_dflt (refine' range_any ?k1zz ?k2zz ?_; (case k1zz => k_asm); (case k2zz => k_asm)); intro D9zz h9zz ta9zz tb9zz tk9zz F9zz N9zz l9zz; (try k_lt l9zz); (try dsimp only); (try k_fold))); trivial)
example : True := by ((k_with "binaryOp Add ref ref" => (k_here; (with_reducible show wpAny _ _ (binaryOp _ (Value.ref _) (Value.ref _)) _ _ _); k_dflt (refine' add_any ?k1zz ?k2zz ?k3zz ?k4zz ?k5zz ?_; (case k1zz => k_asm); (case k2zz => k_asm); (case k3zz => k_dflt k_mem); (case k4zz => k_dflt k_mem); (case k5zz => (simp only [List.length_append, List.length_map, List.length_take, List.length_drop, List.length_cons, List.length_nil, sizeLine_eq]; omega))); intro D9zz h9zz F9zz N9zz l9zz; (try simp only [Int.toNat_natCast, toNat_succ, ← List.map_take, ← List.map_drop, ← List.map_append] at N9zz); (try k_lt l9zz); (try dsimp only); (try k_fold))); trivial)
example : True := by ((k_with "call ref" => (k_here; (with_reducible show wpAny _ _ (call (Value.ref 347) _) _ _ _); k_dflt (refine' fetched_at ?kUzz ?k1zz ?k2zz ?k3zz ?k4zz ?k5zz ?kKzz ?kdzz ?kuzz ?p1zz ?p2zz ?p3zz ?p4zz ?p5zz ?p6zz ?p7zz ?p8zz ?_; (case k1zz => k_asm); (case k2zz => k_asm); (case k3zz => k_asm); (case k4zz => k_asm); (case kUzz => k_updF); (case k5zz => k_asm); (case p7zz => k_dflt k_mem); (case p5zz => assumption); (case p6zz => first | assumption | omega | exact Nat.le_trans (List.length_take_le _ _) (by decide)); (case p8zz => k_ne); (case p1zz => omega); (case p2zz => omega); (case p3zz => omega); (case p4zz => omega); k_extra "u2"; intro x9zz tx9zz ts9zz kj9zz h9zz tk9zz x91zz x92zz F9zz N9zz; (try dsimp only at N9zz); (try dsimp only); (try k_fold)))); trivial)
example : True := by ((k_with "call ref" => (k_here; (with_reducible show wpAny _ _ (call (Value.ref 354) _) _ _ _); k_dflt (refine' pair_at ?kUzz ?k1zz ?k2zz ?k3zz ?k4zz ?k5zz ?kKzz ?kdzz ?kuzz ?p1zz ?p2zz ?p3zz ?p4zz ?p5zz ?p6zz ?p7zz ?p8zz ?_; (case k1zz => k_asm); (case k2zz => k_asm); (case k3zz => k_asm); (case k4zz => k_asm); (case kUzz => k_updF); (case k5zz => k_asm); (case p7zz => k_dflt k_mem); (case p5zz => assumption); (case p6zz => first | assumption | omega | exact Nat.le_trans (List.length_take_le _ _) (by decide)); (case p8zz => k_ne); (case p1zz => omega); (case p2zz => omega); (case p3zz => omega); (case p4zz => omega); k_extra "u2"; intro q9zz lo9zz hi9zz ta9zz tb9zz k9zz ts9zz kj9zz h9zz tk9zz y91zz y92zz y93zz y94zz y95zz F9zz N9zz l9zz; (try k_lt l9zz); (try dsimp only at N9zz); (try dsimp only); (try k_fold)))); trivial)
example : True := by ((k_with "callWith ref" => (k_here; k_dflt (refine' callWith_K ?k1zz ?k2zz ?_; (case k1zz => k_asm); (case k2zz => k_is); k_whole))); trivial)
example : True := by ((k_with "k_all" => ((repeat (refine all_cons ?_ ?_; focus k_ne)); first | assumption | exact List.forall_mem_nil _)); trivial)
example : True := by ((k_with "execs cons" => (k_extra "next")); trivial)
example : True := by ((k_with "k_mem" => (refine' memD ?_; assumption)); trivial)
theorem stageB2 {w : World} {body : List Stmt} {scope : Scope} (hdef : LawDef body scope) {p : Program} {loose : List Str} {mean : ExcName → Option Value} {mg mb : Str → Option Value} {h₀ : Heap} {L fa : Addr} {u : Str → Option Value} {s : Shared} {Q : Flow → Shared → Prop} {E : Value → Shared → Prop}
    {ow om oc oj ot : Obj} {jar sl x dx pa : Addr} {tj tb td tm : Tok} {kj ks n kp many : Nat} {vs : List Value} {ns : List Int} {es : List DictEntry} {c0 m0 : Option Value} {R : Led} {pxs : List (Value × Int × Int)} {sp : Int}
    (B : Below callerA h₀ [] h₀) (X : (hd.heap_1 w.params).In h₀) (T : Top p loose mean mg mb h₀)
    (dw : ow.data = .cell (some (.ref x))) (dm : om.data = .cell m0) (dc : oc.data = .cell c0) (dj : oj.data = .cell (some (.ref jar)))
    (hvs : IntsAre vs ns) (hvl : vs.length ≤ 60)
    (o1 : @LT.lt Nat _ 409 L) (o2 : @LT.lt Nat _ (L + 1 + 1 + 1 + 1) jar) (o3 : @LT.lt Nat _ sl jar) (hW : WorldIn R (.ref x) x dx es n tb td)
    (hR : Rest L jar sl x dx oj ow vs ks es n R)
    (hE : PassesOwn (model PW w) (lawA L fa scope) (envOfC (Str.ofString "law") scope L fa (.ref 411)) E)
    (hot : ot.cls ≠ .type "tuple")
    (hm : many = 3 ∨ many = 4) (hP : PairsAt R many pa pxs kp) (hpl5 : pxs.length ≤ 5) (hs0 : 0 ≤ sp) (hs1 : sp ≤ 10)
    (F : Fr h₀ L s.heap (putM [("many", .int many tm), ("pairs", .ref pa)] u)) (N : News h₀ L s.heap (headLed L ot oc om jar (jarO sl sp tj kj) R))
    (next : ∀ h' tk' pa' kp' pxs' tl tj' kj' sp' u', PairsAt (tl ++ R) many pa' pxs' kp' → (∀ p ∈ tl, @LT.lt Nat _ jar p.1) → 0 ≤ sp' → sp' ≤ 20 → Fr h₀ L h' (putM [("many", .int many tm), ("pairs", .ref pa')] u') → News h₀ L h' (headLed L ot oc om jar (jarO sl sp' tj' kj') (tl ++ R)) →
      wpAny (model PW w) (lawA L fa scope) (execs (body.drop 6) (envOfC (Str.ofString "law") scope L fa (.ref 411))) Q E { s with heap := h', toks := tk' }) :
    wpAny (model PW w) (lawA L fa scope) (execs (body.drop 5) (envOfC (Str.ofString "law") scope L fa (.ref 411))) Q E s := by
  obtain ⟨hb9, hs9⟩ := LawDef.at hdef
  clear hdef
  subst hb9
  have q7 : lawScope = Scope.mk _ _ _ _ _ := rfl
  rw [q7] at hs9
  clear q7
  subst hs9
  dsimp only [headLed] at N
  obtain ⟨r1, r2, r3, r4, r5, r6, r7, r8, r9⟩ := hR
  obtain ⟨p1, p2, p3, p4⟩ := hP
  have q3 : lawBody.drop 5 = _ :: lawBody.drop 6 := rfl
  rw [q3]
  clear q3
  generalize lawBody.drop 6 = rest9 at next ⊢
  rcases hm with rfl | rfl
  · k_with "comp" => refine comp_rangeMI (fun led₀ i ys led' => ∃ ax o sp' t k tl zs, led' = tl ++ (ax, o) :: headLed L ot oc om jar (jarO sl sp' t k) R ∧ (∀ p ∈ tl, @LT.lt Nat _ jar p.1) ∧ @LT.lt Nat _ jar ax ∧ ys = zs.map (·.1) ∧ zs.length = i ∧ PairsIn tl zs ∧ (∀ y ∈ zs, PairOk 3 y.2) ∧ 0 ≤ sp' ∧ sp' ≤ 11 + 2 * i) rfl rfl rfl (by k_asm) (by k_asm) (by k_mem) (by assumption) (by omega) (held ?h0) (held ?ok) (held ?dn)
    repeat' (first | (k_unfold; (try dsimp only)) | walk1 | (dsimp only; walk1) | (leave1; try dsimp only))
    case h0 => exact ⟨_, _, _, _, _, [], [], rfl, (fun _ h => nomatch h), by show @LT.lt Nat _ _ _; omega, rfl, rfl, (fun _ h => nomatch h), (fun _ h => nomatch h), by omega, by omega⟩
    case ok =>
      intro C i tv ys led' own oC m₂ h tk E' hi hI Fc Nc nC hm₂ hne
      obtain ⟨ax, o, sp', t, k, tl, zs, rfl, g1, g2, rfl, g3, g4, g5, g6, g7⟩ := hI
      have N2 : News h₀ L h ((jar, jarO sl sp' t k) :: (409, ot) :: (L + 1 + 1, oc) :: (L + 1 + 1 + 1, om) :: (C, oC) :: (own ++ (tl ++ (ax, o) :: R))) := fun p hp => Nc p (by
        exact subq (by with_reducible k_extra "sub") hp)
      have hjm : (jar, jarO sl sp' t k) ∈ tl ++ (ax, o) :: headLed L ot oc om jar (jarO sl sp' t k) R := by k_mem
      have hjR : ∀ p ∈ (C, oC) :: (own ++ (tl ++ (ax, o) :: R)), p.1 ≠ jar := fun p hp => by
        rcases List.mem_cons.mp hp with rfl | hp
        · exact Ne.symm (hne _ hjm).1
        · rcases List.mem_append.mp hp with hp | hp
          · exact Ne.symm ((hne _ hjm).2 p hp)
          · rcases List.mem_append.mp hp with hp | hp
            · exact Nat.ne_of_gt (g1 p hp)
            · rcases List.mem_cons.mp hp with rfl | hp
              · exact Nat.ne_of_gt g2
              · exact r9 p hp
      clear Nc
      repeat' (first | (k_unfold; (try dsimp only)) | walk1 | (dsimp only; walk1) | (leave1; try dsimp only))
      have q9zz := True.intro; have lo9zz := True.intro; have hi9zz := True.intro; have ta9zz := True.intro; have tb9zz := True.intro; have k9zz := True.intro; have ts9zz := True.intro; have kj9zz := True.intro; have h9zz := True.intro; have tk9zz := True.intro; have y91zz := True.intro; have y92zz := True.intro; have y93zz := True.intro; have y94zz := True.intro; have y95zz := True.intro; have F9zz := True.intro; have N9zz := True.intro; have l9zz := True.intro -- ok
      rename_i q9 lo9 hi9 ta9 tb9 k9 ts9 kj9 h9 tk9 y1 y2 y3 y4 y5 F9 N9 l9 -- ok
      refine MStep.intro (nx := ((q9, pairT lo9 hi9 ta9 tb9 k9) :: tl) ++ (ax, o) :: headLed L ot oc om jar (jarO sl (sp' + 1 + 1) ts9 kj9) R) F9 (fun p hp => N9 p ?_) (fun p hp => ?_) ⟨ax, o, sp' + 1 + 1, ts9, kj9, (q9, pairT lo9 hi9 ta9 tb9 k9) :: tl, zs ++ [(.ref q9, lo9, hi9)], rfl, ?_, g2, by simp, by simp [g3], ?_, ?_, by omega, by omega⟩
      · exact subq (by with_reducible k_extra "sub") hp
      · rcases List.mem_append.mp hp with hp | hp
        · rcases List.mem_cons.mp hp with rfl | hp
          · refine .inr fun q hq => ?_
            rcases List.mem_cons.mp hq with rfl | hq
            · exact l9.2.2.2.2.1
            · exact ktn_ltOf l9.2.2.2.2.2 q (List.mem_append_left _ hq)
          · exact .inl ⟨p.2, List.mem_append_left _ hp⟩
        · refine .inl ?_
          rcases List.mem_cons.mp hp with rfl | hp
          · exact ⟨o, by k_mem⟩
          · rcases List.mem_cons.mp hp with rfl | hp
            · exact ⟨ot, by k_mem⟩
            · rcases List.mem_cons.mp hp with rfl | hp
              · exact ⟨oc, by k_mem⟩
              · rcases List.mem_cons.mp hp with rfl | hp
                · exact ⟨om, by k_mem⟩
                · rcases List.mem_cons.mp hp with rfl | hp
                  · exact ⟨_, hjm⟩
                  · exact ⟨p.2, by k_mem⟩
      · intro p hp
        rcases List.mem_cons.mp hp with rfl | hp
        · exact l9.1
        · exact g1 p hp
      · intro x hx
        rcases List.mem_append.mp hx with hx | hx
        · exact g4.mono (fun p hp => List.mem_cons_of_mem _ hp) x hx
        · rw [List.mem_singleton.mp hx]; exact ⟨q9, ta9, tb9, k9, rfl, .head _⟩
      · intro x hx
        rcases List.mem_append.mp hx with hx | hx
        · exact g5 x hx
        · rw [List.mem_singleton.mp hx]; exact ⟨y1, y2, y3, y4, y5⟩
    case dn =>
      intro D ys led' k h' tk hInv Fd Nd hne hlt
      obtain ⟨ax, o, sp', t, k', tl, zs, rfl, g1, g2, rfl, g3, g4, g5, g6, g7⟩ := hInv
      have hDj : @LT.lt Nat _ jar D := hlt (jar, _) (by k_mem)
      have hz3 : zs.length ≤ 3 := by omega
      repeat' (first | (k_unfold; (try dsimp only)) | walk1 | (dsimp only; walk1) | (leave1; try dsimp only))
      have D9zz := True.intro; have h9zz := True.intro; have l9zz := True.intro -- ok
      rename_i D9 h9 l9 h' F' N' -- ok
      refine next _ _ D9 0 (zs ++ pxs) (upJ jar ((D9, W.listOf (List.map (fun x => x.fst) (zs ++ pxs)).toArray 0) :: (D, W.listOf (List.map (fun x => x.fst) zs).toArray k) :: (tl ++ (ax, o) :: headLed L ot oc om jar (jarO sl sp' t k') R))) t k' sp' _ ⟨upJ_mem_app (.head _) (by show @LT.lt Nat _ _ _; omega), fun x hx => ?_, fun x hx => ?_, by rw [List.length_append]; omega⟩ (upJ_lt _ _) g6 (by omega) (fr_eq (by k_asm) (putM_cons rfl (putM_cons rfl (putM_nil _)))) (head_news N' (by kcj_all))
      · rcases List.mem_append.mp hx with hx | hx
        · exact g4.mono (fun p hp => upJ_mem_app (by k_mem) (g1 p hp)) x hx
        · exact p2.mono (fun p hp => List.mem_append_right _ hp) x hx
      · rcases List.mem_append.mp hx with hx | hx
        · exact g5 x hx
        · exact p3 x hx
  · skip
    repeat' (first | (k_unfold; (try dsimp only)) | walk1 | (dsimp only; walk1) | (leave1; try dsimp only))
    exact next _ _ pa kp pxs [] tj kj sp _ ⟨p1, p2, p3, p4⟩ (fun _ h => nomatch h) hs0 (by omega) F N
end Mine
end
section
open PySem PySem.W PyProof.Rows
set_option maxRecDepth 100000
set_option maxHeartbeats 8000000
set_option linter.unusedVariables false
namespace Mine
example : True := by (k_with_none; trivial)
example : True := by ((k_with "u1" => ((case k1zz => k_asm); (case k2zz => k_asm); (case k3zz => k_asm); (case k4zz => k_asm); (case k5zz => k_asm))); trivial)
example : True := by ((k_with "u2" => ((case kKzz => first | exact rfl | assumption); (case kdzz => ktr_room); (case kuzz => ktr_units))); trivial)
example : True := by ((k_with "u3" => (intro r9zz tl9zz h9zz tk9zz F9zz N9zz l9zz o9zz; (try dsimp only at o9zz))); trivial)
example : True := by ((k_with "u4" => ((try simp only [List.nil_append, List.cons_append] at N9zz); (try dsimp only); (try k_fold))); trivial)
example : True := by ((k_with "suf" => (first | apply sub_refl | assumption | (refine sub_tail ?_; k_extra "suf") | (refine sub_app ?_; k_extra "suf") | apply sub_nil | (refine sub_appL ?_; k_extra "suf"))); trivial)
example : True := by ((k_with "in" => (first | assumption | apply in_head | (refine in_tail ?_; k_extra "in") | (refine in_app ?_; k_extra "in") | (refine in_appL ?_; k_extra "in"))); trivial)
example : True := by ((k_with "sub" => (first | k_extra "suf" | (refine sub_cons ?_ ?_; (focus k_extra "in"); k_extra "sub") | (refine sub_both ?_ ?_; (focus k_extra "sub"); k_extra "sub") | (refine sub_trans ?_ (by assumption); k_extra "suf"))); trivial)
example : True := by ((k_with "lt0" => (first | assumption | (refine Mine.pickA (by assumption) ?_; intro hz9zz; first | apply hz9zz.1 | (replace hz9zz := hz9zz.2; first | apply hz9zz.1 | (replace hz9zz := hz9zz.2; first | apply hz9zz.1 | (replace hz9zz := hz9zz.2; first | apply hz9zz.1 | (replace hz9zz := hz9zz.2; first | apply hz9zz.1 | (replace hz9zz := hz9zz.2; first | apply hz9zz.1 | (replace hz9zz := hz9zz.2; first | apply hz9zz.1 | (replace hz9zz := hz9zz.2; first | apply hz9zz.1 | (replace hz9zz := hz9zz.2; first | apply hz9zz.1 | (replace hz9zz := hz9zz.2; first | apply hz9zz.1 | (replace hz9zz := hz9zz.2; first | apply hz9zz.1 | (replace hz9zz := hz9zz.2; first | apply hz9zz.1 | (replace hz9zz := hz9zz.2; first | apply hz9zz.1 | (replace hz9zz := hz9zz.2; first | apply hz9zz.1 | apply hz9zz.2)))))))))))))))); trivial)
example : True := by ((k_with "lt1" => (first | apply Mine.sl1 | apply Mine.sl2 | apply Mine.sl3 | apply Mine.sl4 | exact Mine.dn1 (by assumption) | exact Mine.dn2 (by assumption) | exact Mine.dn3 (by assumption) | exact Mine.dn4 (by assumption) | exact Mine.upx (by assumption) (by assumption) | exact Mine.up4 (by assumption) | (refine Nat.lt_trans ?_ (by assumption); first | k_extra "lt0" | exact Mine.dn1 (by assumption) | exact Mine.dn2 (by assumption) | exact Mine.dn3 (by assumption) | exact Mine.dn4 (by assumption) | (refine Nat.lt_trans ?_ (by assumption); k_extra "lt0")))); trivial)
example : True := by ((k_with "LeaveK" => (k_dflt (refine' leaveK_ ?k1zz ?k2zz ?_; (case k1zz => k_asm); (case k2zz => k_asm); k_whole); intro kFzz kNzz; (try dsimp only))); trivial)
example : True := by ((k_with "k_mem" => (first | assumption | (refine' List.mem_append_right _ ?_; k_mem) | (refine' List.mem_append_left _ ?_; k_mem))); trivial)
example : True := by ((k_with "kcj_all" => (k_whole; first | (refine fun pzz hpzz => List.mem_append_right _ ?_; assumption) | (intro pzz hpzz; (simp only [List.mem_append, List.mem_cons, List.not_mem_nil, or_false, false_or] at hpzz ⊢); first | assumption | (simp only [hpzz, true_or, or_true]; done) | grind))); trivial)
example : True := by ((k_with "kcj_all" => (k_whole; with_reducible k_extra "sub")); trivial)
example : True := by ((k_with "newTuple" => (k_here; k_dflt (refine' kup_newTuple ?Fzz ?Nzz ?_ ?zzz; (case Fzz => k_asm); (case Nzz => k_asm); (case zzz => kmk_size)); intro D'zz h'zz F'zz N'zz l1zz; (try k_lt l1zz); (try k_sweep))); trivial)
example : True := by ((k_with "binaryOp Pow int int" => ((with_reducible refine pow_int_small ?kb1zz ?kb2zz ?kb3zz ?_); (case kb1zz => omega); (case kb2zz => omega); (case kb3zz => decide))); trivial)
example : True := by ((k_with "subscriptTail" => (k_here; (with_reducible show wpAny _ _ (subscriptTail _ _ (Value.ref _) (Value.int _ _)) _ _ _); (with_unfolding_all refine' item_litK ?k1zz ?k2zz ?k3zz ?k4zz ?_ ?k6zz; (case k1zz => exact isListOf (by k_asm) (by k_mem)); (case k2zz => first | decide | omega); (case k3zz => first | decide | omega); (case k4zz => first | rfl | assumption); (case k6zz => with_unfolding_all rfl); k_whole))); trivial)
example : True := by ((k_with "subscriptTail Name Name ref int" => (k_here; (with_reducible show wpAny _ _ (subscriptTail _ _ (Value.ref _) (Value.int _ _)) _ _ _); (with_unfolding_all refine' item_litK ?k1zz ?k2zz ?k3zz ?k4zz ?_ ?k6zz; (case k1zz => exact isListOf (by k_asm) (by k_mem)); (case k2zz => first | decide | omega); (case k3zz => first | decide | omega); (case k4zz => first | rfl | assumption); (case k6zz => with_unfolding_all rfl); k_whole))); trivial)
example : True := by ((k_with "subscriptTail Name Constant ref int" => (k_here; (with_reducible show wpAny _ _ (subscriptTail _ _ (Value.ref _) (Value.int _ _)) _ _ _); (with_unfolding_all refine' item_litK ?k1zz ?k2zz ?k3zz ?k4zz ?_ ?k6zz; (case k1zz => exact isListOf (by k_asm) (by k_mem)); (case k2zz => first | decide | omega); (case k3zz => first | decide | omega); (case k4zz => first | rfl | assumption); (case k6zz => with_unfolding_all rfl); k_whole))); trivial)
example : True := by ((k_with "call ref" => (k_here; (with_reducible show wpAny _ _ (call (Value.ref 255) _) _ _ _); k_dflt ((refine' sp_use (sp_reckoned _ _ _ _ _ _ _ _ _ ?p1zz ?p2zz ?p3zz ?p4zz ?p5zz) ?k1zz ?k2zz ?k3zz ?k4zz ?k5zz ?kKzz ?kdzz ?kuzz ?_); k_extra "u1"; k_extra "u2"; (case p4zz => first | exact numIn_i | exact numIn_d (by k_mem) | exact NumIn.mono (by assumption) (by kcj_all) | assumption); (case p5zz => first | exact numIn_i | exact numIn_d (by k_mem) | exact NumIn.mono (by assumption) (by kcj_all) | assumption); (case p1zz => assumption); (case p2zz => assumption); (case p3zz => first | assumption | k_extra "sum"); k_extra "u3"; skip; k_extra "u4"))); trivial)
example : True := by ((k_with "getAttr ref" => (k_here; k_dflt (refine' get_own ?k1zz ?k2zz ?k3zz ?k4zz ?k5zz ?k6zz ?k7zz ?k8zz ?k9zz ?_; (case k1zz => k_asm); (case k2zz => k_asm); (case k3zz => k_inst); (case k4zz => k_is); (case k5zz => k_is); (case k6zz => k_is); (case k7zz => k_is); (case k8zz => assumption); (case k9zz => exact rfl); k_whole))); trivial)
example : True := by ((k_with "call ref" => (k_here; (with_reducible show wpAny _ _ (call (Value.ref 262) _) _ _ _); k_dflt ((refine' sp_use (sp_negated _ _ _ _ _ _ ?p1zz ?p2zz) ?k1zz ?k2zz ?k3zz ?k4zz ?k5zz ?kKzz ?kdzz ?kuzz ?_); k_extra "u1"; k_extra "u2"; (case p2zz => first | assumption | exact NumIn.mono (by assumption) (by kcj_all)); (case p1zz => assumption); k_extra "u3"; skip; k_extra "u4"))); trivial)
example : True := by ((k_with "call ref" => (k_here; (with_reducible show wpAny _ _ (call (Value.ref 368) _) _ _ _); k_dflt ((refine' sp_useI (sp_units _ _ _ _ ?p1zz ?p2zz) ?k1zz ?k2zz ?k3zz ?k4zz ?k5zz ?kKzz ?kdzz ?kuzz ?_); k_extra "u1"; k_extra "u2"; (case p2zz => first | assumption | exact NumIn.mono (by assumption) (by kcj_all)); (case p1zz => assumption); intro h9zz tk9zz F9zz t9zz N9zz; (try dsimp only); (try k_fold)))); trivial)
example : True := by ((k_with "call ref" => (k_here; (with_reducible show wpAny _ _ (call (Value.ref 361) _) _ _ _); k_dflt ((refine' sp_use (sp_law_number _ _ _ _ _ ?p1zz ?p2zz) ?k1zz ?k2zz ?k3zz ?k4zz ?k5zz ?kKzz ?kdzz ?kuzz ?_); k_extra "u1"; k_extra "u2"; (case p1zz => omega); (case p2zz => omega); k_extra "u3"; skip; k_extra "u4"))); trivial)
example : True := by ((k_with "call ref" => (k_here; (with_reducible show wpAny _ _ (call (Value.ref 311) _) _ _ _); k_dflt ((refine' sp_useV (sp_number_min _ _ _ _ _ _ _ _ _ ?p1zz ?p2zz ?p3zz ?p4zz ?p5zz) ?k1zz ?k2zz ?k3zz ?k4zz ?k5zz ?kKzz ?kdzz ?kuzz ?_); k_extra "u1"; k_extra "u2"; (case p5zz => k_dflt k_mem); (case p3zz => first | assumption | exact NumIn.mono (by assumption) (by kcj_all)); (case p4zz => first | assumption | exact NumIn.mono (by assumption) (by kcj_all)); (case p1zz => assumption); (case p2zz => assumption); intro h9zz tk9zz F9zz N9zz; (try dsimp only); (try k_fold)))); trivial)
example : True := by ((k_with "call ref" => (k_here; (with_reducible show wpAny _ _ (call (Value.ref 318) _) _ _ _); k_dflt ((refine' sp_useV (sp_number_max _ _ _ _ _ _ _ _ _ ?p1zz ?p2zz ?p3zz ?p4zz ?p5zz) ?k1zz ?k2zz ?k3zz ?k4zz ?k5zz ?kKzz ?kdzz ?kuzz ?_); k_extra "u1"; k_extra "u2"; (case p5zz => k_dflt k_mem); (case p3zz => first | assumption | exact NumIn.mono (by assumption) (by kcj_all)); (case p4zz => first | assumption | exact NumIn.mono (by assumption) (by kcj_all)); (case p1zz => assumption); (case p2zz => assumption); intro h9zz tk9zz F9zz N9zz; (try dsimp only); (try k_fold)))); trivial)
example : True := by ((k_with "call ref" => (k_here; (with_reducible show wpAny _ _ (call (Value.ref 385) _) _ _ _); k_dflt ((refine' sp_useV (sp_law_rises _ _ _ _ _ ?p1zz ?p2zz ?p3zz) ?k1zz ?k2zz ?k3zz ?k4zz ?k5zz ?kKzz ?kdzz ?kuzz ?_); k_extra "u1"; k_extra "u2"; (case p2zz => k_dflt k_mem); (case p1zz => first | assumption | exact NumsIn.mono (by assumption) (by kcj_all) | k_extra "nums"); (case p3zz => first | assumption | k_extra "len"); intro h9zz tk9zz F9zz N9zz; (try dsimp only); (try k_fold)))); trivial)
example : True := by ((k_with "call ref" => (k_here; (with_reducible show wpAny _ _ (call (Value.ref 380) _) _ _ _); k_dflt ((refine' sp_useL (sp_law_led _ _ _ _ _ _ _ _ _ ?p1zz ?p2zz ?p3zz ?p4zz ?p5zz ?p6zz ?p7zz) ?k1zz ?k2zz ?k3zz ?k4zz ?k5zz ?kKzz ?kdzz ?kuzz ?_); k_extra "u1"; k_extra "u2"; (case p2zz => k_dflt k_mem); (case p5zz => k_dflt k_mem); (case p1zz => first | assumption | exact NumsIn.mono (by assumption) (by kcj_all) | k_extra "nums"); (case p3zz => first | assumption | k_extra "len"); (case p4zz => first | assumption | exact PairsIn.mono (by assumption) (by kcj_all)); (case p6zz => first | assumption | k_extra "pok"); (case p7zz => first | assumption | k_extra "len"); intro h9zz tk9zz F9zz D9zz k9zz N9zz l9zz; (try dsimp only); (try k_fold)))); trivial)
example : True := by ((k_with "pyIter ref" => (first | k_extra "comp" | k_extra "for")); trivial)
example : True := by ((k_with "eval Name" => ((with_reducible show wpAny _ _ (eval _ (compEnvC _ _ _ _)) _ _ _); k_dflt (refine' comp_local ?Nzz ?hmzz ?nCzz ?hvzz ?_ ?azz ?bzz ?czz; (case bzz => exact rfl); (case azz => exact rfl); (case Nzz => k_asm); (case nCzz => assumption); (case hmzz => k_dflt k_mem); (case hvzz => assumption); (case czz => decide)))); trivial)
example : True := by ((k_with "eval Name" => ((with_reducible show wpAny _ _ (eval _ (compEnvC _ _ _ _)) _ _ _); k_dflt (refine' comp_cell ?Nzz ?hmzz ?hd'zz ?_ ?azz ?bzz ?ezz ?czz; (case bzz => exact rfl); (case azz => exact rfl); (case ezz => exact rfl); (case Nzz => k_asm); (case hmzz => k_dflt k_mem); (case hd'zz => assumption); (case czz => decide)))); trivial)
example : True := by ((k_with "exec Assign cons ListComp" => (k_dflt (refine' comp_assign ?aFzz ?a1zz ?a2zz ?a3zz ?a4zz ?a5zz ?a6zz ?a7zz ?a8zz ?_; (case aFzz => k_asm); (case a1zz => with_unfolding_all rfl); (case a2zz => with_unfolding_all rfl); (case a3zz => decide); (case a4zz => rfl); (case a5zz => decide); (case a6zz => intro _; with_unfolding_all rfl); (case a7zz => rfl); (case a8zz => rfl)))); trivial)
example : True := by ((k_with "eval ListComp" => (k_dflt (refine' comp_eval ?aFzz ?a2zz ?a3zz ?a4zz ?a5zz ?a6zz ?_; (case aFzz => k_asm); (case a2zz => with_unfolding_all rfl); (case a3zz => decide); (case a4zz => rfl); (case a5zz => decide); (case a6zz => intro _; with_unfolding_all rfl)))); trivial)
example : True := by ((k_with "call builtin:sorted" => (k_here; (with_reducible show wpAny _ _ (call (Value.builtin _) [Value.ref _]) _ _ _); (with_unfolding_all refine' kso_sorted ?k1zz ?k2zz ?k3zz ?k4zz ?k5zz ?_; (case k1zz => k_asm); (case k2zz => k_asm); (case k3zz => exact isListOf (by k_asm) (by k_mem)); (case k4zz => assumption); (case k5zz => assumption); k_whole); intro D'zz v'zz n'zz c'zz h'zz F'zz N'zz l1zz i'zz e'zz p'zz o'zz b'zz; (try k_lt l1zz); (try dsimp only))); trivial)
example : True := by ((k_with "compareOp Eq ref ref" => (k_here; (with_reducible show wpAny _ _ (compareOp CmpOp.Eq (Value.ref _) (Value.ref _)) _ _ _); k_dflt (refine' eq_intsK ?k1zz ?k2zz ?k3zz ?k4zz ?k5zz ?_; (case k1zz => exact isListOf (by k_asm) (by k_mem)); (case k3zz => exact isListOf (by k_asm) (by k_mem)); (case k2zz => assumption); (case k4zz => assumption); (case k5zz => ktr_units); k_whole))); trivial)
example : True := by ((k_with "exec For Tuple Name cons nil" => (k_here; (rename Fr _ _ _ _ => lF'zz); k_dflt (refine' For_invTF lF'zz ?_ ?hszz; (case hszz => intro _; with_unfolding_all rfl)))); trivial)
example : True := by ((k_with "k_all" => (assumption)); trivial)
example : True := by ((k_with "setItem ref int" => (k_here; k_dflt (refine' set_any ?k1zz ?k2zz ?k3zz ?k4zz ?k5zz ?k6zz ?_; (case k1zz => k_asm); (case k2zz => k_asm); (case k3zz => k_upd); (case k4zz => first | assumption | omega); (case k5zz => first | assumption | (simp only [List.length_set]; first | assumption | omega)); (case k6zz => omega); k_whole); intro h'zz F'zz N'zz; (try dsimp only))); trivial)
example : True := by ((k_with "subscriptTail Name Slice ref ref" => (k_here; k_dflt (refine' kmk_slice ?Fzz ?Nzz ?lzz ?pzz ?qzz ?_ ?szz ?tzz ?zzz; (case Fzz => k_asm); (case Nzz => k_asm); (case lzz => exact isListOf (by k_asm) (by k_mem)); (case pzz => kmk_part); (case qzz => kmk_part); (case szz => with_unfolding_all rfl); (case tzz => kmk_pure); (case zzz => (simp only [List.size_toArray, List.length_map, sizeLine_eq]; omega))); intro D'zz h'zz F'zz N'zz l1zz; (simp (disch := omega) only [pick_all, pick_upto, pick_from] at N'zz); (try k_lt l1zz); (try dsimp only))); trivial)
example : True := by ((k_with "len" => (first | assumption | omega | (rw [ledF_len]; omega))); trivial)
example : True := by ((k_with "pok" => (first | assumption | exact pok_of (by assumption) (by first | assumption | rw [ledF_len] | (rw [ledF_len]; assumption)))); trivial)
example : True := by ((k_with "nums" => (first | exact NumsIn.led (by assumption) _ | exact NumsIn.mono (NumsIn.led (by assumption) _) (by kcj_all))); trivial)
example : True := by ((k_with "call builtin:len" => (k_here; (with_reducible show wpAny _ _ (call (Value.builtin "len") [Value.ref _]) _ _ _); k_dflt (refine' len_any ?k1zz ?k2zz ?k3zz ?k4zz ?_; (case k1zz => k_asm); (case k2zz => k_dflt k_mem); (case k3zz => first | exact List.length_map .. | rfl); (case k4zz => first | omega | decide); k_whole))); trivial)
example : True := by ((k_with "call type:range" => (k_here; k_dflt (refine' range_any ?k1zz ?k2zz ?_; (case k1zz => k_asm); (case k2zz => k_asm)); intro D9zz h9zz ta9zz tb9zz tk9zz F9zz N9zz l9zz; (try k_lt l9zz); (try dsimp only); (try k_fold))); trivial)
example : True := by ((k_with "binaryOp Add ref ref" => (k_here; (with_reducible show wpAny _ _ (binaryOp _ (Value.ref _) (Value.ref _)) _ _ _); k_dflt (refine' add_any ?k1zz ?k2zz ?k3zz ?k4zz ?k5zz ?_; (case k1zz => k_asm); (case k2zz => k_asm); (case k3zz => k_dflt k_mem); (case k4zz => k_dflt k_mem); (case k5zz => (simp only [List.length_append, List.length_map, List.length_take, List.length_drop, List.length_cons, List.length_nil, sizeLine_eq]; omega))); intro D9zz h9zz F9zz N9zz l9zz; (try simp only [Int.toNat_natCast, toNat_succ, ← List.map_take, ← List.map_drop, ← List.map_append] at N9zz); (try k_lt l9zz); (try dsimp only); (try k_fold))); trivial)
example : True := by ((k_with "call ref" => (k_here; (with_reducible show wpAny _ _ (call (Value.ref 347) _) _ _ _); k_dflt (refine' fetched_at ?kUzz ?k1zz ?k2zz ?k3zz ?k4zz ?k5zz ?kKzz ?kdzz ?kuzz ?p1zz ?p2zz ?p3zz ?p4zz ?p5zz ?p6zz ?p7zz ?p8zz ?_; (case k1zz => k_asm); (case k2zz => k_asm); (case k3zz => k_asm); (case k4zz => k_asm); (case kUzz => k_updF); (case k5zz => k_asm); (case p7zz => k_dflt k_mem); (case p5zz => assumption); (case p6zz => first | assumption | omega | exact Nat.le_trans (List.length_take_le _ _) (by decide)); (case p8zz => k_ne); (case p1zz => omega); (case p2zz => omega); (case p3zz => omega); (case p4zz => omega); k_extra "u2"; intro x9zz tx9zz ts9zz kj9zz h9zz tk9zz x91zz x92zz F9zz N9zz; (try dsimp only at N9zz); (try dsimp only); (try k_fold)))); trivial)
example : True := by ((k_with "call ref" => (k_here; (with_reducible show wpAny _ _ (call (Value.ref 354) _) _ _ _); k_dflt (refine' pair_at ?kUzz ?k1zz ?k2zz ?k3zz ?k4zz ?k5zz ?kKzz ?kdzz ?kuzz ?p1zz ?p2zz ?p3zz ?p4zz ?p5zz ?p6zz ?p7zz ?p8zz ?_; (case k1zz => k_asm); (case k2zz => k_asm); (case k3zz => k_asm); (case k4zz => k_asm); (case kUzz => k_updF); (case k5zz => k_asm); (case p7zz => k_dflt k_mem); (case p5zz => assumption); (case p6zz => first | assumption | omega | exact Nat.le_trans (List.length_take_le _ _) (by decide)); (case p8zz => k_ne); (case p1zz => omega); (case p2zz => omega); (case p3zz => omega); (case p4zz => omega); k_extra "u2"; intro q9zz lo9zz hi9zz ta9zz tb9zz k9zz ts9zz kj9zz h9zz tk9zz y91zz y92zz y93zz y94zz y95zz F9zz N9zz l9zz; (try k_lt l9zz); (try dsimp only at N9zz); (try dsimp only); (try k_fold)))); trivial)
example : True := by ((k_with "callWith ref" => (k_here; k_dflt (refine' callWith_K ?k1zz ?k2zz ?_; (case k1zz => k_asm); (case k2zz => k_is); k_whole))); trivial)
example : True := by ((k_with "k_all" => ((repeat (refine all_cons ?_ ?_; focus k_ne)); first | assumption | exact List.forall_mem_nil _)); trivial)
example : True := by ((k_with "execs cons" => (k_extra "next")); trivial)
example : True := by ((k_with "k_mem" => (refine' memD ?_; assumption)); trivial)
example : True := by ((k_with "exec For Name Call cons nil" => (k_here; (rename Fr _ _ _ _ => lF'zz); k_dflt (refine' For_turns lF'zz ?_ ?hszz ?hEzz; (case hszz => intro _; with_unfolding_all rfl); (case hEzz => first | assumption | passes_own)))); trivial)
example : True := by ((k_with "exec For Name Name cons nil" => (k_here; (rename Fr _ _ _ _ => lF'zz); k_dflt (refine' For_turns lF'zz ?_ ?hszz ?hEzz; (case hszz => intro _; with_unfolding_all rfl); (case hEzz => first | assumption | passes_own)))); trivial)
example : True := by ((k_with "call builtin:list.append" => (k_here; (with_reducible show wpAny _ _ (call (Value.builtin _) [Value.ref _, _]) _ _ _); k_dflt (refine' append_any ?k1zz ?k2zz ?k3zz ?_ ?zzz; (case k1zz => k_asm); (case k2zz => k_asm); (case k3zz => k_upd); (case zzz => k_extra "room"); k_whole); intro h'zz F'zz N'zz; (try dsimp only); (try dsimp only at N'zz))); trivial)
example : True := by ((k_with "room" => ((simp only [List.length_map, sizeLine_eq]); omega)); trivial)
theorem stageC {w : World} {body : List Stmt} {scope : Scope} (hdef : LawDef body scope) {p : Program} {loose : List Str} {mean : ExcName → Option Value} {mg mb : Str → Option Value} {h₀ : Heap} {L fa : Addr} {u : Str → Option Value} {s : Shared} {Q : Flow → Shared → Prop} {E : Value → Shared → Prop}
    {ow om oc oj ot : Obj} {jar sl x dx pa : Addr} {tj tb td tm : Tok} {kj ks n many : Nat} {vs : List Value} {ns : List Int} {es : List DictEntry} {c0 m0 : Option Value} {R : Led} {sp : Int}
    (B : Below callerA h₀ [] h₀) (X : (hd.heap_1 w.params).In h₀) (T : Top p loose mean mg mb h₀)
    (dw : ow.data = .cell (some (.ref x))) (dm : om.data = .cell m0) (dc : oc.data = .cell c0) (dj : oj.data = .cell (some (.ref jar)))
    (hvs : IntsAre vs ns) (hvl : vs.length ≤ 60)
    (o1 : @LT.lt Nat _ 409 L) (o2 : @LT.lt Nat _ (L + 1 + 1 + 1 + 1) jar) (o3 : @LT.lt Nat _ sl jar) (hW : WorldIn R (.ref x) x dx es n tb td)
    (hR : Rest L jar sl x dx oj ow vs ks es n R)
    (hE : PassesOwn (model PW w) (lawA L fa scope) (envOfC (Str.ofString "law") scope L fa (.ref 411)) E)
    (hot : ot.cls ≠ .type "tuple")
    (hm : many = 3 ∨ many = 4) (hs0 : 0 ≤ sp) (hs1 : sp ≤ 20)
    (F : Fr h₀ L s.heap (putM [("many", .int many tm), ("pairs", .ref pa)] u)) (N : News h₀ L s.heap (headLed L ot oc om jar (jarO sl sp tj kj) R))
    (next : ∀ h' tk' sa ka xs tl tj' kj' sp' u', (sa, listOf (xs.map (·.1)).toArray ka) ∈ tl ++ R → NumsIn (tl ++ R) xs → xs.length = many → (unitsL xs).Pairwise (· < ·) → (∀ x ∈ xs, -2500 ≤ x.2.units ∧ x.2.units ≤ 3500) → (∀ p ∈ tl, @LT.lt Nat _ jar p.1) → 0 ≤ sp' → sp' ≤ 40 → Fr h₀ L h' (putM [("many", .int many tm), ("pairs", .ref pa), ("some", .ref sa)] u') → News h₀ L h' (headLed L ot oc om jar (jarO sl sp' tj' kj') (tl ++ R)) →
      wpAny (model PW w) (lawA L fa scope) (execs (body.drop 8) (envOfC (Str.ofString "law") scope L fa (.ref 411))) Q E { s with heap := h', toks := tk' }) :
    wpAny (model PW w) (lawA L fa scope) (execs (body.drop 6) (envOfC (Str.ofString "law") scope L fa (.ref 411))) Q E s := by
  obtain ⟨hb9, hs9⟩ := LawDef.at hdef
  clear hdef
  subst hb9
  have q7 : lawScope = Scope.mk _ _ _ _ _ := rfl
  rw [q7] at hs9
  clear q7
  subst hs9
  dsimp only [headLed] at N
  obtain ⟨r1, r2, r3, r4, r5, r6, r7, r8, r9⟩ := hR
  have hmb : many ≤ 4 := by omega
  have q3 : lawBody.drop 6 = _ :: _ :: lawBody.drop 8 := rfl
  rw [q3]
  clear q3
  generalize lawBody.drop 8 = rest9 at next ⊢
  k_with "for" => refine for_range (fun i m led' => ∃ q tq sa ka ax o b ob sp' t k tl xs u, m = putM [("many", .int many tm), ("pairs", .ref pa), ("quarters", .int q tq), ("some", .ref sa)] u ∧ led' = tl ++ (ax, o) :: (b, ob) :: (sa, listOf (xs.map (·.1)).toArray ka) :: headLed L ot oc om jar (jarO sl sp' t k) R ∧ (∀ p ∈ tl, @LT.lt Nat _ ax p.1) ∧ @LT.lt Nat _ jar sa ∧ @LT.lt Nat _ sa b ∧ @LT.lt Nat _ b ax ∧ AllLt sa R ∧ NumsIn (tl ++ (ax, o) :: (b, ob) :: R) xs ∧ xs.length = i ∧ (unitsL xs).Pairwise (· < ·) ∧ (∀ x ∈ xs, -2500 ≤ x.2.units ∧ x.2.units < 25 * q) ∧ (-100 + i ≤ q ∧ q ≤ 100 + 9 * i) ∧ 0 ≤ sp' ∧ sp' ≤ 21 + 2 * i) rfl (by k_asm) (by k_asm) (by k_mem) (held ?sm) (held ?hn) (held ?h0) (held ?turn) (held ?dn)
  repeat' (first | (k_unfold; (try dsimp only)) | walk1 | (dsimp only; walk1) | (leave1; try dsimp only))
  case sm => exact range_small (by omega)
  case hn => exact range_size _
  case h0 => exact ⟨_, _, _, 0, _, _, _, _, _, _, _, [], [], _, putM_cons rfl (putM_cons rfl (putM_cons rfl (putM_cons rfl (putM_nil _)))), rfl, (fun _ h => nomatch h), by show @LT.lt Nat _ _ _; omega, by show @LT.lt Nat _ _ _; omega, by show @LT.lt Nat _ _ _; omega, (show _ ∧ _ ∧ _ ∧ _ ∧ AllLt _ R by assumption).2.2.2.2, (fun _ h => nomatch h), rfl, .nil, (fun _ h => nomatch h), by omega, by omega, by omega⟩
  case turn =>
    intro i tv m₁ led₁ oI I h₁ tk₁ hcI hi hJ hoff Ft Nt hIlt
    obtain ⟨q, tq, sa, ka, ax, o, b, ob, sp', t, k, tl, xs, u', rfl, rfl, g1, g2, g3, g4, g12, g5, g6, g7, g8, g9, g10, g11⟩ := hJ
    have N2 : News h₀ L h₁ ((I, oI) :: (ax, o) :: (b, ob) :: (sa, listOf (xs.map (·.1)).toArray ka) :: headLed L ot oc om jar (jarO sl sp' t k) (tl ++ R)) := fun p hp => Nt p (by
      exact subq (by with_reducible k_extra "sub") hp)
    have hJI : @LT.lt Nat _ jar I := hIlt (jar, _) (by k_mem)
    have hjR : ∀ p ∈ tl ++ R, p.1 ≠ jar := all_app (fun p hp => Nat.ne_of_gt (by have := g1 p hp; show @LT.lt Nat _ _ _; omega)) r9
    have hsR : ∀ p ∈ tl ++ R, p.1 ≠ sa := all_app (fun p hp => Nat.ne_of_gt (by have := g1 p hp; show @LT.lt Nat _ _ _; omega)) (fun p hp => Nat.ne_of_lt (ktn_ltOf g12 p hp))
    have hIs : @Ne Nat I sa := fun e => hoff (sa, _) (by k_mem) e.symm
    clear Nt hIlt
    repeat' (first | (k_unfold; (try dsimp only)) | walk1 | (dsimp only; walk1) | (leave1; try dsimp only))
    have r9zz := True.intro; have tl9zz := True.intro; have h9zz := True.intro; have tk9zz := True.intro; have F9zz := True.intro; have N9zz := True.intro; have l9zz := True.intro; have o9zz := True.intro -- ok
    rename_i r9 tl9 h9 tk9 F9 N9 l9 o9 -- ok
    obtain ⟨NN, n1, n2, n3⟩ := o9
    have N3 := news_push (l := [_, _, _, _, _, _, _, _]) N9
    simp only [List.cons_append, List.nil_append] at N3
    have hjR' : ∀ p ∈ tl9 ++ (tl ++ R), p.1 ≠ jar := all_app (fun p hp => Nat.ne_of_gt (l9 (jar, _) (by k_mem) p hp)) hjR
    have hsR' : ∀ p ∈ tl9 ++ (tl ++ R), p.1 ≠ sa := all_app (fun p hp => Nat.ne_of_gt (l9 (sa, _) (by k_mem) p hp)) hsR
    have hb9 : ∀ p ∈ tl9, @LT.lt Nat _ ax p.1 := fun p hp => l9 (ax, _) (by k_mem) p hp
    have hI9 : ∀ p ∈ tl9, @LT.lt Nat _ I p.1 := fun p hp => l9 (I, _) (by k_mem) p hp
    have hnn : NumIn ((tl9 ++ tl) ++ (ax, o) :: (b, ob) :: R) r9 NN := numIn_drop (od_both (od_sub (by with_reducible k_extra "suf")) (od_cons (.inr (noTup_cls hcI)) (od_cons (.inl (by with_reducible k_extra "in")) (od_cons (.inl (by with_reducible k_extra "in")) (od_cons (.inr noTup_list) (od_cons (.inr (noTup_cls hot)) (od_cons (.inr (noTup_cell dc)) (od_cons (.inr (noTup_cell dm)) (od_cons (.inr noTup_list) (od_sub (by with_reducible k_extra "sub")))))))))))  n1
    clear N9 l9 n1
    repeat' (first | (k_unfold; (try dsimp only)) | walk1 | (dsimp only; walk1) | (leave1; try dsimp only))
    have x9zz := True.intro; have tx9zz := True.intro; have ts9zz := True.intro; have kj9zz := True.intro; have h9zz := True.intro; have tk9zz := True.intro; have x91zz := True.intro; have x92zz := True.intro -- ok
    rename_i x9 tx9 ts9 kj9 h9' tk9' x91 x92 h' F' N' -- ok
    simp only [List.append_eq] at N'
    refine FStep.intro (nx := (tl9 ++ tl) ++ (ax, o) :: (b, ob) :: (sa, listOf ((xs ++ [(r9, NN)]).map (·.1)).toArray (ka + 1)) :: headLed L ot oc om jar (jarO sl (sp' + 1 + 1) ts9 kj9) R) F' (fun p hp => N' p ?_) (fun p hp => ?_) ⟨q + 1 + x9, _, sa, ka + 1, ax, o, b, ob, sp' + 1 + 1, ts9, kj9, tl9 ++ tl, xs ++ [(r9, NN)], _, putM_cons rfl (putM_cons rfl (putM_cons rfl (putM_cons rfl (putM_nil _)))), rfl, ?_, g2, g3, g4, g12, nums_snoc (g5.mono ?_) hnn n2, by simp [g6], units_snoc g7 (fun x hx => by rw [n3]; exact (g8 x hx).2), ?_, by omega, by omega, by omega⟩
    · simp only [List.map_append, List.map_cons, List.map_nil] at hp ⊢
      exact subq (by with_reducible k_extra "sub") hp
    · simp only [List.mem_append] at hp
      rcases hp with (hp | hp) | hp
      · exact Nat.ne_of_gt (hI9 p hp)
      · exact hoff p (List.mem_append_left _ hp)
      · rcases List.mem_cons.mp hp with rfl | hp
        · exact hoff (ax, o) (by k_mem)
        · rcases List.mem_cons.mp hp with rfl | hp
          · exact hoff (b, ob) (by k_mem)
          · rcases List.mem_cons.mp hp with rfl | hp
            · exact Ne.symm hIs
            · rcases List.mem_cons.mp hp with rfl | hp
              · exact hoff (409, ot) (by k_mem)
              · rcases List.mem_cons.mp hp with rfl | hp
                · exact hoff (L + 1 + 1, oc) (by k_mem)
                · rcases List.mem_cons.mp hp with rfl | hp
                  · exact hoff (L + 1 + 1 + 1, om) (by k_mem)
                  · rcases List.mem_cons.mp hp with rfl | hp
                    · exact Nat.ne_of_lt hJI
                    · exact hoff p (by k_mem)
    · intro p hp
      rcases List.mem_append.mp hp with hp | hp
      · exact hb9 p hp
      · exact g1 p hp
    · intro p hp
      exact subq (by with_reducible k_extra "sub") hp
    · intro x hx
      rcases List.mem_append.mp hx with hx | hx
      · have := g8 x hx; omega
      · rw [List.mem_singleton.mp hx, n3]; omega
  case dn =>
    intro h' tk m' led' hJ F' N'
    obtain ⟨q, tq, sa, ka, ax, o, b, ob, sp', t, k, tl, xs, u', rfl, rfl, g1, g2, g3, g4, g12, g5, g6, g7, g8, g9, g10, g11⟩ := hJ
    repeat' (first | (k_unfold; (try dsimp only)) | walk1 | (dsimp only; walk1) | (leave1; try dsimp only))
    refine next _ _ sa ka xs (upJ jar (tl ++ (ax, o) :: (b, ob) :: (sa, listOf (xs.map (·.1)).toArray ka) :: headLed L ot oc om jar (jarO sl sp' t k) R)) t k sp' _ (upJ_mem_app (by k_mem) g2) (g5.mono fun p hp => ?_) g6 g7 (fun x hx => ⟨(g8 x hx).1, by have := (g8 x hx).2; omega⟩) (upJ_lt _ _) g10 (by omega) (fr_eq (by k_asm) (putM_cons rfl (putM_cons rfl (putM_cons rfl (putM_nil _))))) (head_news N' (by kcj_all))
    rcases List.mem_append.mp hp with hp | hp
    · exact upJ_mem_app (List.mem_append_left _ hp) (by have := g1 p hp; show @LT.lt Nat _ _ _; omega)
    · rcases List.mem_cons.mp hp with rfl | hp
      · exact upJ_mem_app (by k_mem) (by show @LT.lt Nat _ _ _; omega)
      · rcases List.mem_cons.mp hp with rfl | hp
        · exact upJ_mem_app (by k_mem) (by show @LT.lt Nat _ _ _; omega)
        · exact List.mem_append_right _ hp
end Mine
end
section
open PySem PySem.W PyProof.Rows
set_option maxRecDepth 100000
set_option maxHeartbeats 8000000
set_option linter.unusedVariables false
namespace Mine
example : True := by (k_with_none; trivial)
example : True := by ((k_with "u1" => ((case k1zz => k_asm); (case k2zz => k_asm); (case k3zz => k_asm); (case k4zz => k_asm); (case k5zz => k_asm))); trivial)
example : True := by ((k_with "u2" => ((case kKzz => first | exact rfl | assumption); (case kdzz => ktr_room); (case kuzz => ktr_units))); trivial)
example : True := by ((k_with "u3" => (intro r9zz tl9zz h9zz tk9zz F9zz N9zz l9zz o9zz; (try dsimp only at o9zz))); trivial)
example : True := by ((k_with "u4" => ((try simp only [List.nil_append, List.cons_append] at N9zz); (try dsimp only); (try k_fold))); trivial)
example : True := by ((k_with "suf" => (first | apply sub_refl | assumption | (refine sub_tail ?_; k_extra "suf") | (refine sub_app ?_; k_extra "suf") | apply sub_nil | (refine sub_appL ?_; k_extra "suf"))); trivial)
example : True := by ((k_with "in" => (first | assumption | apply in_head | (refine in_tail ?_; k_extra "in") | (refine in_app ?_; k_extra "in") | (refine in_appL ?_; k_extra "in"))); trivial)
example : True := by ((k_with "sub" => (first | k_extra "suf" | (refine sub_cons ?_ ?_; (focus k_extra "in"); k_extra "sub") | (refine sub_both ?_ ?_; (focus k_extra "sub"); k_extra "sub") | (refine sub_trans ?_ (by assumption); k_extra "suf"))); trivial)
example : True := by ((k_with "lt0" => (first | assumption | (refine Mine.pickA (by assumption) ?_; intro hz9zz; first | apply hz9zz.1 | (replace hz9zz := hz9zz.2; first | apply hz9zz.1 | (replace hz9zz := hz9zz.2; first | apply hz9zz.1 | (replace hz9zz := hz9zz.2; first | apply hz9zz.1 | (replace hz9zz := hz9zz.2; first | apply hz9zz.1 | (replace hz9zz := hz9zz.2; first | apply hz9zz.1 | (replace hz9zz := hz9zz.2; first | apply hz9zz.1 | (replace hz9zz := hz9zz.2; first | apply hz9zz.1 | (replace hz9zz := hz9zz.2; first | apply hz9zz.1 | (replace hz9zz := hz9zz.2; first | apply hz9zz.1 | (replace hz9zz := hz9zz.2; first | apply hz9zz.1 | (replace hz9zz := hz9zz.2; first | apply hz9zz.1 | (replace hz9zz := hz9zz.2; first | apply hz9zz.1 | (replace hz9zz := hz9zz.2; first | apply hz9zz.1 | apply hz9zz.2)))))))))))))))); trivial)
example : True := by ((k_with "lt1" => (first | apply Mine.sl1 | apply Mine.sl2 | apply Mine.sl3 | apply Mine.sl4 | exact Mine.dn1 (by assumption) | exact Mine.dn2 (by assumption) | exact Mine.dn3 (by assumption) | exact Mine.dn4 (by assumption) | exact Mine.upx (by assumption) (by assumption) | exact Mine.up4 (by assumption) | (refine Nat.lt_trans ?_ (by assumption); first | k_extra "lt0" | exact Mine.dn1 (by assumption) | exact Mine.dn2 (by assumption) | exact Mine.dn3 (by assumption) | exact Mine.dn4 (by assumption) | (refine Nat.lt_trans ?_ (by assumption); k_extra "lt0")))); trivial)
/-- a row of bits -/
def BitsL (xs : List VN) : Prop := ∀ x ∈ xs, ∃ n t, x = (.int n t, .i n) ∧ (n = 0 ∨ n = 1)
theorem BitsL.nums {xs : List VN} (h : BitsL xs) (news : Led) : NumsIn news xs := fun x hx => by
  obtain ⟨n, t, rfl, hn⟩ := h x hx
  refine ⟨.i, ?_⟩
  rcases hn with rfl | rfl <;> simp [Num.Ok]
theorem rows_in {led : Led} {rows : List (Value × List VN)} {xs : List VN} (h : RowsAt led rows) (e : rows.map (·.2) = arr 3 xs) (hx : NumsIn led xs) : RowsIn led xs.length rows := fun x hx' => by
  obtain ⟨rr, k, e1, e2⟩ := h x hx'
  have hm : x.2 ∈ arr 3 xs := by rw [← e]; exact List.mem_map_of_mem hx'
  exact ⟨rr, k, e1, e2, fun y hy => hx y (arr_mem _ _ _ hm y hy), arr_len _ _ _ hm⟩
theorem rows_all {rows : List (Value × List VN)} {xs : List VN} (ps : List (Int × Int)) (e : rows.map (·.2) = arr 3 xs) (hn : xs.length = 3 ∨ xs.length = 4) (hp : (unitsL xs).Pairwise (· < ·)) : (rows.all fun x => sortsB ps x.2) = (bitsU xs.length).all (sortsU ps) := by
  rw [← arr_knuth hn hp, ← e, List.all_map]; rfl
theorem bits_all {rows : List (Value × List VN)} {n : Nat} (ps : List (Int × Int)) (e : rows.map (fun x => unitsL x.2) = bitsU n) : (rows.all fun x => sortsB ps x.2) = (bitsU n).all (sortsU ps) := by
  rw [← e, List.all_map]
  congr 1; funext x; exact sortsB_eq ps x.2
theorem sp_sorts_eq (w : World) (wv : Value) (pa la : Addr) (pxs : List (Value × Int × Int)) (rows : List (Value × List VN)) (n kp kl : Nat) (news : Led) (b : Bool) (hn : n ≤ 60) (hr : RowsIn news n rows) (hl : (la, listOf (rows.map (·.1)).toArray kl) ∈ news) (hz : rows.length ≤ 60)
    (hp : PairsIn news pxs) (hpl : (pa, listOf (pxs.map (·.1)).toArray kp) ∈ news) (hpo : ∀ x ∈ pxs, PairOk n x.2) (hpz : pxs.length ≤ 60) (hb : (rows.all fun x => sortsB (pxs.map (·.2)) x.2) = b) :
    Sp w 8 240 390 [wv, .ref pa, .ref la] news (fun r tl => r = .bool b ∧ tl = []) := by
  rw [← hb]; exact sp_law_sorts w wv pa la pxs rows n kp kl news hn hr hl hz hp hpl hpo hpz
theorem sp_arr3 (w : World) (ra : Addr) (xs : List VN) (kr : Nat) (news : Led) (hz : xs.length ≤ 4) (hl : (ra, listOf (xs.map (·.1)).toArray kr) ∈ news) :
    Sp w 40 800 373 [.ref ra] news (fun r tl => ∃ D k' rows tl', r = .ref D ∧ tl = (D, listOf (rows.map (·.1)).toArray k') :: tl' ∧ RowsAt (tl' ++ [(ra, listOf (xs.map (·.1)).toArray kr)]) rows ∧ rows.map (·.2) = arr 3 xs) := sp_arr w 3 ra xs kr news hz (Nat.le_refl 3) hl
theorem arr_sz30 {xs : List VN} (h : xs.length = 3 ∨ xs.length = 4) : (arr 3 xs).length ≤ 30 ∧ arr 3 xs ≠ [] := by
  rcases h with h | h
  · obtain ⟨a, b, c, rfl⟩ := len3 h
    rw [arr_three]; exact ⟨Nat.le_of_ble_eq_true rfl, List.cons_ne_nil _ _⟩
  · obtain ⟨a, b, c, d, rfl⟩ := len4 h
    rw [arr_four]; exact ⟨Nat.le_of_ble_eq_true rfl, List.cons_ne_nil _ _⟩
theorem bitsL_snoc {xs : List VN} {n : Int} {t : Tok} (h : BitsL xs) (hn : n = 0 ∨ n = 1) : BitsL (xs ++ [(.int n t, .i n)]) := fun x hx => by
  rcases List.mem_append.mp hx with hx | hx
  · exact h x hx
  · rw [List.mem_singleton.mp hx]; exact ⟨n, t, rfl, hn⟩
theorem bit_at {b : Nat} {t0 t1 : Tok} {v1 : Value} (h : [Value.int 0 t0, Value.int 1 t1][b]? = some v1) : ∃ c t, v1 = .int c t ∧ (c = 0 ∨ c = 1) ∧ ([0, 100] : List Int).take (b + 1) = ([0, 100] : List Int).take b ++ [100 * c] := by
  match b, h with
  | 0, h => simp at h; exact ⟨0, t0, h.symm, .inl rfl, rfl⟩
  | 1, h => simp at h; exact ⟨1, t1, h.symm, .inr rfl, rfl⟩
theorem in_bits {prog : Program} {w : World} {A : Around} {s : Shared} {env : Env} {x y : Str} {elt : Expr} {scope : Scope} {cl : List (Str × Addr)} {h₀ h : Heap} {L C ax : Addr} {m : Str → Option Value} {all led : Led} {v : Value} {ys : List Value} {Nx : List Value → Led → Prop} {tk : Nat} {t0 t1 : Tok} {E : Value → Shared → Prop} (Inv1 : Nat → List Value → Led → Prop)
    (hh : A.handled = none) (F : Fr h₀ L h m) (N : News h₀ L h ((ax, tupO [.int 0 t0, .int 1 t1] 0) :: all)) (ord : ∀ q ∈ all, q.1 < ax) (hsz : ys.length ≤ 1000) (hi0 : Inv1 0 ys ((ax, tupO [.int 0 t0, .int 1 t1] 0) :: led)) (hend : ∀ ys' led', Inv1 2 ys' led' → Nx ys' led')
    (turn1 : ∀ j v1 ys led own oC m₃ h tk E', [Value.int 0 t0, Value.int 1 t1][j]? = some v1 → Inv1 j ys led → Fr h₀ L h m → News h₀ L h ((C, oC) :: (own ++ led)) → NsO oC m₃ → m₃ x = some v → m₃ y = some v1 →
      wpAny (model prog w) A (eval elt (compEnvC scope cl C env)) (fun z s₄ => PStep h₀ L m ((C, oC) :: (own ++ led)) led (Inv1 (j + 1) (ys ++ [z])) s s₄) E' { s with heap := h, toks := tk }) :
    wpAny (model prog w) A (pyIter (.ref ax)) (InAt prog w A env x y elt scope cl h₀ L C m all led v ys Nx s) E { s with heap := h, toks := tk } :=
  in_tupL (tl := [(ax, tupO [.int 0 t0, .int 1 t1] 0)]) (vs := [.int 0 t0, .int 1 t1]) (k := 0) Inv1 hh F N (fun q hq p hp => by rw [List.mem_singleton.mp hp]; exact ord q hq) (.head _) (Nat.le_trans (by show 2 + ys.length ≤ 1002; omega) (by decide)) hi0 hend turn1
theorem bits_len : ∀ n, n ≤ 4 → (bitsU n).length ≤ 16 := by decide
example : True := by ((k_with "LeaveK" => (k_dflt (refine' leaveK_ ?k1zz ?k2zz ?_; (case k1zz => k_asm); (case k2zz => k_asm); k_whole); intro kFzz kNzz; (try dsimp only))); trivial)
example : True := by ((k_with "k_mem" => (first | assumption | (refine' List.mem_append_right _ ?_; k_mem) | (refine' List.mem_append_left _ ?_; k_mem))); trivial)
example : True := by ((k_with "kcj_all" => (k_whole; first | (refine fun pzz hpzz => List.mem_append_right _ ?_; assumption) | (intro pzz hpzz; (simp only [List.mem_append, List.mem_cons, List.not_mem_nil, or_false, false_or] at hpzz ⊢); first | assumption | (simp only [hpzz, true_or, or_true]; done) | grind))); trivial)
example : True := by ((k_with "kcj_all" => (k_whole; with_reducible k_extra "sub")); trivial)
example : True := by ((k_with "newTuple" => (k_here; k_dflt (refine' kup_newTuple ?Fzz ?Nzz ?_ ?zzz; (case Fzz => k_asm); (case Nzz => k_asm); (case zzz => kmk_size)); intro D'zz h'zz F'zz N'zz l1zz; (try k_lt l1zz); (try k_sweep))); trivial)
example : True := by ((k_with "binaryOp Pow int int" => ((with_reducible refine pow_int_small ?kb1zz ?kb2zz ?kb3zz ?_); (case kb1zz => omega); (case kb2zz => omega); (case kb3zz => decide))); trivial)
example : True := by ((k_with "subscriptTail" => (k_here; (with_reducible show wpAny _ _ (subscriptTail _ _ (Value.ref _) (Value.int _ _)) _ _ _); (with_unfolding_all refine' item_litK ?k1zz ?k2zz ?k3zz ?k4zz ?_ ?k6zz; (case k1zz => exact isListOf (by k_asm) (by k_mem)); (case k2zz => first | decide | omega); (case k3zz => first | decide | omega); (case k4zz => first | rfl | assumption); (case k6zz => with_unfolding_all rfl); k_whole))); trivial)
example : True := by ((k_with "subscriptTail Name Name ref int" => (k_here; (with_reducible show wpAny _ _ (subscriptTail _ _ (Value.ref _) (Value.int _ _)) _ _ _); (with_unfolding_all refine' item_litK ?k1zz ?k2zz ?k3zz ?k4zz ?_ ?k6zz; (case k1zz => exact isListOf (by k_asm) (by k_mem)); (case k2zz => first | decide | omega); (case k3zz => first | decide | omega); (case k4zz => first | rfl | assumption); (case k6zz => with_unfolding_all rfl); k_whole))); trivial)
example : True := by ((k_with "subscriptTail Name Constant ref int" => (k_here; (with_reducible show wpAny _ _ (subscriptTail _ _ (Value.ref _) (Value.int _ _)) _ _ _); (with_unfolding_all refine' item_litK ?k1zz ?k2zz ?k3zz ?k4zz ?_ ?k6zz; (case k1zz => exact isListOf (by k_asm) (by k_mem)); (case k2zz => first | decide | omega); (case k3zz => first | decide | omega); (case k4zz => first | rfl | assumption); (case k6zz => with_unfolding_all rfl); k_whole))); trivial)
example : True := by ((k_with "call ref" => (k_here; (with_reducible show wpAny _ _ (call (Value.ref 255) _) _ _ _); k_dflt ((refine' sp_use (sp_reckoned _ _ _ _ _ _ _ _ _ ?p1zz ?p2zz ?p3zz ?p4zz ?p5zz) ?k1zz ?k2zz ?k3zz ?k4zz ?k5zz ?kKzz ?kdzz ?kuzz ?_); k_extra "u1"; k_extra "u2"; (case p4zz => first | exact numIn_i | exact numIn_d (by k_mem) | exact NumIn.mono (by assumption) (by kcj_all) | assumption); (case p5zz => first | exact numIn_i | exact numIn_d (by k_mem) | exact NumIn.mono (by assumption) (by kcj_all) | assumption); (case p1zz => assumption); (case p2zz => assumption); (case p3zz => first | assumption | k_extra "sum"); k_extra "u3"; skip; k_extra "u4"))); trivial)
example : True := by ((k_with "getAttr ref" => (k_here; k_dflt (refine' get_own ?k1zz ?k2zz ?k3zz ?k4zz ?k5zz ?k6zz ?k7zz ?k8zz ?k9zz ?_; (case k1zz => k_asm); (case k2zz => k_asm); (case k3zz => k_inst); (case k4zz => k_is); (case k5zz => k_is); (case k6zz => k_is); (case k7zz => k_is); (case k8zz => assumption); (case k9zz => exact rfl); k_whole))); trivial)
example : True := by ((k_with "call ref" => (k_here; (with_reducible show wpAny _ _ (call (Value.ref 262) _) _ _ _); k_dflt ((refine' sp_use (sp_negated _ _ _ _ _ _ ?p1zz ?p2zz) ?k1zz ?k2zz ?k3zz ?k4zz ?k5zz ?kKzz ?kdzz ?kuzz ?_); k_extra "u1"; k_extra "u2"; (case p2zz => first | assumption | exact NumIn.mono (by assumption) (by kcj_all)); (case p1zz => assumption); k_extra "u3"; skip; k_extra "u4"))); trivial)
example : True := by ((k_with "call ref" => (k_here; (with_reducible show wpAny _ _ (call (Value.ref 368) _) _ _ _); k_dflt ((refine' sp_useI (sp_units _ _ _ _ ?p1zz ?p2zz) ?k1zz ?k2zz ?k3zz ?k4zz ?k5zz ?kKzz ?kdzz ?kuzz ?_); k_extra "u1"; k_extra "u2"; (case p2zz => first | assumption | exact NumIn.mono (by assumption) (by kcj_all)); (case p1zz => assumption); intro h9zz tk9zz F9zz t9zz N9zz; (try dsimp only); (try k_fold)))); trivial)
example : True := by ((k_with "call ref" => (k_here; (with_reducible show wpAny _ _ (call (Value.ref 361) _) _ _ _); k_dflt ((refine' sp_use (sp_law_number _ _ _ _ _ ?p1zz ?p2zz) ?k1zz ?k2zz ?k3zz ?k4zz ?k5zz ?kKzz ?kdzz ?kuzz ?_); k_extra "u1"; k_extra "u2"; (case p1zz => omega); (case p2zz => omega); k_extra "u3"; skip; k_extra "u4"))); trivial)
example : True := by ((k_with "call ref" => (k_here; (with_reducible show wpAny _ _ (call (Value.ref 311) _) _ _ _); k_dflt ((refine' sp_useV (sp_number_min _ _ _ _ _ _ _ _ _ ?p1zz ?p2zz ?p3zz ?p4zz ?p5zz) ?k1zz ?k2zz ?k3zz ?k4zz ?k5zz ?kKzz ?kdzz ?kuzz ?_); k_extra "u1"; k_extra "u2"; (case p5zz => k_dflt k_mem); (case p3zz => first | assumption | exact NumIn.mono (by assumption) (by kcj_all)); (case p4zz => first | assumption | exact NumIn.mono (by assumption) (by kcj_all)); (case p1zz => assumption); (case p2zz => assumption); intro h9zz tk9zz F9zz N9zz; (try dsimp only); (try k_fold)))); trivial)
example : True := by ((k_with "call ref" => (k_here; (with_reducible show wpAny _ _ (call (Value.ref 318) _) _ _ _); k_dflt ((refine' sp_useV (sp_number_max _ _ _ _ _ _ _ _ _ ?p1zz ?p2zz ?p3zz ?p4zz ?p5zz) ?k1zz ?k2zz ?k3zz ?k4zz ?k5zz ?kKzz ?kdzz ?kuzz ?_); k_extra "u1"; k_extra "u2"; (case p5zz => k_dflt k_mem); (case p3zz => first | assumption | exact NumIn.mono (by assumption) (by kcj_all)); (case p4zz => first | assumption | exact NumIn.mono (by assumption) (by kcj_all)); (case p1zz => assumption); (case p2zz => assumption); intro h9zz tk9zz F9zz N9zz; (try dsimp only); (try k_fold)))); trivial)
example : True := by ((k_with "call ref" => (k_here; (with_reducible show wpAny _ _ (call (Value.ref 385) _) _ _ _); k_dflt ((refine' sp_useV (sp_law_rises _ _ _ _ _ ?p1zz ?p2zz ?p3zz) ?k1zz ?k2zz ?k3zz ?k4zz ?k5zz ?kKzz ?kdzz ?kuzz ?_); k_extra "u1"; k_extra "u2"; (case p2zz => k_dflt k_mem); (case p1zz => first | assumption | exact NumsIn.mono (by assumption) (by kcj_all) | k_extra "nums"); (case p3zz => first | assumption | k_extra "len"); intro h9zz tk9zz F9zz N9zz; (try dsimp only); (try k_fold)))); trivial)
example : True := by ((k_with "call ref" => (k_here; (with_reducible show wpAny _ _ (call (Value.ref 380) _) _ _ _); k_dflt ((refine' sp_useL (sp_law_led _ _ _ _ _ _ _ _ _ ?p1zz ?p2zz ?p3zz ?p4zz ?p5zz ?p6zz ?p7zz) ?k1zz ?k2zz ?k3zz ?k4zz ?k5zz ?kKzz ?kdzz ?kuzz ?_); k_extra "u1"; k_extra "u2"; (case p2zz => k_dflt k_mem); (case p5zz => k_dflt k_mem); (case p1zz => first | assumption | exact NumsIn.mono (by assumption) (by kcj_all) | k_extra "nums"); (case p3zz => first | assumption | k_extra "len"); (case p4zz => first | assumption | exact PairsIn.mono (by assumption) (by kcj_all)); (case p6zz => first | assumption | k_extra "pok"); (case p7zz => first | assumption | k_extra "len"); intro h9zz tk9zz F9zz D9zz k9zz N9zz l9zz; (try dsimp only); (try k_fold)))); trivial)
example : True := by ((k_with "pyIter ref" => (first | k_extra "comp" | k_extra "for")); trivial)
example : True := by ((k_with "eval Name" => ((with_reducible show wpAny _ _ (eval _ (compEnvC _ _ _ _)) _ _ _); k_dflt (refine' comp_local ?Nzz ?hmzz ?nCzz ?hvzz ?_ ?azz ?bzz ?czz; (case bzz => exact rfl); (case azz => exact rfl); (case Nzz => k_asm); (case nCzz => assumption); (case hmzz => k_dflt k_mem); (case hvzz => assumption); (case czz => decide)))); trivial)
example : True := by ((k_with "eval Name" => ((with_reducible show wpAny _ _ (eval _ (compEnvC _ _ _ _)) _ _ _); k_dflt (refine' comp_cell ?Nzz ?hmzz ?hd'zz ?_ ?azz ?bzz ?ezz ?czz; (case bzz => exact rfl); (case azz => exact rfl); (case ezz => exact rfl); (case Nzz => k_asm); (case hmzz => k_dflt k_mem); (case hd'zz => assumption); (case czz => decide)))); trivial)
example : True := by ((k_with "exec Assign cons ListComp" => (k_dflt (refine' comp_assign ?aFzz ?a1zz ?a2zz ?a3zz ?a4zz ?a5zz ?a6zz ?a7zz ?a8zz ?_; (case aFzz => k_asm); (case a1zz => with_unfolding_all rfl); (case a2zz => with_unfolding_all rfl); (case a3zz => decide); (case a4zz => rfl); (case a5zz => decide); (case a6zz => intro _; with_unfolding_all rfl); (case a7zz => rfl); (case a8zz => rfl)))); trivial)
example : True := by ((k_with "eval ListComp" => (k_dflt (refine' comp_eval ?aFzz ?a2zz ?a3zz ?a4zz ?a5zz ?a6zz ?_; (case aFzz => k_asm); (case a2zz => with_unfolding_all rfl); (case a3zz => decide); (case a4zz => rfl); (case a5zz => decide); (case a6zz => intro _; with_unfolding_all rfl)))); trivial)
example : True := by ((k_with "call builtin:sorted" => (k_here; (with_reducible show wpAny _ _ (call (Value.builtin _) [Value.ref _]) _ _ _); (with_unfolding_all refine' kso_sorted ?k1zz ?k2zz ?k3zz ?k4zz ?k5zz ?_; (case k1zz => k_asm); (case k2zz => k_asm); (case k3zz => exact isListOf (by k_asm) (by k_mem)); (case k4zz => assumption); (case k5zz => assumption); k_whole); intro D'zz v'zz n'zz c'zz h'zz F'zz N'zz l1zz i'zz e'zz p'zz o'zz b'zz; (try k_lt l1zz); (try dsimp only))); trivial)
example : True := by ((k_with "compareOp Eq ref ref" => (k_here; (with_reducible show wpAny _ _ (compareOp CmpOp.Eq (Value.ref _) (Value.ref _)) _ _ _); k_dflt (refine' eq_intsK ?k1zz ?k2zz ?k3zz ?k4zz ?k5zz ?_; (case k1zz => exact isListOf (by k_asm) (by k_mem)); (case k3zz => exact isListOf (by k_asm) (by k_mem)); (case k2zz => assumption); (case k4zz => assumption); (case k5zz => ktr_units); k_whole))); trivial)
example : True := by ((k_with "exec For Tuple Name cons nil" => (k_here; (rename Fr _ _ _ _ => lF'zz); k_dflt (refine' For_invTF lF'zz ?_ ?hszz; (case hszz => intro _; with_unfolding_all rfl)))); trivial)
example : True := by ((k_with "k_all" => (assumption)); trivial)
example : True := by ((k_with "setItem ref int" => (k_here; k_dflt (refine' set_any ?k1zz ?k2zz ?k3zz ?k4zz ?k5zz ?k6zz ?_; (case k1zz => k_asm); (case k2zz => k_asm); (case k3zz => k_upd); (case k4zz => first | assumption | omega); (case k5zz => first | assumption | (simp only [List.length_set]; first | assumption | omega)); (case k6zz => omega); k_whole); intro h'zz F'zz N'zz; (try dsimp only))); trivial)
example : True := by ((k_with "subscriptTail Name Slice ref ref" => (k_here; k_dflt (refine' kmk_slice ?Fzz ?Nzz ?lzz ?pzz ?qzz ?_ ?szz ?tzz ?zzz; (case Fzz => k_asm); (case Nzz => k_asm); (case lzz => exact isListOf (by k_asm) (by k_mem)); (case pzz => kmk_part); (case qzz => kmk_part); (case szz => with_unfolding_all rfl); (case tzz => kmk_pure); (case zzz => (simp only [List.size_toArray, List.length_map, sizeLine_eq]; omega))); intro D'zz h'zz F'zz N'zz l1zz; (simp (disch := omega) only [pick_all, pick_upto, pick_from] at N'zz); (try k_lt l1zz); (try dsimp only))); trivial)
example : True := by ((k_with "len" => (first | assumption | omega | (rw [ledF_len]; omega))); trivial)
example : True := by ((k_with "pok" => (first | assumption | exact pok_of (by assumption) (by first | assumption | rw [ledF_len] | (rw [ledF_len]; assumption)))); trivial)
example : True := by ((k_with "nums" => (first | exact NumsIn.led (by assumption) _ | exact NumsIn.mono (NumsIn.led (by assumption) _) (by kcj_all))); trivial)
example : True := by ((k_with "call builtin:len" => (k_here; (with_reducible show wpAny _ _ (call (Value.builtin "len") [Value.ref _]) _ _ _); k_dflt (refine' len_any ?k1zz ?k2zz ?k3zz ?k4zz ?_; (case k1zz => k_asm); (case k2zz => k_dflt k_mem); (case k3zz => first | exact List.length_map .. | rfl); (case k4zz => first | omega | decide); k_whole))); trivial)
example : True := by ((k_with "call type:range" => (k_here; k_dflt (refine' range_any ?k1zz ?k2zz ?_; (case k1zz => k_asm); (case k2zz => k_asm)); intro D9zz h9zz ta9zz tb9zz tk9zz F9zz N9zz l9zz; (try k_lt l9zz); (try dsimp only); (try k_fold))); trivial)
example : True := by ((k_with "binaryOp Add ref ref" => (k_here; (with_reducible show wpAny _ _ (binaryOp _ (Value.ref _) (Value.ref _)) _ _ _); k_dflt (refine' add_any ?k1zz ?k2zz ?k3zz ?k4zz ?k5zz ?_; (case k1zz => k_asm); (case k2zz => k_asm); (case k3zz => k_dflt k_mem); (case k4zz => k_dflt k_mem); (case k5zz => (simp only [List.length_append, List.length_map, List.length_take, List.length_drop, List.length_cons, List.length_nil, sizeLine_eq]; omega))); intro D9zz h9zz F9zz N9zz l9zz; (try simp only [Int.toNat_natCast, toNat_succ, ← List.map_take, ← List.map_drop, ← List.map_append] at N9zz); (try k_lt l9zz); (try dsimp only); (try k_fold))); trivial)
example : True := by ((k_with "call ref" => (k_here; (with_reducible show wpAny _ _ (call (Value.ref 347) _) _ _ _); k_dflt (refine' fetched_at ?kUzz ?k1zz ?k2zz ?k3zz ?k4zz ?k5zz ?kKzz ?kdzz ?kuzz ?p1zz ?p2zz ?p3zz ?p4zz ?p5zz ?p6zz ?p7zz ?p8zz ?_; (case k1zz => k_asm); (case k2zz => k_asm); (case k3zz => k_asm); (case k4zz => k_asm); (case kUzz => k_updF); (case k5zz => k_asm); (case p7zz => k_dflt k_mem); (case p5zz => assumption); (case p6zz => first | assumption | omega | exact Nat.le_trans (List.length_take_le _ _) (by decide)); (case p8zz => k_ne); (case p1zz => omega); (case p2zz => omega); (case p3zz => omega); (case p4zz => omega); k_extra "u2"; intro x9zz tx9zz ts9zz kj9zz h9zz tk9zz x91zz x92zz F9zz N9zz; (try dsimp only at N9zz); (try dsimp only); (try k_fold)))); trivial)
example : True := by ((k_with "call ref" => (k_here; (with_reducible show wpAny _ _ (call (Value.ref 354) _) _ _ _); k_dflt (refine' pair_at ?kUzz ?k1zz ?k2zz ?k3zz ?k4zz ?k5zz ?kKzz ?kdzz ?kuzz ?p1zz ?p2zz ?p3zz ?p4zz ?p5zz ?p6zz ?p7zz ?p8zz ?_; (case k1zz => k_asm); (case k2zz => k_asm); (case k3zz => k_asm); (case k4zz => k_asm); (case kUzz => k_updF); (case k5zz => k_asm); (case p7zz => k_dflt k_mem); (case p5zz => assumption); (case p6zz => first | assumption | omega | exact Nat.le_trans (List.length_take_le _ _) (by decide)); (case p8zz => k_ne); (case p1zz => omega); (case p2zz => omega); (case p3zz => omega); (case p4zz => omega); k_extra "u2"; intro q9zz lo9zz hi9zz ta9zz tb9zz k9zz ts9zz kj9zz h9zz tk9zz y91zz y92zz y93zz y94zz y95zz F9zz N9zz l9zz; (try k_lt l9zz); (try dsimp only at N9zz); (try dsimp only); (try k_fold)))); trivial)
example : True := by ((k_with "callWith ref" => (k_here; k_dflt (refine' callWith_K ?k1zz ?k2zz ?_; (case k1zz => k_asm); (case k2zz => k_is); k_whole))); trivial)
example : True := by ((k_with "k_all" => ((repeat (refine all_cons ?_ ?_; focus k_ne)); first | assumption | exact List.forall_mem_nil _)); trivial)
example : True := by ((k_with "execs cons" => (k_extra "next")); trivial)
example : True := by ((k_with "k_mem" => (refine' memD ?_; assumption)); trivial)
example : True := by ((k_with "exec For Name Call cons nil" => (k_here; (rename Fr _ _ _ _ => lF'zz); k_dflt (refine' For_turns lF'zz ?_ ?hszz ?hEzz; (case hszz => intro _; with_unfolding_all rfl); (case hEzz => first | assumption | passes_own)))); trivial)
example : True := by ((k_with "exec For Name Name cons nil" => (k_here; (rename Fr _ _ _ _ => lF'zz); k_dflt (refine' For_turns lF'zz ?_ ?hszz ?hEzz; (case hszz => intro _; with_unfolding_all rfl); (case hEzz => first | assumption | passes_own)))); trivial)
example : True := by ((k_with "call builtin:list.append" => (k_here; (with_reducible show wpAny _ _ (call (Value.builtin _) [Value.ref _, _]) _ _ _); k_dflt (refine' append_any ?k1zz ?k2zz ?k3zz ?_ ?zzz; (case k1zz => k_asm); (case k2zz => k_asm); (case k3zz => k_upd); (case zzz => k_extra "room"); k_whole); intro h'zz F'zz N'zz; (try dsimp only); (try dsimp only at N'zz))); trivial)
example : True := by ((k_with "room" => ((simp only [List.length_map, sizeLine_eq]); omega)); trivial)
example : True := by ((k_with "eval ListComp" => (k_dflt (refine' comp2_eval ?aFzz ?a2zz ?a3zz ?a4zz ?a5zz ?b1zz ?b2zz ?b3zz ?b4zz ?a6zz ?_; (case aFzz => k_asm); (case a2zz => with_unfolding_all rfl); (case a3zz => decide); (case a4zz => rfl); (case a5zz => decide); (case b1zz => rfl); (case b2zz => rfl); (case b3zz => decide); (case b4zz => intro _ _; with_unfolding_all rfl); (case a6zz => intro _; with_unfolding_all rfl)))); trivial)
example : True := by ((k_with "exec Assign cons ListComp" => (k_dflt (refine' comp2_assign ?aFzz ?a1zz ?a2zz ?a3zz ?a4zz ?a5zz ?b1zz ?b2zz ?b3zz ?b4zz ?a6zz ?a7zz ?a8zz ?_; (case aFzz => k_asm); (case a1zz => with_unfolding_all rfl); (case a2zz => with_unfolding_all rfl); (case a3zz => decide); (case a4zz => rfl); (case a5zz => decide); (case b1zz => rfl); (case b2zz => rfl); (case b3zz => decide); (case b4zz => intro _ _; with_unfolding_all rfl); (case a6zz => intro _; with_unfolding_all rfl); (case a7zz => rfl); (case a8zz => rfl)))); trivial)
example : True := by ((k_with "call ref" => (k_here; (with_reducible show wpAny _ _ (call (Value.ref 373) _) _ _ _); k_dflt ((refine' sp_use (sp_arr3 _ _ _ _ _ ?p1zz ?p3zz) ?k1zz ?k2zz ?k3zz ?k4zz ?k5zz ?kKzz ?kdzz ?kuzz ?_); k_extra "u1"; k_extra "u2"; (case p3zz => k_dflt k_mem); (case p1zz => omega); k_extra "u3"; obtain ⟨D9zz, k9zz, z9zz, t9zz, r9zz, f9zz, n9zz, u9zz⟩ := o9zz; subst r9zz; subst f9zz; k_extra "u4"))); trivial)
example : True := by ((k_with "call ref" => (k_here; (with_reducible show wpAny _ _ (call (Value.ref 390) _) _ _ _); k_dflt ((refine' sp_useV (sp_sorts_eq _ _ _ _ _ _ _ _ _ _ _ ?p0zz ?p1zz ?p2zz ?p3zz ?p4zz ?p5zz ?p6zz ?p7zz ?p8zz) ?k1zz ?k2zz ?k3zz ?k4zz ?k5zz ?kKzz ?kdzz ?kuzz ?_); k_extra "u1"; (case p2zz => k_dflt k_mem); (case p5zz => k_dflt k_mem); (case p1zz => first | assumption | exact RowsIn.mono (by assumption) (by kcj_all)); (case p0zz => omega); (case p3zz => omega); (case p4zz => first | assumption | exact PairsIn.mono (by assumption) (by kcj_all)); (case p6zz => assumption); (case p7zz => omega); (case p8zz => assumption); k_extra "u2"; intro h9zz tk9zz F9zz N9zz; (try dsimp only); (try k_fold)))); trivial)
theorem stageD {w : World} {body : List Stmt} {scope : Scope} (hdef : LawDef body scope) {p : Program} {loose : List Str} {mean : ExcName → Option Value} {mg mb : Str → Option Value} {h₀ : Heap} {L fa : Addr} {u : Str → Option Value} {s : Shared} {Q : Flow → Shared → Prop} {E : Value → Shared → Prop}
    {ow om oc oj ot jo : Obj} {jar sl x dx pa sa : Addr} {tb td tm : Tok} {ks ka kp n many : Nat} {vs : List Value} {ns : List Int} {es : List DictEntry} {c0 m0 : Option Value} {R : Led} {xs : List VN} {pxs : List (Value × Int × Int)}
    (B : Below callerA h₀ [] h₀) (X : (hd.heap_1 w.params).In h₀) (T : Top p loose mean mg mb h₀)
    (dw : ow.data = .cell (some (.ref x))) (dm : om.data = .cell m0) (dc : oc.data = .cell c0) (dj : oj.data = .cell (some (.ref jar)))
    (hvs : IntsAre vs ns) (hvl : vs.length ≤ 60)
    (o1 : @LT.lt Nat _ 409 L) (o2 : @LT.lt Nat _ (L + 1 + 1 + 1 + 1) jar) (o3 : @LT.lt Nat _ sl jar) (hW : WorldIn R (.ref x) x dx es n tb td)
    (hR : Rest L jar sl x dx oj ow vs ks es n R)
    (hE : PassesOwn (model PW w) (lawA L fa scope) (envOfC (Str.ofString "law") scope L fa (.ref 411)) E)
    (hot : ot.cls ≠ .type "tuple")
    (hm : many = 3 ∨ many = 4) (hP : PairsAt R many pa pxs kp) (hsa : (sa, listOf (xs.map (·.1)).toArray ka) ∈ R) (hxs : NumsIn R xs) (hxl : xs.length = many) (hpw : (unitsL xs).Pairwise (· < ·))
    (F : Fr h₀ L s.heap (putM [("many", .int many tm), ("pairs", .ref pa), ("some", .ref sa)] u)) (N : News h₀ L s.heap (headLed L ot oc om jar jo R))
    (next : ∀ h' tk' ra kr rows tl u', (ra, listOf (rows.map (·.1)).toArray kr) ∈ tl ++ R → RowsAt (tl ++ R) rows → rows.map (·.2) = arr 3 xs → rows ≠ [] → rows.length ≤ 30 → (∀ p ∈ tl, @LT.lt Nat _ jar p.1) → Fr h₀ L h' (putM [("many", .int many tm), ("pairs", .ref pa), ("some", .ref sa), ("rows", .ref ra)] u') → News h₀ L h' (headLed L ot oc om jar jo (tl ++ R)) →
      wpAny (model PW w) (lawA L fa scope) (execs (body.drop 11) (envOfC (Str.ofString "law") scope L fa (.ref 411))) Q E { s with heap := h', toks := tk' }) :
    wpAny (model PW w) (lawA L fa scope) (execs (body.drop 8) (envOfC (Str.ofString "law") scope L fa (.ref 411))) Q E s := by
  obtain ⟨hb9, hs9⟩ := LawDef.at hdef
  clear hdef
  subst hb9
  have q7 : lawScope = Scope.mk _ _ _ _ _ := rfl
  rw [q7] at hs9
  clear q7
  subst hs9
  dsimp only [headLed] at N
  obtain ⟨r1, r2, r3, r4, r5, r6, r7, r8, r9⟩ := hR
  obtain ⟨p1, p2, p3, p4⟩ := hP
  have hx4 : xs.length ≤ 3 + 1 := by omega
  have q3 : lawBody.drop 8 = _ :: _ :: _ :: lawBody.drop 11 := rfl
  rw [q3]
  clear q3
  generalize lawBody.drop 11 = rest9 at next ⊢
  k_with "for" => refine for_rangeG (fun led₀ i m led' => ∃ ba kb brows ra kr rows u, m = putM [("many", .int many tm), ("pairs", .ref pa), ("some", .ref sa), ("rows", .ref ra), ("bits", .ref ba)] u ∧ (ra, listOf (rows.map (·.1)).toArray kr) ∈ led₀ ∧ (∃ t9, RowsAt (t9 ++ [(sa, listOf (xs.map (·.1)).toArray ka)]) rows ∧ ∀ p ∈ t9, p ∈ led₀ ∧ @LT.lt Nat _ jar p.1) ∧ rows.map (·.2) = arr 3 xs ∧ rows.length ≤ 30 ∧ @LT.lt Nat _ jar ra ∧ (∀ p ∈ led₀, p ∈ led') ∧ (ba, listOf (brows.map (·.1)).toArray kb) ∈ led' ∧ RowsAt led' brows ∧ (∀ x ∈ brows, BitsL x.2 ∧ x.2.length = i) ∧ brows.map (fun x => unitsL x.2) = bitsU i) rfl (by k_asm) (by k_asm) (by k_mem) (held ?sm) (held ?hn) (held ?h0) (held ?turn) (held ?dn)
  repeat' (first | (k_unfold; (try dsimp only)) | walk1 | (dsimp only; walk1) | (leave1; try dsimp only))
  case sm => exact range_small (by omega)
  case hn => exact range_size _
  case h0 =>
    refine ⟨_, 0, [(.ref _, [])], _, _, _, _, putM_cons rfl (putM_cons rfl (putM_cons rfl (putM_cons rfl (putM_cons rfl (putM_nil _))))), .tail _ (.tail _ (.tail _ (.tail _ (.head _)))), ⟨_, by assumption, ?ra⟩, by assumption, ?rl, ord_hd (by assumption) (jar, jo) (by k_mem), fun _ h => h, .tail _ (.tail _ (.head _)), ?rb, ?rc, rfl⟩
    case ra =>
      intro p hp
      refine ⟨by k_mem, ?_⟩
      exact ord_tl (by assumption) (jar, jo) (by k_mem) p hp
    case rl =>
      rename _ = arr 3 xs => u9
      have := congrArg List.length u9
      rw [List.length_map] at this
      rw [this]
      exact (arr_sz30 (by rw [hxl]; exact hm)).1
    case rb => exact fun x hx => by rw [List.mem_singleton.mp hx]; exact ⟨_, 0, rfl, .tail _ (.tail _ (.tail _ (.head _)))⟩
    case rc => exact fun x hx => by rw [List.mem_singleton.mp hx]; exact ⟨(fun _ h => nomatch h), rfl⟩
  case turn =>
    intro i tv m₁ led₁ oI I h₁ tk₁ hcI hi hJ hoff Ft Nt hIlt
    obtain ⟨ba, kb, brows, ra, kr, rows, u', rfl, b1, b2, b3, b4, b5, b6, b7, b8, b9, b10⟩ := hJ
    k_with "comp" => refine comp2_list (fun led₀ j ys led => ∃ rows', ys = rows'.map (·.1) ∧ GrownR led₀ led rows' ∧ (∀ x ∈ rows', BitsL x.2 ∧ x.2.length = i + 1) ∧ rows'.map (fun x => unitsL x.2) = ((brows.take j).map fun x => unitsL x.2).flatMap fun r => [r ++ [0], r ++ [100]]) rfl (by k_asm) (by k_asm) (by k_mem) (held ?h0c) (held ?okc) (held ?dnc)
    repeat' (first | (k_unfold; (try dsimp only)) | walk1 | (dsimp only; walk1) | (leave1; try dsimp only))
    case h0c => exact ⟨[], rfl, GrownR.self _, (fun _ h => nomatch h), rfl⟩
    case okc =>
      intro C j v ys led' own oC m₂ h tk E' hv hI Fc Nc nC hm₂
      obtain ⟨rows', rfl, hg, hb, hu⟩ := hI
      obtain ⟨x, hxj, rfl⟩ : ∃ x, brows[j]? = some x ∧ x.1 = v := by simpa using hv
      obtain ⟨rr, kk, er, hr⟩ := b8 x (List.mem_of_getElem? hxj)
      have hr' : (rr, listOf (x.2.map (·.1)).toArray kk) ∈ led' := hg.sub _ (by k_mem)
      obtain ⟨hbx, hbl⟩ := b9 x (List.mem_of_getElem? hxj)
      repeat' (first | (k_unfold; (try dsimp only)) | walk1 | (dsimp only; walk1) | (leave1; try dsimp only))
      have D'zz := True.intro; have h'zz := True.intro; have F'zz := True.intro; have N'zz := True.intro; have l1zz := True.intro -- ok
      rename_i T hT FT NT lT -- ok
      have hTo : ∀ q ∈ led', q.1 < T := fun q hq => ktn_ltOf (l := (C, oC) :: (own ++ led')) lT q (List.mem_cons_of_mem _ (List.mem_append_right _ hq))
      refine in_bits (fun b ys led => (∀ p ∈ hg.base, p ∈ led) ∧ ∃ rows'', ys = rows''.map (·.1) ∧ GrownR hg.base led rows'' ∧ (∀ z ∈ rows'', BitsL z.2 ∧ z.2.length = i + 1) ∧ rows''.map (fun z => unitsL z.2) = rows'.map (fun z => unitsL z.2) ++ (([0, 100] : List Int).take b).map fun c => unitsL x.2 ++ [c]) rfl FT NT (ktn_ltOf (l := (C, oC) :: (own ++ led')) lT) ?sz ?i0 ?iend (held ?tn)
      case sz =>
        have := congrArg List.length hu
        rw [List.length_map, List.length_flatMap] at this
        rw [List.length_map, this]
        simp only [List.map_map]
        have q : ∀ l : List (Value × List VN), (l.map ((fun r : List Int => [r ++ [0], r ++ [100]].length) ∘ fun x => unitsL x.2)).sum = 2 * l.length := by
          intro l; induction l with
          | nil => rfl
          | cons a r ih => rw [List.map_cons, List.sum_cons, ih]; simp; omega
        rw [q]
        have q2 : brows.length = (bitsU i).length := by rw [← b10, List.length_map]
        have q3 := bits_len i (by omega)
        rw [List.length_take]
        omega
      case i0 => exact ⟨fun p hp => .tail _ (hg.sub p hp), rows', rfl, hg.more (tl := [(T, _)]) (fun q hq p hp => by rw [List.mem_singleton.mp hp]; exact hTo q hq), hb, by simp⟩
      case iend =>
        rintro ys' led'' ⟨_, rows'', rfl, hg', hb', hu'⟩
        refine ⟨rows'', rfl, hg', hb', ?_⟩
        rw [hu', hu, show brows.take (j + 1) = brows.take j ++ [x] by rw [List.take_add_one, hxj]; rfl]
        simp
      case tn =>
        intro b v1 ys led own' oC' m₃ h tk E'' hv1 hI1 F N nC hx hy
        obtain ⟨hs1, rows'', rfl, hg', hb', hu'⟩ := hI1
        obtain ⟨c, tc, rfl, hc, htk⟩ := bit_at hv1
        have hr1 : (rr, listOf (x.2.map (·.1)).toArray kk) ∈ led := hg'.sub _ (.tail _ hr)
        rw [er] at hx
        have hxl10 : x.2.length ≤ 10 := by omega
        clear hTo lT NT FT
        repeat' (first | (k_unfold; (try dsimp only)) | walk1 | (dsimp only; walk1) | (leave1; try dsimp only))
        have D9zz := True.intro; have h9zz := True.intro; have F9zz := True.intro; have N9zz := True.intro; have l9zz := True.intro -- ok
        rename_i ln hn6 Fn Nn on D9 h9 F9 N9 l9 -- ok
        have hO9 := ord_two (all := (C, oC') :: (own' ++ led)) (a := (D9, listOf (x.2.map (·.1) ++ [Value.int c tc]).toArray 0)) (b := (ln, listOf #[.int c tc] 0)) l9 on
        refine PStep.intro [_, _] F9 N9 hO9 ⟨fun p hp => List.mem_append_right _ (hs1 p hp), rows'' ++ [(.ref D9, x.2 ++ [(.int c tc, .i c)])], by rw [List.map_append]; rfl, hg'.one (fun q hq p hp => hO9 q (List.mem_cons_of_mem _ (List.mem_append_right _ hq)) p hp) (fun z hz => by rw [List.mem_singleton.mp hz]; exact ⟨D9, 0, rfl, by rw [List.map_append]; exact .head _⟩), fun z hz => ?_, ?_⟩
        · rcases List.mem_append.mp hz with hz | hz
          · exact hb' z hz
          · rw [List.mem_singleton.mp hz]; exact ⟨bitsL_snoc hbx hc, by simp [hbl]⟩
        · rw [List.map_append, hu', htk, List.map_append, List.append_assoc]
          congr 1
          simp [unitsL, Num.units]
    case dnc =>
      intro D ys led' k h' tk hInv Fd Nd hne hlt
      obtain ⟨rows', rfl, ⟨tl', rfl, ho', hr'⟩, hb, hu⟩ := hInv
      repeat' (first | (k_unfold; (try dsimp only)) | walk1 | (dsimp only; walk1) | (leave1; try dsimp only))
      refine FStep.intro (nx := (D, listOf (rows'.map (·.1)).toArray k) :: (tl' ++ led₁)) (by k_asm) (fun p hp => Nd p ?_) (fun p hp => ?_) ⟨D, k, rows', ra, kr, rows, _, putM_cons rfl (putM_cons rfl (putM_cons rfl (putM_cons rfl (putM_cons rfl (putM_nil _))))), b1, b2, b3, b4, b5, fun p hp => .tail _ (List.mem_append_right _ (b6 p hp)), .head _, hr'.mono (fun p hp => .tail _ (List.mem_append_left _ hp)), hb, ?_⟩
      · exact subq (by with_reducible k_extra "sub") hp
      · rcases List.mem_cons.mp hp with rfl | hp
        · exact Nat.ne_of_gt (hlt (I, oI) (.head _))
        · rcases List.mem_append.mp hp with hp | hp
          · exact Nat.ne_of_gt (ho' (I, oI) (.head _) p hp)
          · exact hoff p hp
      · rw [hu, List.length_map, List.take_length, b10, bitsU]
  case dn =>
    intro h' tk m' led' hJ Fd Nd
    obtain ⟨ba, kb, brows, ra, kr, rows, u', rfl, b1, b2, b3, b4, b5, b6, b7, b8, b9, b10⟩ := hJ
    have hR' : ∀ p ∈ R, p ∈ led' := fun p hp => b6 p (by simp [hp])
    have c1 := hR' _ r1
    have c2 := hR' _ r2
    have q1' := hR' _ p1
    have q2' := p2.mono hR'
    obtain ⟨t9, k1, k2⟩ := b2
    have hsa' := hR' _ hsa
    have b2' : RowsAt led' rows := k1.mono fun p hp => by
      rcases List.mem_append.mp hp with hp | hp
      · exact b6 _ (k2 p hp).1
      · rw [List.mem_singleton.mp hp]; exact hsa'
    have b1' := b6 _ b1
    have e1 := rows_in b2' b3 (hxs.mono hR')
    rw [hxl] at e1
    have e2 : RowsIn led' many brows := fun x hx => by
      obtain ⟨rr, kk, e, hm⟩ := b8 x hx
      exact ⟨rr, kk, e, hm, (b9 x hx).1.nums _, (b9 x hx).2⟩
    have e3 := rows_all (pxs.map (·.2)) b3 (by rw [hxl]; exact hm) hpw
    rw [hxl] at e3
    have e4 := bits_all (pxs.map (·.2)) b10
    have e5 : brows.length ≤ 16 := by
      have := congrArg List.length b10
      rw [List.length_map] at this
      rw [this]; exact bits_len _ (by omega)
    generalize ((bitsU many).all (sortsU (pxs.map (·.2)))) = bb at e3 e4
    repeat' (first | (k_unfold; (try dsimp only)) | walk1 | (dsimp only; walk1) | (leave1; try dsimp only))
    all_goals first | exact absurd (by assumption : (bb != bb) = true) (by cases bb <;> decide) | skip
    refine next _ _ ra kr rows (upJ jar led') _ (upJ_mem_app b1' b5) (k1.mono fun p hp => ?_) b3 (fun e => ?_) b4 (upJ_lt _ _) (fr_eq (by k_asm) (putM_cons rfl (putM_cons rfl (putM_cons rfl (putM_cons rfl (putM_nil _)))))) (head_news (by k_asm) fun p hp => b6 p (by
      exact subq (by with_reducible k_extra "sub") hp))
    · rcases List.mem_append.mp hp with hp | hp
      · exact upJ_mem_app (b6 _ (k2 p hp).1) (k2 p hp).2
      · rw [List.mem_singleton.mp hp]; exact List.mem_append_right _ hsa
    · have := (arr_sz30 (xs := xs) (by rw [hxl]; exact hm)).2
      rw [e] at b3
      exact this b3.symm
end Mine
end
section
open PySem PySem.W PyProof.Rows
set_option maxRecDepth 100000
set_option maxHeartbeats 8000000
set_option linter.unusedVariables false
namespace Mine
example : True := by (k_with_none; trivial)
example : True := by ((k_with "u1" => ((case k1zz => k_asm); (case k2zz => k_asm); (case k3zz => k_asm); (case k4zz => k_asm); (case k5zz => k_asm))); trivial)
example : True := by ((k_with "u2" => ((case kKzz => first | exact rfl | assumption); (case kdzz => ktr_room); (case kuzz => ktr_units))); trivial)
example : True := by ((k_with "u3" => (intro r9zz tl9zz h9zz tk9zz F9zz N9zz l9zz o9zz; (try dsimp only at o9zz))); trivial)
example : True := by ((k_with "u4" => ((try simp only [List.nil_append, List.cons_append] at N9zz); (try dsimp only); (try k_fold))); trivial)
example : True := by ((k_with "suf" => (first | apply sub_refl | assumption | (refine sub_tail ?_; k_extra "suf") | (refine sub_app ?_; k_extra "suf") | apply sub_nil | (refine sub_appL ?_; k_extra "suf"))); trivial)
example : True := by ((k_with "in" => (first | assumption | apply in_head | (refine in_tail ?_; k_extra "in") | (refine in_app ?_; k_extra "in") | (refine in_appL ?_; k_extra "in"))); trivial)
example : True := by ((k_with "sub" => (first | k_extra "suf" | (refine sub_cons ?_ ?_; (focus k_extra "in"); k_extra "sub") | (refine sub_both ?_ ?_; (focus k_extra "sub"); k_extra "sub") | (refine sub_trans ?_ (by assumption); k_extra "suf"))); trivial)
example : True := by ((k_with "lt0" => (first | assumption | (refine Mine.pickA (by assumption) ?_; intro hz9zz; first | apply hz9zz.1 | (replace hz9zz := hz9zz.2; first | apply hz9zz.1 | (replace hz9zz := hz9zz.2; first | apply hz9zz.1 | (replace hz9zz := hz9zz.2; first | apply hz9zz.1 | (replace hz9zz := hz9zz.2; first | apply hz9zz.1 | (replace hz9zz := hz9zz.2; first | apply hz9zz.1 | (replace hz9zz := hz9zz.2; first | apply hz9zz.1 | (replace hz9zz := hz9zz.2; first | apply hz9zz.1 | (replace hz9zz := hz9zz.2; first | apply hz9zz.1 | (replace hz9zz := hz9zz.2; first | apply hz9zz.1 | (replace hz9zz := hz9zz.2; first | apply hz9zz.1 | (replace hz9zz := hz9zz.2; first | apply hz9zz.1 | (replace hz9zz := hz9zz.2; first | apply hz9zz.1 | (replace hz9zz := hz9zz.2; first | apply hz9zz.1 | apply hz9zz.2)))))))))))))))); trivial)
example : True := by ((k_with "lt1" => (first | apply Mine.sl1 | apply Mine.sl2 | apply Mine.sl3 | apply Mine.sl4 | exact Mine.dn1 (by assumption) | exact Mine.dn2 (by assumption) | exact Mine.dn3 (by assumption) | exact Mine.dn4 (by assumption) | exact Mine.upx (by assumption) (by assumption) | exact Mine.up4 (by assumption) | (refine Nat.lt_trans ?_ (by assumption); first | k_extra "lt0" | exact Mine.dn1 (by assumption) | exact Mine.dn2 (by assumption) | exact Mine.dn3 (by assumption) | exact Mine.dn4 (by assumption) | (refine Nat.lt_trans ?_ (by assumption); k_extra "lt0")))); trivial)
theorem arr_perm : ∀ (n : Nat) (xs : List VN), ∀ r ∈ arr n xs, r.Perm xs := by
  intro n
  induction n with
  | zero => intro xs r hr; simp [arr] at hr; rw [hr]
  | succ n ih =>
    intro xs r hr
    rw [arr] at hr
    split at hr
    · rw [List.mem_singleton.mp hr]
    · simp only [List.mem_flatMap, List.mem_map, List.mem_range] at hr
      obtain ⟨i, hi, q, hq, rfl⟩ := hr
      rw [List.getD_eq_getElem?_getD, List.getElem?_eq_getElem hi]
      have e : xs = xs.take i ++ xs[i] :: xs.drop (i + 1) := by rw [List.getElem_cons_drop, List.take_append_drop]
      refine ((ih _ q hq).cons _).trans ?_
      show (xs[i] :: (xs.take i ++ xs.drop (i + 1))).Perm xs
      conv => rhs; rw [e]
      exact List.perm_middle.symm
theorem nodup_lt {xs : List VN} (h : (unitsL xs).Pairwise (· < ·)) : NodupU xs := h.imp fun h => Int.ne_of_lt h
/-- an item of the rows -/
theorem row_item {w : World} {A : Around} {E : Value → Shared → Prop} {s : Shared} {h₀ : Heap} {L l : Addr} {value slice : PySem.Expr} {led R : Led} {rows : List (Value × List VN)} {xs : List VN} {kl : Nat} {k : Int} {u : Tok} {Q : Value → Shared → Prop} (N : News h₀ L s.heap led) (hl : (l, listOf (rows.map (·.1)).toArray kl) ∈ led)
    (hr : RowsAt R rows) (e : rows.map (·.2) = arr 3 xs) (hx : NumsIn R xs) (hpw : (unitsL xs).Pairwise (· < ·)) (h0 : 0 ≤ k) (h1 : k < (rows.length : Int)) (hz : rows.length ≤ 30)
    (h : ∀ rr z kz, (rr, listOf (z.map (·.1)).toArray kz) ∈ R → NumsIn R z → z.length = xs.length → NodupU z → (∀ x ∈ z, x ∈ xs) → Q (.ref rr) s)
    (hs : subscripted slice false (.ref l) (.int k u) = operate [.ref l, .int k u] (getItem (.ref l) (.int k u))) :
    wpAny (model PW w) A (subscriptTail value slice (.ref l) (.int k u)) Q E s := by
  have hk : k.toNat < rows.length := by omega
  have hm := List.getElem_mem hk
  obtain ⟨rr, kz, e1, e2⟩ := hr _ hm
  have hm2 : (rows[k.toNat]).2 ∈ arr 3 xs := by rw [← e]; exact List.mem_map_of_mem hm
  refine item_litK (vs := rows.map (·.1)) (isListOf N hl) h0 (by omega) (v := .ref rr) (by rw [List.getElem?_map, List.getElem?_eq_getElem hk]; exact congrArg some e1) ?_ hs
  exact h rr _ kz e2 (fun y hy => hx y (arr_mem _ _ _ hm2 y hy)) (arr_len _ _ _ hm2) (nodup_perm (nodup_lt hpw) (arr_perm _ _ _ hm2)) (arr_mem _ _ _ hm2)
example : True := by ((k_with "LeaveK" => (k_dflt (refine' leaveK_ ?k1zz ?k2zz ?_; (case k1zz => k_asm); (case k2zz => k_asm); k_whole); intro kFzz kNzz; (try dsimp only))); trivial)
example : True := by ((k_with "k_mem" => (first | assumption | (refine' List.mem_append_right _ ?_; k_mem) | (refine' List.mem_append_left _ ?_; k_mem))); trivial)
example : True := by ((k_with "kcj_all" => (k_whole; first | (refine fun pzz hpzz => List.mem_append_right _ ?_; assumption) | (intro pzz hpzz; (simp only [List.mem_append, List.mem_cons, List.not_mem_nil, or_false, false_or] at hpzz ⊢); first | assumption | (simp only [hpzz, true_or, or_true]; done) | grind))); trivial)
example : True := by ((k_with "kcj_all" => (k_whole; with_reducible k_extra "sub")); trivial)
example : True := by ((k_with "newTuple" => (k_here; k_dflt (refine' kup_newTuple ?Fzz ?Nzz ?_ ?zzz; (case Fzz => k_asm); (case Nzz => k_asm); (case zzz => kmk_size)); intro D'zz h'zz F'zz N'zz l1zz; (try k_lt l1zz); (try k_sweep))); trivial)
example : True := by ((k_with "binaryOp Pow int int" => ((with_reducible refine pow_int_small ?kb1zz ?kb2zz ?kb3zz ?_); (case kb1zz => omega); (case kb2zz => omega); (case kb3zz => decide))); trivial)
example : True := by ((k_with "subscriptTail" => (k_here; (with_reducible show wpAny _ _ (subscriptTail _ _ (Value.ref _) (Value.int _ _)) _ _ _); (with_unfolding_all refine' item_litK ?k1zz ?k2zz ?k3zz ?k4zz ?_ ?k6zz; (case k1zz => exact isListOf (by k_asm) (by k_mem)); (case k2zz => first | decide | omega); (case k3zz => first | decide | omega); (case k4zz => first | rfl | assumption); (case k6zz => with_unfolding_all rfl); k_whole))); trivial)
example : True := by ((k_with "subscriptTail Name Name ref int" => (k_here; (with_reducible show wpAny _ _ (subscriptTail _ _ (Value.ref _) (Value.int _ _)) _ _ _); (with_unfolding_all refine' item_litK ?k1zz ?k2zz ?k3zz ?k4zz ?_ ?k6zz; (case k1zz => exact isListOf (by k_asm) (by k_mem)); (case k2zz => first | decide | omega); (case k3zz => first | decide | omega); (case k4zz => first | rfl | assumption); (case k6zz => with_unfolding_all rfl); k_whole))); trivial)
example : True := by ((k_with "subscriptTail Name Constant ref int" => (k_here; (with_reducible show wpAny _ _ (subscriptTail _ _ (Value.ref _) (Value.int _ _)) _ _ _); (with_unfolding_all refine' item_litK ?k1zz ?k2zz ?k3zz ?k4zz ?_ ?k6zz; (case k1zz => exact isListOf (by k_asm) (by k_mem)); (case k2zz => first | decide | omega); (case k3zz => first | decide | omega); (case k4zz => first | rfl | assumption); (case k6zz => with_unfolding_all rfl); k_whole))); trivial)
example : True := by ((k_with "call ref" => (k_here; (with_reducible show wpAny _ _ (call (Value.ref 255) _) _ _ _); k_dflt ((refine' sp_use (sp_reckoned _ _ _ _ _ _ _ _ _ ?p1zz ?p2zz ?p3zz ?p4zz ?p5zz) ?k1zz ?k2zz ?k3zz ?k4zz ?k5zz ?kKzz ?kdzz ?kuzz ?_); k_extra "u1"; k_extra "u2"; (case p4zz => first | exact numIn_i | exact numIn_d (by k_mem) | exact NumIn.mono (by assumption) (by kcj_all) | assumption); (case p5zz => first | exact numIn_i | exact numIn_d (by k_mem) | exact NumIn.mono (by assumption) (by kcj_all) | assumption); (case p1zz => assumption); (case p2zz => assumption); (case p3zz => first | assumption | k_extra "sum"); k_extra "u3"; skip; k_extra "u4"))); trivial)
example : True := by ((k_with "getAttr ref" => (k_here; k_dflt (refine' get_own ?k1zz ?k2zz ?k3zz ?k4zz ?k5zz ?k6zz ?k7zz ?k8zz ?k9zz ?_; (case k1zz => k_asm); (case k2zz => k_asm); (case k3zz => k_inst); (case k4zz => k_is); (case k5zz => k_is); (case k6zz => k_is); (case k7zz => k_is); (case k8zz => assumption); (case k9zz => exact rfl); k_whole))); trivial)
example : True := by ((k_with "call ref" => (k_here; (with_reducible show wpAny _ _ (call (Value.ref 262) _) _ _ _); k_dflt ((refine' sp_use (sp_negated _ _ _ _ _ _ ?p1zz ?p2zz) ?k1zz ?k2zz ?k3zz ?k4zz ?k5zz ?kKzz ?kdzz ?kuzz ?_); k_extra "u1"; k_extra "u2"; (case p2zz => first | assumption | exact NumIn.mono (by assumption) (by kcj_all)); (case p1zz => assumption); k_extra "u3"; skip; k_extra "u4"))); trivial)
example : True := by ((k_with "call ref" => (k_here; (with_reducible show wpAny _ _ (call (Value.ref 368) _) _ _ _); k_dflt ((refine' sp_useI (sp_units _ _ _ _ ?p1zz ?p2zz) ?k1zz ?k2zz ?k3zz ?k4zz ?k5zz ?kKzz ?kdzz ?kuzz ?_); k_extra "u1"; k_extra "u2"; (case p2zz => first | assumption | exact NumIn.mono (by assumption) (by kcj_all)); (case p1zz => assumption); intro h9zz tk9zz F9zz t9zz N9zz; (try dsimp only); (try k_fold)))); trivial)
example : True := by ((k_with "call ref" => (k_here; (with_reducible show wpAny _ _ (call (Value.ref 361) _) _ _ _); k_dflt ((refine' sp_use (sp_law_number _ _ _ _ _ ?p1zz ?p2zz) ?k1zz ?k2zz ?k3zz ?k4zz ?k5zz ?kKzz ?kdzz ?kuzz ?_); k_extra "u1"; k_extra "u2"; (case p1zz => omega); (case p2zz => omega); k_extra "u3"; skip; k_extra "u4"))); trivial)
example : True := by ((k_with "call ref" => (k_here; (with_reducible show wpAny _ _ (call (Value.ref 311) _) _ _ _); k_dflt ((refine' sp_useV (sp_number_min _ _ _ _ _ _ _ _ _ ?p1zz ?p2zz ?p3zz ?p4zz ?p5zz) ?k1zz ?k2zz ?k3zz ?k4zz ?k5zz ?kKzz ?kdzz ?kuzz ?_); k_extra "u1"; k_extra "u2"; (case p5zz => k_dflt k_mem); (case p3zz => first | assumption | exact NumIn.mono (by assumption) (by kcj_all)); (case p4zz => first | assumption | exact NumIn.mono (by assumption) (by kcj_all)); (case p1zz => assumption); (case p2zz => assumption); intro h9zz tk9zz F9zz N9zz; (try dsimp only); (try k_fold)))); trivial)
example : True := by ((k_with "call ref" => (k_here; (with_reducible show wpAny _ _ (call (Value.ref 318) _) _ _ _); k_dflt ((refine' sp_useV (sp_number_max _ _ _ _ _ _ _ _ _ ?p1zz ?p2zz ?p3zz ?p4zz ?p5zz) ?k1zz ?k2zz ?k3zz ?k4zz ?k5zz ?kKzz ?kdzz ?kuzz ?_); k_extra "u1"; k_extra "u2"; (case p5zz => k_dflt k_mem); (case p3zz => first | assumption | exact NumIn.mono (by assumption) (by kcj_all)); (case p4zz => first | assumption | exact NumIn.mono (by assumption) (by kcj_all)); (case p1zz => assumption); (case p2zz => assumption); intro h9zz tk9zz F9zz N9zz; (try dsimp only); (try k_fold)))); trivial)
example : True := by ((k_with "call ref" => (k_here; (with_reducible show wpAny _ _ (call (Value.ref 385) _) _ _ _); k_dflt ((refine' sp_useV (sp_law_rises _ _ _ _ _ ?p1zz ?p2zz ?p3zz) ?k1zz ?k2zz ?k3zz ?k4zz ?k5zz ?kKzz ?kdzz ?kuzz ?_); k_extra "u1"; k_extra "u2"; (case p2zz => k_dflt k_mem); (case p1zz => first | assumption | exact NumsIn.mono (by assumption) (by kcj_all) | k_extra "nums"); (case p3zz => first | assumption | k_extra "len"); intro h9zz tk9zz F9zz N9zz; (try dsimp only); (try k_fold)))); trivial)
example : True := by ((k_with "call ref" => (k_here; (with_reducible show wpAny _ _ (call (Value.ref 380) _) _ _ _); k_dflt ((refine' sp_useL (sp_law_led _ _ _ _ _ _ _ _ _ ?p1zz ?p2zz ?p3zz ?p4zz ?p5zz ?p6zz ?p7zz) ?k1zz ?k2zz ?k3zz ?k4zz ?k5zz ?kKzz ?kdzz ?kuzz ?_); k_extra "u1"; k_extra "u2"; (case p2zz => k_dflt k_mem); (case p5zz => k_dflt k_mem); (case p1zz => first | assumption | exact NumsIn.mono (by assumption) (by kcj_all) | k_extra "nums"); (case p3zz => first | assumption | k_extra "len"); (case p4zz => first | assumption | exact PairsIn.mono (by assumption) (by kcj_all)); (case p6zz => first | assumption | k_extra "pok"); (case p7zz => first | assumption | k_extra "len"); intro h9zz tk9zz F9zz D9zz k9zz N9zz l9zz; (try dsimp only); (try k_fold)))); trivial)
example : True := by ((k_with "pyIter ref" => (first | k_extra "comp" | k_extra "for")); trivial)
example : True := by ((k_with "eval Name" => ((with_reducible show wpAny _ _ (eval _ (compEnvC _ _ _ _)) _ _ _); k_dflt (refine' comp_local ?Nzz ?hmzz ?nCzz ?hvzz ?_ ?azz ?bzz ?czz; (case bzz => exact rfl); (case azz => exact rfl); (case Nzz => k_asm); (case nCzz => assumption); (case hmzz => k_dflt k_mem); (case hvzz => assumption); (case czz => decide)))); trivial)
example : True := by ((k_with "eval Name" => ((with_reducible show wpAny _ _ (eval _ (compEnvC _ _ _ _)) _ _ _); k_dflt (refine' comp_cell ?Nzz ?hmzz ?hd'zz ?_ ?azz ?bzz ?ezz ?czz; (case bzz => exact rfl); (case azz => exact rfl); (case ezz => exact rfl); (case Nzz => k_asm); (case hmzz => k_dflt k_mem); (case hd'zz => assumption); (case czz => decide)))); trivial)
example : True := by ((k_with "exec Assign cons ListComp" => (k_dflt (refine' comp_assign ?aFzz ?a1zz ?a2zz ?a3zz ?a4zz ?a5zz ?a6zz ?a7zz ?a8zz ?_; (case aFzz => k_asm); (case a1zz => with_unfolding_all rfl); (case a2zz => with_unfolding_all rfl); (case a3zz => decide); (case a4zz => rfl); (case a5zz => decide); (case a6zz => intro _; with_unfolding_all rfl); (case a7zz => rfl); (case a8zz => rfl)))); trivial)
example : True := by ((k_with "eval ListComp" => (k_dflt (refine' comp_eval ?aFzz ?a2zz ?a3zz ?a4zz ?a5zz ?a6zz ?_; (case aFzz => k_asm); (case a2zz => with_unfolding_all rfl); (case a3zz => decide); (case a4zz => rfl); (case a5zz => decide); (case a6zz => intro _; with_unfolding_all rfl)))); trivial)
example : True := by ((k_with "call builtin:sorted" => (k_here; (with_reducible show wpAny _ _ (call (Value.builtin _) [Value.ref _]) _ _ _); (with_unfolding_all refine' kso_sorted ?k1zz ?k2zz ?k3zz ?k4zz ?k5zz ?_; (case k1zz => k_asm); (case k2zz => k_asm); (case k3zz => exact isListOf (by k_asm) (by k_mem)); (case k4zz => assumption); (case k5zz => assumption); k_whole); intro D'zz v'zz n'zz c'zz h'zz F'zz N'zz l1zz i'zz e'zz p'zz o'zz b'zz; (try k_lt l1zz); (try dsimp only))); trivial)
example : True := by ((k_with "compareOp Eq ref ref" => (k_here; (with_reducible show wpAny _ _ (compareOp CmpOp.Eq (Value.ref _) (Value.ref _)) _ _ _); k_dflt (refine' eq_intsK ?k1zz ?k2zz ?k3zz ?k4zz ?k5zz ?_; (case k1zz => exact isListOf (by k_asm) (by k_mem)); (case k3zz => exact isListOf (by k_asm) (by k_mem)); (case k2zz => assumption); (case k4zz => assumption); (case k5zz => ktr_units); k_whole))); trivial)
example : True := by ((k_with "exec For Tuple Name cons nil" => (k_here; (rename Fr _ _ _ _ => lF'zz); k_dflt (refine' For_invTF lF'zz ?_ ?hszz; (case hszz => intro _; with_unfolding_all rfl)))); trivial)
example : True := by ((k_with "k_all" => (assumption)); trivial)
example : True := by ((k_with "setItem ref int" => (k_here; k_dflt (refine' set_any ?k1zz ?k2zz ?k3zz ?k4zz ?k5zz ?k6zz ?_; (case k1zz => k_asm); (case k2zz => k_asm); (case k3zz => k_upd); (case k4zz => first | assumption | omega); (case k5zz => first | assumption | (simp only [List.length_set]; first | assumption | omega)); (case k6zz => omega); k_whole); intro h'zz F'zz N'zz; (try dsimp only))); trivial)
example : True := by ((k_with "subscriptTail Name Slice ref ref" => (k_here; k_dflt (refine' kmk_slice ?Fzz ?Nzz ?lzz ?pzz ?qzz ?_ ?szz ?tzz ?zzz; (case Fzz => k_asm); (case Nzz => k_asm); (case lzz => exact isListOf (by k_asm) (by k_mem)); (case pzz => kmk_part); (case qzz => kmk_part); (case szz => with_unfolding_all rfl); (case tzz => kmk_pure); (case zzz => (simp only [List.size_toArray, List.length_map, sizeLine_eq]; omega))); intro D'zz h'zz F'zz N'zz l1zz; (simp (disch := omega) only [pick_all, pick_upto, pick_from] at N'zz); (try k_lt l1zz); (try dsimp only))); trivial)
example : True := by ((k_with "len" => (first | assumption | omega | (rw [ledF_len]; omega))); trivial)
example : True := by ((k_with "pok" => (first | assumption | exact pok_of (by assumption) (by first | assumption | rw [ledF_len] | (rw [ledF_len]; assumption)))); trivial)
example : True := by ((k_with "nums" => (first | exact NumsIn.led (by assumption) _ | exact NumsIn.mono (NumsIn.led (by assumption) _) (by kcj_all))); trivial)
example : True := by ((k_with "call builtin:len" => (k_here; (with_reducible show wpAny _ _ (call (Value.builtin "len") [Value.ref _]) _ _ _); k_dflt (refine' len_any ?k1zz ?k2zz ?k3zz ?k4zz ?_; (case k1zz => k_asm); (case k2zz => k_dflt k_mem); (case k3zz => first | exact List.length_map .. | rfl); (case k4zz => first | omega | decide); k_whole))); trivial)
example : True := by ((k_with "call type:range" => (k_here; k_dflt (refine' range_any ?k1zz ?k2zz ?_; (case k1zz => k_asm); (case k2zz => k_asm)); intro D9zz h9zz ta9zz tb9zz tk9zz F9zz N9zz l9zz; (try k_lt l9zz); (try dsimp only); (try k_fold))); trivial)
example : True := by ((k_with "binaryOp Add ref ref" => (k_here; (with_reducible show wpAny _ _ (binaryOp _ (Value.ref _) (Value.ref _)) _ _ _); k_dflt (refine' add_any ?k1zz ?k2zz ?k3zz ?k4zz ?k5zz ?_; (case k1zz => k_asm); (case k2zz => k_asm); (case k3zz => k_dflt k_mem); (case k4zz => k_dflt k_mem); (case k5zz => (simp only [List.length_append, List.length_map, List.length_take, List.length_drop, List.length_cons, List.length_nil, sizeLine_eq]; omega))); intro D9zz h9zz F9zz N9zz l9zz; (try simp only [Int.toNat_natCast, toNat_succ, ← List.map_take, ← List.map_drop, ← List.map_append] at N9zz); (try k_lt l9zz); (try dsimp only); (try k_fold))); trivial)
example : True := by ((k_with "call ref" => (k_here; (with_reducible show wpAny _ _ (call (Value.ref 347) _) _ _ _); k_dflt (refine' fetched_at ?kUzz ?k1zz ?k2zz ?k3zz ?k4zz ?k5zz ?kKzz ?kdzz ?kuzz ?p1zz ?p2zz ?p3zz ?p4zz ?p5zz ?p6zz ?p7zz ?p8zz ?_; (case k1zz => k_asm); (case k2zz => k_asm); (case k3zz => k_asm); (case k4zz => k_asm); (case kUzz => k_updF); (case k5zz => k_asm); (case p7zz => k_dflt k_mem); (case p5zz => assumption); (case p6zz => first | assumption | omega | exact Nat.le_trans (List.length_take_le _ _) (by decide)); (case p8zz => k_ne); (case p1zz => omega); (case p2zz => omega); (case p3zz => omega); (case p4zz => omega); k_extra "u2"; intro x9zz tx9zz ts9zz kj9zz h9zz tk9zz x91zz x92zz F9zz N9zz; (try dsimp only at N9zz); (try dsimp only); (try k_fold)))); trivial)
example : True := by ((k_with "call ref" => (k_here; (with_reducible show wpAny _ _ (call (Value.ref 354) _) _ _ _); k_dflt (refine' pair_at ?kUzz ?k1zz ?k2zz ?k3zz ?k4zz ?k5zz ?kKzz ?kdzz ?kuzz ?p1zz ?p2zz ?p3zz ?p4zz ?p5zz ?p6zz ?p7zz ?p8zz ?_; (case k1zz => k_asm); (case k2zz => k_asm); (case k3zz => k_asm); (case k4zz => k_asm); (case kUzz => k_updF); (case k5zz => k_asm); (case p7zz => k_dflt k_mem); (case p5zz => assumption); (case p6zz => first | assumption | omega | exact Nat.le_trans (List.length_take_le _ _) (by decide)); (case p8zz => k_ne); (case p1zz => omega); (case p2zz => omega); (case p3zz => omega); (case p4zz => omega); k_extra "u2"; intro q9zz lo9zz hi9zz ta9zz tb9zz k9zz ts9zz kj9zz h9zz tk9zz y91zz y92zz y93zz y94zz y95zz F9zz N9zz l9zz; (try k_lt l9zz); (try dsimp only at N9zz); (try dsimp only); (try k_fold)))); trivial)
example : True := by ((k_with "callWith ref" => (k_here; k_dflt (refine' callWith_K ?k1zz ?k2zz ?_; (case k1zz => k_asm); (case k2zz => k_is); k_whole))); trivial)
example : True := by ((k_with "k_all" => ((repeat (refine all_cons ?_ ?_; focus k_ne)); first | assumption | exact List.forall_mem_nil _)); trivial)
example : True := by ((k_with "execs cons" => (k_extra "next")); trivial)
example : True := by ((k_with "k_mem" => (refine' memD ?_; assumption)); trivial)
example : True := by ((k_with "subscriptTail Name Call ref int" => (k_here; (with_reducible show wpAny _ _ (subscriptTail _ _ (Value.ref _) (Value.int _ _)) _ _ _); k_dflt ((refine' row_item ?Nzz ?hlzz ?hrzz ?ezz ?hxzz ?hpwzz ?h0zz ?h1zz ?hzzz ?_ ?hszz); (case Nzz => k_asm); (case hlzz => k_dflt k_mem); (case hrzz => assumption); (case ezz => assumption); (case hxzz => assumption); (case hpwzz => assumption); (case h0zz => assumption); (case h1zz => assumption); (case hzzz => assumption); (case hszz => with_unfolding_all rfl); (intro rr9zz z9zz kz9zz m9zz n9zz l9zz d9zz s9zz); (try k_fold)))); trivial)
example : True := by ((k_with "call ref" => (k_here; (with_reducible show wpAny _ _ (call (Value.ref 395) _) _ _ _); k_dflt ((refine' spG_use (sp_law_is_kept _ _ _ _ _ _ _ _ _ ?p1zz ?p2zz ?p3zz ?p4zz ?p5zz ?p6zz ?p7zz ?p8zz) ?k1zz ?k2zz ?k3zz ?k4zz ?k5zz ?kKzz ?kdzz ?kuzz ?_); k_extra "u1"; (case p2zz => k_dflt k_mem); (case p5zz => k_dflt k_mem); (case p1zz => first | assumption | exact NumsIn.mono (by assumption) (by kcj_all)); (case p3zz => omega); (case p4zz => first | assumption | exact PairsIn.mono (by assumption) (by kcj_all)); (case p6zz => exact pok_of (by assumption) (by omega)); (case p7zz => assumption); (case p8zz => assumption); k_extra "u2"; intro r9zz tl9zz h9zz tk9zz F9zz N9zz l9zz o9zz; obtain ⟨e9zz, f9zz⟩ := o9zz; subst e9zz; subst f9zz; k_extra "u4"))); trivial)
theorem stageE {w : World} {body : List Stmt} {scope : Scope} (hdef : LawDef body scope) {p : Program} {loose : List Str} {mean : ExcName → Option Value} {mg mb : Str → Option Value} {h₀ : Heap} {L fa : Addr} {u : Str → Option Value} {s : Shared} {Q : Flow → Shared → Prop} {E : Value → Shared → Prop}
    {ow om oc oj ot : Obj} {jar sl x dx pa sa ra : Addr} {tb td tm tj : Tok} {ks kr kp n many kj : Nat} {vs : List Value} {ns : List Int} {es : List DictEntry} {c0 m0 : Option Value} {R : Led} {xs : List VN} {pxs : List (Value × Int × Int)} {rows : List (Value × List VN)} {sp : Int}
    (B : Below callerA h₀ [] h₀) (X : (hd.heap_1 w.params).In h₀) (T : Top p loose mean mg mb h₀)
    (dw : ow.data = .cell (some (.ref x))) (dm : om.data = .cell m0) (dc : oc.data = .cell c0) (dj : oj.data = .cell (some (.ref jar)))
    (hvs : IntsAre vs ns) (hvl : vs.length ≤ 60)
    (o1 : @LT.lt Nat _ 409 L) (o2 : @LT.lt Nat _ (L + 1 + 1 + 1 + 1) jar) (o3 : @LT.lt Nat _ sl jar) (hW : WorldIn R (.ref x) x dx es n tb td)
    (hR : Rest L jar sl x dx oj ow vs ks es n R)
    (hE : PassesOwn (model PW w) (lawA L fa scope) (envOfC (Str.ofString "law") scope L fa (.ref 411)) E)
    (hot : ot.cls ≠ .type "tuple")
    (hm : many = 3 ∨ many = 4) (hP : PairsAt R many pa pxs kp) (hxs : NumsIn R xs) (hxl : xs.length = many) (hpw : (unitsL xs).Pairwise (· < ·))
    (hra : (ra, listOf (rows.map (·.1)).toArray kr) ∈ R) (hrows : RowsAt R rows) (hre : rows.map (·.2) = arr 3 xs) (hrn : rows ≠ []) (hrl : rows.length ≤ 30) (hs0 : 0 ≤ sp) (hs1 : sp ≤ 40)
    (F : Fr h₀ L s.heap (putM [("many", .int many tm), ("pairs", .ref pa), ("some", .ref sa), ("rows", .ref ra)] u)) (N : News h₀ L s.heap (headLed L ot oc om jar (jarO sl sp tj kj) R))
    (next : ∀ h' tk' wh tw om' v NM rr z kz tl jo' u', 0 ≤ wh → wh < 5 → om'.data = .cell (some v) → NumIn (tl ++ R) v NM → NM.Ok → (-2500 ≤ NM.units ∧ NM.units ≤ 2500) → (rr, listOf (z.map (·.1)).toArray kz) ∈ R → NumsIn R z → z.length = xs.length → NodupU z → (∀ x ∈ z, x ∈ xs) → (∀ p ∈ tl, @LT.lt Nat _ jar p.1) → Fr h₀ L h' (putM [("many", .int many tm), ("pairs", .ref pa), ("some", .ref sa), ("which", .int wh tw), ("row", .ref rr)] u') → News h₀ L h' (headLed L ot oc om' jar jo' (tl ++ R)) →
      wpAny (model PW w) (lawA L fa scope) (execs (body.drop 14) (envOfC (Str.ofString "law") scope L fa (.ref 411))) Q E { s with heap := h', toks := tk' }) :
    wpAny (model PW w) (lawA L fa scope) (execs (body.drop 11) (envOfC (Str.ofString "law") scope L fa (.ref 411))) Q E s := by
  obtain ⟨hb9, hs9⟩ := LawDef.at hdef
  clear hdef
  subst hb9
  have q7 : lawScope = Scope.mk _ _ _ _ _ := rfl
  rw [q7] at hs9
  clear q7
  subst hs9
  dsimp only [headLed] at N
  obtain ⟨r1, r2, r3, r4, r5, r6, r7, r8, r9⟩ := hR
  obtain ⟨p1, p2, p3, p4⟩ := hP
  have hr1 : 1 ≤ rows.length := List.length_pos_iff.mpr hrn
  have q3 : lawBody.drop 11 = _ :: _ :: _ :: lawBody.drop 14 := rfl
  rw [q3]
  clear q3
  generalize lawBody.drop 14 = rest9 at next ⊢
  repeat' (first | (k_unfold; (try dsimp only)) | walk1 | (dsimp only; walk1) | (leave1; try dsimp only))
  have r9zz := True.intro; have tl9zz := True.intro; have h9zz := True.intro; have tk9zz := True.intro; have l9zz := True.intro; have o9zz := True.intro; have D'zz := True.intro; have h'zz := True.intro; have l1zz := True.intro -- ok
  rename_i r9' tl9 h9 tk9 l9 o9 D9 hx1 l1 hx2 hx3 F9 N9 -- ok
  obtain ⟨NM, n1, n2, n3⟩ := o9
  have N3 := news_push (tl := (D9, _) :: tl9) (l := [_, _, _, _]) N9
  simp only [List.cons_append, List.nil_append] at N3
  have hl9 : ∀ p ∈ tl9, @LT.lt Nat _ jar p.1 := fun p hp => l9 (jar, _) (by k_mem) p hp
  have hD9 : @LT.lt Nat _ jar D9 := l1 (jar, _) (by k_mem)
  have hmR : ∀ p ∈ tl9 ++ R, p.1 ≠ L + 1 + 1 + 1 := all_app (fun p hp => Nat.ne_of_gt (by have := hl9 p hp; show @LT.lt Nat _ _ _; omega)) r8
  have hjR : ∀ p ∈ tl9 ++ R, p.1 ≠ jar := all_app (fun p hp => Nat.ne_of_gt (hl9 p hp)) r9
  have hnn : NumIn (tl9 ++ R) r9' NM := numIn_drop (od_both (od_sub (by with_reducible k_extra "suf")) (od_cons (.inr (noTup_cls hot)) (od_cons (.inr (noTup_cell dc)) (od_cons (.inr (noTup_cell dm)) (od_cons (.inr noTup_list) (od_sub (by with_reducible k_extra "suf"))))))) n1
  clear N9 l9 n1 l1
  repeat' (first | (k_unfold; (try dsimp only)) | walk1 | (dsimp only; walk1) | (leave1; try dsimp only))
  refine' next _ _ _ _ _ r9' NM _ _ _ ((D9, _) :: tl9) _ _ ?w1 ?w2 ?w3 (hnn.mono (fun p hp => List.mem_cons_of_mem _ hp)) n2 ⟨by omega, by omega⟩ ?w4 ?w5 ?w6 ?w7 ?w8 ?w9 (fr_eq (by k_asm) (putM_cons rfl (putM_cons rfl (putM_cons rfl (putM_cons rfl (putM_cons rfl (putM_nil _))))))) (by k_asm)
  case w4 => assumption
  case w9 =>
    intro p hp
    rcases List.mem_cons.mp hp with rfl | hp
    · exact hD9
    · exact hl9 p hp
  all_goals assumption
end Mine
end
section
open PySem PySem.W PyProof.Rows
set_option maxRecDepth 100000
set_option maxHeartbeats 8000000
set_option linter.unusedVariables false
namespace Mine
example : True := by (k_with_none; trivial)
example : True := by ((k_with "u1" => ((case k1zz => k_asm); (case k2zz => k_asm); (case k3zz => k_asm); (case k4zz => k_asm); (case k5zz => k_asm))); trivial)
example : True := by ((k_with "u2" => ((case kKzz => first | exact rfl | assumption); (case kdzz => ktr_room); (case kuzz => ktr_units))); trivial)
example : True := by ((k_with "u3" => (intro r9zz tl9zz h9zz tk9zz F9zz N9zz l9zz o9zz; (try dsimp only at o9zz))); trivial)
example : True := by ((k_with "u4" => ((try simp only [List.nil_append, List.cons_append] at N9zz); (try dsimp only); (try k_fold))); trivial)
example : True := by ((k_with "suf" => (first | apply sub_refl | assumption | (refine sub_tail ?_; k_extra "suf") | (refine sub_app ?_; k_extra "suf") | apply sub_nil | (refine sub_appL ?_; k_extra "suf"))); trivial)
example : True := by ((k_with "in" => (first | assumption | apply in_head | (refine in_tail ?_; k_extra "in") | (refine in_app ?_; k_extra "in") | (refine in_appL ?_; k_extra "in"))); trivial)
example : True := by ((k_with "sub" => (first | k_extra "suf" | (refine sub_cons ?_ ?_; (focus k_extra "in"); k_extra "sub") | (refine sub_both ?_ ?_; (focus k_extra "sub"); k_extra "sub") | (refine sub_trans ?_ (by assumption); k_extra "suf"))); trivial)
example : True := by ((k_with "lt0" => (first | assumption | (refine Mine.pickA (by assumption) ?_; intro hz9zz; first | apply hz9zz.1 | (replace hz9zz := hz9zz.2; first | apply hz9zz.1 | (replace hz9zz := hz9zz.2; first | apply hz9zz.1 | (replace hz9zz := hz9zz.2; first | apply hz9zz.1 | (replace hz9zz := hz9zz.2; first | apply hz9zz.1 | (replace hz9zz := hz9zz.2; first | apply hz9zz.1 | (replace hz9zz := hz9zz.2; first | apply hz9zz.1 | (replace hz9zz := hz9zz.2; first | apply hz9zz.1 | (replace hz9zz := hz9zz.2; first | apply hz9zz.1 | (replace hz9zz := hz9zz.2; first | apply hz9zz.1 | (replace hz9zz := hz9zz.2; first | apply hz9zz.1 | (replace hz9zz := hz9zz.2; first | apply hz9zz.1 | (replace hz9zz := hz9zz.2; first | apply hz9zz.1 | (replace hz9zz := hz9zz.2; first | apply hz9zz.1 | apply hz9zz.2)))))))))))))))); trivial)
example : True := by ((k_with "lt1" => (first | apply Mine.sl1 | apply Mine.sl2 | apply Mine.sl3 | apply Mine.sl4 | exact Mine.dn1 (by assumption) | exact Mine.dn2 (by assumption) | exact Mine.dn3 (by assumption) | exact Mine.dn4 (by assumption) | exact Mine.upx (by assumption) (by assumption) | exact Mine.up4 (by assumption) | (refine Nat.lt_trans ?_ (by assumption); first | k_extra "lt0" | exact Mine.dn1 (by assumption) | exact Mine.dn2 (by assumption) | exact Mine.dn3 (by assumption) | exact Mine.dn4 (by assumption) | (refine Nat.lt_trans ?_ (by assumption); k_extra "lt0")))); trivial)
def CutJ (L : Addr) (om : Obj) (jar : Addr) (jo : Obj) (R : Led) (lv : List (String × Value)) (i : Nat) (m : Str → Option Value) (led' : Led) : Prop := ∃ ot' oc' cv tl u, m = putM lv u ∧ led' = tl ++ headLed L ot' oc' om jar jo R ∧ oc'.data = .cell cv ∧ (∀ p ∈ tl, @LT.lt Nat _ jar p.1) ∧ (i = 0 ∧ ot' = tabObj #[] ∨ ∃ c' od wv t, ot' = tabObj #[rawInt 295, rawInt 0, .ref c'] ∧ (c', od) ∈ tl ∧ od.data = .fields wv ∧ wv[1]? = some (.str (Str.ofString "law.<locals>.<lambda>") t))
theorem cut_end {h₀ h : Heap} {L jar I c' : Addr} {om jo ot ot0 oc oc0 od : Obj} {R own tl tx : Led} {lv : List (String × Value)} {i tk : Nat} {u : Str → Option Value} {s₁ : Shared} {cv : Option Value} {wv : Array Value} {t : Tok} (o1 : @LT.lt Nat _ 409 L) (o2 : @LT.lt Nat _ (L + 1 + 1 + 1 + 1) jar)
    (F : Fr h₀ L h (putM lv u)) (N : News h₀ L h (tx ++ (409, ot) :: (L + 1 + 1, oc) :: (L + 1 + 1 + 1, om) :: (jar, jo) :: (own ++ (tl ++ R)))) (hd : oc.data = .cell cv) (g2 : ∀ p ∈ tl, @LT.lt Nat _ jar p.1) (hjI : @LT.lt Nat _ jar I) (hoff : ∀ p ∈ tl ++ headLed L ot0 oc0 om jar jo R, p.1 ≠ I)
    (htx : ∀ p ∈ tx, @LT.lt Nat _ I p.1) (e1 : ot = tabObj #[rawInt 295, rawInt 0, .ref c']) (e2 : (c', od) ∈ tx ++ tl) (e3 : od.data = .fields wv) (e4 : wv[1]? = some (.str (Str.ofString "law.<locals>.<lambda>") t)) :
    FStep h₀ L own I (CutJ L om jar jo R lv (i + 1)) s₁ .next { s₁ with heap := h, toks := tk } := by
  refine FStep.intro (nx := (tx ++ tl) ++ headLed L ot oc om jar jo R) F (fun p hp => N p ?_) (fun p hp => ?_) ⟨ot, oc, cv, tx ++ tl, u, rfl, rfl, hd, fun p hp => ?_, .inr ⟨c', od, wv, t, e1, e2, e3, e4⟩⟩
  · exact subq (by with_reducible k_extra "sub") hp
  · rcases List.mem_append.mp hp with hp | hp
    · rcases List.mem_append.mp hp with hp | hp
      · exact Nat.ne_of_gt (htx p hp)
      · exact hoff p (List.mem_append_left _ hp)
    · rcases List.mem_cons.mp hp with rfl | hp
      · exact Nat.ne_of_lt (by show @LT.lt Nat _ _ _; omega)
      · rcases List.mem_cons.mp hp with rfl | hp
        · exact Nat.ne_of_lt (by show @LT.lt Nat _ _ _; omega)
        · rcases List.mem_cons.mp hp with rfl | hp
          · exact Nat.ne_of_lt (by show @LT.lt Nat _ _ _; omega)
          · rcases List.mem_cons.mp hp with rfl | hp
            · exact Nat.ne_of_lt hjI
            · exact hoff p (List.mem_append_right _ (.tail _ (.tail _ (.tail _ (.tail _ hp)))))
  · rcases List.mem_append.mp hp with hp | hp
    · have := htx p hp; show @LT.lt Nat _ _ _; omega
    · exact g2 p hp
theorem rn_thr {led : Led} {a b : Int} {t : Tok} : RN led (thr a b) (.int (if decide (a ≤ b) = true then 1 else 0) t) [] := ⟨.i _, .i, by split <;> simp [Num.Ok], by unfold thr; simp only [Num.units, decide_eq_true_eq]; split <;> rfl⟩
example : True := by ((k_with "LeaveK" => (k_dflt (refine' leaveK_ ?k1zz ?k2zz ?_; (case k1zz => k_asm); (case k2zz => k_asm); k_whole); intro kFzz kNzz; (try dsimp only))); trivial)
example : True := by ((k_with "k_mem" => (first | assumption | (refine' List.mem_append_right _ ?_; k_mem) | (refine' List.mem_append_left _ ?_; k_mem))); trivial)
example : True := by ((k_with "kcj_all" => (k_whole; first | (refine fun pzz hpzz => List.mem_append_right _ ?_; assumption) | (intro pzz hpzz; (simp only [List.mem_append, List.mem_cons, List.not_mem_nil, or_false, false_or] at hpzz ⊢); first | assumption | (simp only [hpzz, true_or, or_true]; done) | grind))); trivial)
example : True := by ((k_with "kcj_all" => (k_whole; with_reducible k_extra "sub")); trivial)
example : True := by ((k_with "newTuple" => (k_here; k_dflt (refine' kup_newTuple ?Fzz ?Nzz ?_ ?zzz; (case Fzz => k_asm); (case Nzz => k_asm); (case zzz => kmk_size)); intro D'zz h'zz F'zz N'zz l1zz; (try k_lt l1zz); (try k_sweep))); trivial)
example : True := by ((k_with "binaryOp Pow int int" => ((with_reducible refine pow_int_small ?kb1zz ?kb2zz ?kb3zz ?_); (case kb1zz => omega); (case kb2zz => omega); (case kb3zz => decide))); trivial)
example : True := by ((k_with "subscriptTail" => (k_here; (with_reducible show wpAny _ _ (subscriptTail _ _ (Value.ref _) (Value.int _ _)) _ _ _); (with_unfolding_all refine' item_litK ?k1zz ?k2zz ?k3zz ?k4zz ?_ ?k6zz; (case k1zz => exact isListOf (by k_asm) (by k_mem)); (case k2zz => first | decide | omega); (case k3zz => first | decide | omega); (case k4zz => first | rfl | assumption); (case k6zz => with_unfolding_all rfl); k_whole))); trivial)
example : True := by ((k_with "subscriptTail Name Name ref int" => (k_here; (with_reducible show wpAny _ _ (subscriptTail _ _ (Value.ref _) (Value.int _ _)) _ _ _); (with_unfolding_all refine' item_litK ?k1zz ?k2zz ?k3zz ?k4zz ?_ ?k6zz; (case k1zz => exact isListOf (by k_asm) (by k_mem)); (case k2zz => first | decide | omega); (case k3zz => first | decide | omega); (case k4zz => first | rfl | assumption); (case k6zz => with_unfolding_all rfl); k_whole))); trivial)
example : True := by ((k_with "subscriptTail Name Constant ref int" => (k_here; (with_reducible show wpAny _ _ (subscriptTail _ _ (Value.ref _) (Value.int _ _)) _ _ _); (with_unfolding_all refine' item_litK ?k1zz ?k2zz ?k3zz ?k4zz ?_ ?k6zz; (case k1zz => exact isListOf (by k_asm) (by k_mem)); (case k2zz => first | decide | omega); (case k3zz => first | decide | omega); (case k4zz => first | rfl | assumption); (case k6zz => with_unfolding_all rfl); k_whole))); trivial)
example : True := by ((k_with "call ref" => (k_here; (with_reducible show wpAny _ _ (call (Value.ref 255) _) _ _ _); k_dflt ((refine' sp_use (sp_reckoned _ _ _ _ _ _ _ _ _ ?p1zz ?p2zz ?p3zz ?p4zz ?p5zz) ?k1zz ?k2zz ?k3zz ?k4zz ?k5zz ?kKzz ?kdzz ?kuzz ?_); k_extra "u1"; k_extra "u2"; (case p4zz => first | exact numIn_i | exact numIn_d (by k_mem) | exact NumIn.mono (by assumption) (by kcj_all) | assumption); (case p5zz => first | exact numIn_i | exact numIn_d (by k_mem) | exact NumIn.mono (by assumption) (by kcj_all) | assumption); (case p1zz => assumption); (case p2zz => assumption); (case p3zz => first | assumption | k_extra "sum"); k_extra "u3"; skip; k_extra "u4"))); trivial)
example : True := by ((k_with "getAttr ref" => (k_here; k_dflt (refine' get_own ?k1zz ?k2zz ?k3zz ?k4zz ?k5zz ?k6zz ?k7zz ?k8zz ?k9zz ?_; (case k1zz => k_asm); (case k2zz => k_asm); (case k3zz => k_inst); (case k4zz => k_is); (case k5zz => k_is); (case k6zz => k_is); (case k7zz => k_is); (case k8zz => assumption); (case k9zz => exact rfl); k_whole))); trivial)
example : True := by ((k_with "call ref" => (k_here; (with_reducible show wpAny _ _ (call (Value.ref 262) _) _ _ _); k_dflt ((refine' sp_use (sp_negated _ _ _ _ _ _ ?p1zz ?p2zz) ?k1zz ?k2zz ?k3zz ?k4zz ?k5zz ?kKzz ?kdzz ?kuzz ?_); k_extra "u1"; k_extra "u2"; (case p2zz => first | assumption | exact NumIn.mono (by assumption) (by kcj_all)); (case p1zz => assumption); k_extra "u3"; skip; k_extra "u4"))); trivial)
example : True := by ((k_with "call ref" => (k_here; (with_reducible show wpAny _ _ (call (Value.ref 368) _) _ _ _); k_dflt ((refine' sp_useI (sp_units _ _ _ _ ?p1zz ?p2zz) ?k1zz ?k2zz ?k3zz ?k4zz ?k5zz ?kKzz ?kdzz ?kuzz ?_); k_extra "u1"; k_extra "u2"; (case p2zz => first | assumption | exact NumIn.mono (by assumption) (by kcj_all)); (case p1zz => assumption); intro h9zz tk9zz F9zz t9zz N9zz; (try dsimp only); (try k_fold)))); trivial)
example : True := by ((k_with "call ref" => (k_here; (with_reducible show wpAny _ _ (call (Value.ref 361) _) _ _ _); k_dflt ((refine' sp_use (sp_law_number _ _ _ _ _ ?p1zz ?p2zz) ?k1zz ?k2zz ?k3zz ?k4zz ?k5zz ?kKzz ?kdzz ?kuzz ?_); k_extra "u1"; k_extra "u2"; (case p1zz => omega); (case p2zz => omega); k_extra "u3"; skip; k_extra "u4"))); trivial)
example : True := by ((k_with "call ref" => (k_here; (with_reducible show wpAny _ _ (call (Value.ref 311) _) _ _ _); k_dflt ((refine' sp_useV (sp_number_min _ _ _ _ _ _ _ _ _ ?p1zz ?p2zz ?p3zz ?p4zz ?p5zz) ?k1zz ?k2zz ?k3zz ?k4zz ?k5zz ?kKzz ?kdzz ?kuzz ?_); k_extra "u1"; k_extra "u2"; (case p5zz => k_dflt k_mem); (case p3zz => first | assumption | exact NumIn.mono (by assumption) (by kcj_all)); (case p4zz => first | assumption | exact NumIn.mono (by assumption) (by kcj_all)); (case p1zz => assumption); (case p2zz => assumption); intro h9zz tk9zz F9zz N9zz; (try dsimp only); (try k_fold)))); trivial)
example : True := by ((k_with "call ref" => (k_here; (with_reducible show wpAny _ _ (call (Value.ref 318) _) _ _ _); k_dflt ((refine' sp_useV (sp_number_max _ _ _ _ _ _ _ _ _ ?p1zz ?p2zz ?p3zz ?p4zz ?p5zz) ?k1zz ?k2zz ?k3zz ?k4zz ?k5zz ?kKzz ?kdzz ?kuzz ?_); k_extra "u1"; k_extra "u2"; (case p5zz => k_dflt k_mem); (case p3zz => first | assumption | exact NumIn.mono (by assumption) (by kcj_all)); (case p4zz => first | assumption | exact NumIn.mono (by assumption) (by kcj_all)); (case p1zz => assumption); (case p2zz => assumption); intro h9zz tk9zz F9zz N9zz; (try dsimp only); (try k_fold)))); trivial)
example : True := by ((k_with "call ref" => (k_here; (with_reducible show wpAny _ _ (call (Value.ref 385) _) _ _ _); k_dflt ((refine' sp_useV (sp_law_rises _ _ _ _ _ ?p1zz ?p2zz ?p3zz) ?k1zz ?k2zz ?k3zz ?k4zz ?k5zz ?kKzz ?kdzz ?kuzz ?_); k_extra "u1"; k_extra "u2"; (case p2zz => k_dflt k_mem); (case p1zz => first | assumption | exact NumsIn.mono (by assumption) (by kcj_all) | k_extra "nums"); (case p3zz => first | assumption | k_extra "len"); intro h9zz tk9zz F9zz N9zz; (try dsimp only); (try k_fold)))); trivial)
example : True := by ((k_with "call ref" => (k_here; (with_reducible show wpAny _ _ (call (Value.ref 380) _) _ _ _); k_dflt ((refine' sp_useL (sp_law_led _ _ _ _ _ _ _ _ _ ?p1zz ?p2zz ?p3zz ?p4zz ?p5zz ?p6zz ?p7zz) ?k1zz ?k2zz ?k3zz ?k4zz ?k5zz ?kKzz ?kdzz ?kuzz ?_); k_extra "u1"; k_extra "u2"; (case p2zz => k_dflt k_mem); (case p5zz => k_dflt k_mem); (case p1zz => first | assumption | exact NumsIn.mono (by assumption) (by kcj_all) | k_extra "nums"); (case p3zz => first | assumption | k_extra "len"); (case p4zz => first | assumption | exact PairsIn.mono (by assumption) (by kcj_all)); (case p6zz => first | assumption | k_extra "pok"); (case p7zz => first | assumption | k_extra "len"); intro h9zz tk9zz F9zz D9zz k9zz N9zz l9zz; (try dsimp only); (try k_fold)))); trivial)
example : True := by ((k_with "pyIter ref" => (first | k_extra "comp" | k_extra "for")); trivial)
example : True := by ((k_with "eval Name" => ((with_reducible show wpAny _ _ (eval _ (compEnvC _ _ _ _)) _ _ _); k_dflt (refine' comp_local ?Nzz ?hmzz ?nCzz ?hvzz ?_ ?azz ?bzz ?czz; (case bzz => exact rfl); (case azz => exact rfl); (case Nzz => k_asm); (case nCzz => assumption); (case hmzz => k_dflt k_mem); (case hvzz => assumption); (case czz => decide)))); trivial)
example : True := by ((k_with "eval Name" => ((with_reducible show wpAny _ _ (eval _ (compEnvC _ _ _ _)) _ _ _); k_dflt (refine' comp_cell ?Nzz ?hmzz ?hd'zz ?_ ?azz ?bzz ?ezz ?czz; (case bzz => exact rfl); (case azz => exact rfl); (case ezz => exact rfl); (case Nzz => k_asm); (case hmzz => k_dflt k_mem); (case hd'zz => assumption); (case czz => decide)))); trivial)
example : True := by ((k_with "exec Assign cons ListComp" => (k_dflt (refine' comp_assign ?aFzz ?a1zz ?a2zz ?a3zz ?a4zz ?a5zz ?a6zz ?a7zz ?a8zz ?_; (case aFzz => k_asm); (case a1zz => with_unfolding_all rfl); (case a2zz => with_unfolding_all rfl); (case a3zz => decide); (case a4zz => rfl); (case a5zz => decide); (case a6zz => intro _; with_unfolding_all rfl); (case a7zz => rfl); (case a8zz => rfl)))); trivial)
example : True := by ((k_with "eval ListComp" => (k_dflt (refine' comp_eval ?aFzz ?a2zz ?a3zz ?a4zz ?a5zz ?a6zz ?_; (case aFzz => k_asm); (case a2zz => with_unfolding_all rfl); (case a3zz => decide); (case a4zz => rfl); (case a5zz => decide); (case a6zz => intro _; with_unfolding_all rfl)))); trivial)
example : True := by ((k_with "call builtin:sorted" => (k_here; (with_reducible show wpAny _ _ (call (Value.builtin _) [Value.ref _]) _ _ _); (with_unfolding_all refine' kso_sorted ?k1zz ?k2zz ?k3zz ?k4zz ?k5zz ?_; (case k1zz => k_asm); (case k2zz => k_asm); (case k3zz => exact isListOf (by k_asm) (by k_mem)); (case k4zz => assumption); (case k5zz => assumption); k_whole); intro D'zz v'zz n'zz c'zz h'zz F'zz N'zz l1zz i'zz e'zz p'zz o'zz b'zz; (try k_lt l1zz); (try dsimp only))); trivial)
example : True := by ((k_with "compareOp Eq ref ref" => (k_here; (with_reducible show wpAny _ _ (compareOp CmpOp.Eq (Value.ref _) (Value.ref _)) _ _ _); k_dflt (refine' eq_intsK ?k1zz ?k2zz ?k3zz ?k4zz ?k5zz ?_; (case k1zz => exact isListOf (by k_asm) (by k_mem)); (case k3zz => exact isListOf (by k_asm) (by k_mem)); (case k2zz => assumption); (case k4zz => assumption); (case k5zz => ktr_units); k_whole))); trivial)
example : True := by ((k_with "exec For Tuple Name cons nil" => (k_here; (rename Fr _ _ _ _ => lF'zz); k_dflt (refine' For_invTF lF'zz ?_ ?hszz; (case hszz => intro _; with_unfolding_all rfl)))); trivial)
example : True := by ((k_with "k_all" => (assumption)); trivial)
example : True := by ((k_with "setItem ref int" => (k_here; k_dflt (refine' set_any ?k1zz ?k2zz ?k3zz ?k4zz ?k5zz ?k6zz ?_; (case k1zz => k_asm); (case k2zz => k_asm); (case k3zz => k_upd); (case k4zz => first | assumption | omega); (case k5zz => first | assumption | (simp only [List.length_set]; first | assumption | omega)); (case k6zz => omega); k_whole); intro h'zz F'zz N'zz; (try dsimp only))); trivial)
example : True := by ((k_with "subscriptTail Name Slice ref ref" => (k_here; k_dflt (refine' kmk_slice ?Fzz ?Nzz ?lzz ?pzz ?qzz ?_ ?szz ?tzz ?zzz; (case Fzz => k_asm); (case Nzz => k_asm); (case lzz => exact isListOf (by k_asm) (by k_mem)); (case pzz => kmk_part); (case qzz => kmk_part); (case szz => with_unfolding_all rfl); (case tzz => kmk_pure); (case zzz => (simp only [List.size_toArray, List.length_map, sizeLine_eq]; omega))); intro D'zz h'zz F'zz N'zz l1zz; (simp (disch := omega) only [pick_all, pick_upto, pick_from] at N'zz); (try k_lt l1zz); (try dsimp only))); trivial)
example : True := by ((k_with "len" => (first | assumption | omega | (rw [ledF_len]; omega))); trivial)
example : True := by ((k_with "pok" => (first | assumption | exact pok_of (by assumption) (by first | assumption | rw [ledF_len] | (rw [ledF_len]; assumption)))); trivial)
example : True := by ((k_with "nums" => (first | exact NumsIn.led (by assumption) _ | exact NumsIn.mono (NumsIn.led (by assumption) _) (by kcj_all))); trivial)
example : True := by ((k_with "call builtin:len" => (k_here; (with_reducible show wpAny _ _ (call (Value.builtin "len") [Value.ref _]) _ _ _); k_dflt (refine' len_any ?k1zz ?k2zz ?k3zz ?k4zz ?_; (case k1zz => k_asm); (case k2zz => k_dflt k_mem); (case k3zz => first | exact List.length_map .. | rfl); (case k4zz => first | omega | decide); k_whole))); trivial)
example : True := by ((k_with "call type:range" => (k_here; k_dflt (refine' range_any ?k1zz ?k2zz ?_; (case k1zz => k_asm); (case k2zz => k_asm)); intro D9zz h9zz ta9zz tb9zz tk9zz F9zz N9zz l9zz; (try k_lt l9zz); (try dsimp only); (try k_fold))); trivial)
example : True := by ((k_with "binaryOp Add ref ref" => (k_here; (with_reducible show wpAny _ _ (binaryOp _ (Value.ref _) (Value.ref _)) _ _ _); k_dflt (refine' add_any ?k1zz ?k2zz ?k3zz ?k4zz ?k5zz ?_; (case k1zz => k_asm); (case k2zz => k_asm); (case k3zz => k_dflt k_mem); (case k4zz => k_dflt k_mem); (case k5zz => (simp only [List.length_append, List.length_map, List.length_take, List.length_drop, List.length_cons, List.length_nil, sizeLine_eq]; omega))); intro D9zz h9zz F9zz N9zz l9zz; (try simp only [Int.toNat_natCast, toNat_succ, ← List.map_take, ← List.map_drop, ← List.map_append] at N9zz); (try k_lt l9zz); (try dsimp only); (try k_fold))); trivial)
example : True := by ((k_with "call ref" => (k_here; (with_reducible show wpAny _ _ (call (Value.ref 347) _) _ _ _); k_dflt (refine' fetched_at ?kUzz ?k1zz ?k2zz ?k3zz ?k4zz ?k5zz ?kKzz ?kdzz ?kuzz ?p1zz ?p2zz ?p3zz ?p4zz ?p5zz ?p6zz ?p7zz ?p8zz ?_; (case k1zz => k_asm); (case k2zz => k_asm); (case k3zz => k_asm); (case k4zz => k_asm); (case kUzz => k_updF); (case k5zz => k_asm); (case p7zz => k_dflt k_mem); (case p5zz => assumption); (case p6zz => first | assumption | omega | exact Nat.le_trans (List.length_take_le _ _) (by decide)); (case p8zz => k_ne); (case p1zz => omega); (case p2zz => omega); (case p3zz => omega); (case p4zz => omega); k_extra "u2"; intro x9zz tx9zz ts9zz kj9zz h9zz tk9zz x91zz x92zz F9zz N9zz; (try dsimp only at N9zz); (try dsimp only); (try k_fold)))); trivial)
example : True := by ((k_with "call ref" => (k_here; (with_reducible show wpAny _ _ (call (Value.ref 354) _) _ _ _); k_dflt (refine' pair_at ?kUzz ?k1zz ?k2zz ?k3zz ?k4zz ?k5zz ?kKzz ?kdzz ?kuzz ?p1zz ?p2zz ?p3zz ?p4zz ?p5zz ?p6zz ?p7zz ?p8zz ?_; (case k1zz => k_asm); (case k2zz => k_asm); (case k3zz => k_asm); (case k4zz => k_asm); (case kUzz => k_updF); (case k5zz => k_asm); (case p7zz => k_dflt k_mem); (case p5zz => assumption); (case p6zz => first | assumption | omega | exact Nat.le_trans (List.length_take_le _ _) (by decide)); (case p8zz => k_ne); (case p1zz => omega); (case p2zz => omega); (case p3zz => omega); (case p4zz => omega); k_extra "u2"; intro q9zz lo9zz hi9zz ta9zz tb9zz k9zz ts9zz kj9zz h9zz tk9zz y91zz y92zz y93zz y94zz y95zz F9zz N9zz l9zz; (try k_lt l9zz); (try dsimp only at N9zz); (try dsimp only); (try k_fold)))); trivial)
example : True := by ((k_with "callWith ref" => (k_here; k_dflt (refine' callWith_K ?k1zz ?k2zz ?_; (case k1zz => k_asm); (case k2zz => k_is); k_whole))); trivial)
example : True := by ((k_with "k_all" => ((repeat (refine all_cons ?_ ?_; focus k_ne)); first | assumption | exact List.forall_mem_nil _)); trivial)
example : True := by ((k_with "execs cons" => (k_extra "next")); trivial)
example : True := by ((k_with "k_mem" => (refine' memD ?_; assumption)); trivial)
example : True := by ((k_with "exec For Name Call cons nil" => (k_here; (rename Fr _ _ _ _ => lF'zz); k_dflt (refine' For_turns lF'zz ?_ ?hszz ?hEzz; (case hszz => intro _; with_unfolding_all rfl); (case hEzz => first | assumption | passes_own)))); trivial)
example : True := by ((k_with "exec For Name Name cons nil" => (k_here; (rename Fr _ _ _ _ => lF'zz); k_dflt (refine' For_turns lF'zz ?_ ?hszz ?hEzz; (case hszz => intro _; with_unfolding_all rfl); (case hEzz => first | assumption | passes_own)))); trivial)
example : True := by ((k_with "call builtin:list.append" => (k_here; (with_reducible show wpAny _ _ (call (Value.builtin _) [Value.ref _, _]) _ _ _); k_dflt (refine' append_any ?k1zz ?k2zz ?k3zz ?_ ?zzz; (case k1zz => k_asm); (case k2zz => k_asm); (case k3zz => k_upd); (case zzz => k_extra "room"); k_whole); intro h'zz F'zz N'zz; (try dsimp only); (try dsimp only at N'zz))); trivial)
example : True := by ((k_with "room" => ((simp only [List.length_map, sizeLine_eq]); omega)); trivial)
example : True := by ((k_with "call ref" => (k_here; (with_reducible show wpAny _ _ (call (Value.ref 407) _) _ _ _); k_extra "goes")); trivial)
example : True := by ((k_with "kla" => (k_dflt (refine' kla_code ?k1zz ?k2zz ?k3zz ?k4zz ?k5zz ?kAzz ?kFzz ?kKzz ?k6zz ?k7zz ?k8zz ?k9zz ?kBzz ?_ ?c2zz ?c3zz ?c4zz ?c5zz; (case kAzz => exact rfl); (case kFzz => exact rfl); (case kKzz => assumption); k_extra "u1"; (case k6zz => assumption); (case k7zz => exact codeRec_news (by k_asm) (by assumption) (by assumption) (by assumption)); (case k8zz => ktr_room); (case k9zz => exact rfl); (case c5zz => decide); (case kBzz => exact locs rfl); (case c2zz => exact rfl); (case c3zz => exact rfl); (case c4zz => exact rfl); k_whole); intro g'zz L'zz h'zz FG'zz F'zz N'zz B'zz X'zz T'zz; (try dsimp only); (try k_fold))); trivial)
theorem stageF {w : World} {body : List Stmt} {scope : Scope} (hdef : LawDef body scope) {p : Program} {loose : List Str} {mean : ExcName → Option Value} {mg mb : Str → Option Value} {h₀ : Heap} {L fa : Addr} {u : Str → Option Value} {s : Shared} {Q : Flow → Shared → Prop} {E : Value → Shared → Prop}
    {ow om oc oj ot jo : Obj} {jar sl x dx pa sa rr : Addr} {tb td tm tw : Tok} {ks ka kz kp n many : Nat} {vs : List Value} {ns : List Int} {es : List DictEntry} {c0 m0 : Option Value} {R : Led} {xs z : List VN} {pxs : List (Value × Int × Int)} {wh : Int}
    (B : Below callerA h₀ [] h₀) (X : (hd.heap_1 w.params).In h₀) (T : Top p loose mean mg mb h₀)
    (dw : ow.data = .cell (some (.ref x))) (dm : om.data = .cell m0) (dc : oc.data = .cell c0) (dj : oj.data = .cell (some (.ref jar)))
    (hvs : IntsAre vs ns) (hvl : vs.length ≤ 60)
    (o1 : @LT.lt Nat _ 409 L) (o2 : @LT.lt Nat _ (L + 1 + 1 + 1 + 1) jar) (o3 : @LT.lt Nat _ sl jar) (hW : WorldIn R (.ref x) x dx es n tb td)
    (hR : Rest L jar sl x dx oj ow vs ks es n R)
    (hE : PassesOwn (model PW w) (lawA L fa scope) (envOfC (Str.ofString "law") scope L fa (.ref 411)) E)
    (hot : ot.cls ≠ .type "tuple")
    (hm : many = 3 ∨ many = 4) (hP : PairsAt R many pa pxs kp) (hsa : (sa, listOf (xs.map (·.1)).toArray ka) ∈ R) (hxs : NumsIn R xs) (hxl : xs.length = many) (hxb : ∀ x ∈ xs, -2500 ≤ x.2.units ∧ x.2.units ≤ 3500)
    (hrr : (rr, listOf (z.map (·.1)).toArray kz) ∈ R) (hz : NumsIn R z) (hzl : z.length = xs.length) (hzx : ∀ y ∈ z, y ∈ xs)
    (CH : CodeHd h₀ 411 409) (hot2 : ot = tabObj #[])
    (next : ∀ h' tk' oc' cv c' tl u', oc'.data = .cell cv → (∀ p ∈ tl, @LT.lt Nat _ jar p.1) → Fr h₀ L h' (putM [("many", .int many tm), ("pairs", .ref pa), ("some", .ref sa), ("which", .int wh tw), ("row", .ref rr)] u') → News h₀ L h' (headLed L (tabObj #[rawInt 295, rawInt 0, .ref c']) oc' om jar jo (tl ++ R)) →
      wpAny (model PW w) (lawA L fa scope) (execs (body.drop 15) (envOfC (Str.ofString "law") scope L fa (.ref 411))) Q E { s with heap := h', toks := tk' })
    (F : Fr h₀ L s.heap (putM [("many", .int many tm), ("pairs", .ref pa), ("some", .ref sa), ("which", .int wh tw), ("row", .ref rr)] u)) (N : News h₀ L s.heap (headLed L ot oc om jar jo R)) :
    wpAny (model PW w) (lawA L fa scope) (execs (body.drop 14) (envOfC (Str.ofString "law") scope L fa (.ref 411))) Q E s := by
  obtain ⟨hb9, hs9⟩ := LawDef.at hdef
  clear hdef
  subst hb9
  have q7 : lawScope = Scope.mk _ _ _ _ _ := rfl
  rw [q7] at hs9
  clear q7
  subst hs9
  dsimp only [headLed] at N
  subst hot2
  obtain ⟨r1, r2, r3, r4, r5, r6, r7, r8, r9⟩ := hR
  obtain ⟨p1, p2, p3, p4⟩ := hP
  have q3 : lawBody.drop 14 = _ :: lawBody.drop 15 := rfl
  rw [q3]
  clear q3
  generalize lawBody.drop 15 = rest9 at next ⊢
  k_with "for" => refine for_listE (CutJ L om jar jo R [("many", .int many tm), ("pairs", .ref pa), ("some", .ref sa), ("which", .int wh tw), ("row", .ref rr)]) rfl (by k_asm) (by k_asm) (by k_mem) (held ?h0) (held ?turn) (held ?dn)
  repeat' (first | (k_unfold; (try dsimp only)) | walk1 | (dsimp only; walk1) | (leave1; try dsimp only))
  case turn =>
    intro i v m₁ led₁ own I h₁ tk₁ hv hJ hoff Ft Nt hown hIo hIlt
    obtain ⟨ot', oc', cv, tl, u', rfl, rfl, g1, g2, g3⟩ := hJ
    obtain ⟨y, hyi, rfl⟩ : ∃ y, xs[i]? = some y ∧ y.1 = v := by simpa using hv
    have hym := List.mem_of_getElem? hyi
    obtain ⟨ny, oky⟩ := hxs y hym
    have hyb := hxb y hym
    have hjI : @LT.lt Nat _ jar I := hIlt (jar, _) (by k_mem)
    have N2 : News h₀ L h₁ ((409, ot') :: (L + 1 + 1, oc') :: (L + 1 + 1 + 1, om) :: (jar, jo) :: (own ++ (tl ++ R))) := fun p hp => Nt p (by
      exact subq (by with_reducible k_extra "sub") hp)
    have hgo : ∀ d, @LT.lt Nat _ d jar → (∀ p ∈ R, p.1 ≠ d) → ∀ p ∈ own ++ (tl ++ R), p.1 ≠ d := fun d hd hr => all_app (fun p hp => by
      rcases hown p hp with e | e
      · rw [e]; exact Nat.ne_of_gt (by show @LT.lt Nat _ _ _; omega)
      · rw [e]; exact hr (sa, _) hsa) (all_app (fun p hp => Nat.ne_of_gt (by have := g2 p hp; show @LT.lt Nat _ _ _; omega)) hr)
    have h4R := hgo 409 (by omega) r6
    have hcR := hgo (L + 1 + 1) (by omega) r7
    clear Nt
    have hzb : Bnd z := fun q hq => by have := hxb q (hzx q hq); omega
    k_with "goes" => refine hold_intro ?_
    rcases g3 with ⟨_, rfl⟩ | ⟨c', od, wv, tq, rfl, e2, e3, e4⟩
    · skip
      repeat' (first | (k_unfold; (try dsimp only)) | walk1 | (dsimp only; walk1) | (leave1; try dsimp only))
      rename_i f1 c1 oc1 vs1 t1 ct1 h1 tk1 F1 N1 d1' d2' l1 l2 -- ok
      k_dflt (refine' sp_use (sp_law_goes_through _ _ _ _ _ pxs z _ _ 3 60 (thr y.2.units) _ (thr_mono _) (hz.mono ?g1) ?g2 ?g3 (p2.mono ?g4) ?g5 ?g6 ?g7 (held ?fn) (held ?wk) hzb) ?k1 ?k2 ?k3 ?k4 ?k5 ?kK ?kd ?ku ?mn)
      (case k1 => k_asm)
      (case k2 => k_asm)
      (case k3 => k_asm)
      (case k4 => k_asm)
      (case k5 => k_asm)
      (case g1 => kcj_all)
      (case g2 => k_dflt k_mem)
      (case g3 => omega)
      (case g4 => kcj_all)
      (case g5 => k_dflt k_mem)
      (case g6 => exact pok_of p3 (by omega))
      (case g7 => omega)
      (case kK => first | exact rfl | assumption)
      (case kd => ktr_room)
      (case ku => ktr_units)
      case fn => exact fun h₀ L h m F X N => ⟨_, _, _, _, (N _ (.head _)).1⟩
      case wk =>
        intro led v N hs hv hok hb1 hb2
        have hf := hs _ (.head _)
        have hc := hs _ (.tail _ (.head _))
        have hcc := hs _ (.tail _ (.tail _ (.tail _ (.head _))))
        have hny : NumIn led y.1 y.2 := ny.mono (fun p hp => hs p (by k_mem))
        unfold Sp
        intro p' loose' mean' mg' mb' dp un gd cn cs a ccd cl outer A₀ base h₀' L' m' s' Q' E' B' F' X' N' T' hk hd hu hret
        refine wpAny_call ?_
        k_extra "kla"
        repeat' (first | (k_unfold; (try dsimp only)) | walk1 | (dsimp only; walk1) | (leave1; try dsimp only))
        exact hret _ [] _ _ (by k_asm) (by k_asm) (fun _ _ _ h => nomatch h) rn_thr
      case mn =>
        intro r9 tl9 h9 tk9 F9 N9 l9 o9
        obtain ⟨e9, f9⟩ := o9
        subst e9
        subst f9
        simp only [List.nil_append] at N9
        repeat' (first | (k_unfold; (try dsimp only)) | walk1 | (dsimp only; walk1) | (leave1; try dsimp only))
        exact cut_end (tx := [(f1, _), (c1, oc1)]) o1 o2 (by k_asm) (by k_asm) (by assumption) g2 hjI hoff (fun p hp => by
          obtain ⟨oI, hoI⟩ := hIo
          have hIc : @LT.lt Nat _ I c1 := ktn_ltOf l1.2.2.2.2 (I, oI) (List.mem_append_left _ hoI)
          simp only [List.mem_cons, List.not_mem_nil, or_false] at hp
          rcases hp with rfl | rfl
          · exact Nat.lt_trans hIc l2
          · exact hIc) rfl (by simp) d1' d2'
    · skip
      repeat' (first | (k_unfold; (try dsimp only)) | walk1 | (dsimp only; walk1) | (leave1; try dsimp only))
      rename_i f1 ct1 h1 tk1 F1 N1 l1 -- ok
      k_dflt (refine' sp_use (sp_law_goes_through _ _ _ _ _ pxs z _ _ 3 60 (thr y.2.units) _ (thr_mono _) (hz.mono ?g1) ?g2 ?g3 (p2.mono ?g4) ?g5 ?g6 ?g7 (held ?fn) (held ?wk) hzb) ?k1 ?k2 ?k3 ?k4 ?k5 ?kK ?kd ?ku ?mn)
      (case k1 => k_asm)
      (case k2 => k_asm)
      (case k3 => k_asm)
      (case k4 => k_asm)
      (case k5 => k_asm)
      (case g1 => kcj_all)
      (case g2 => k_dflt k_mem)
      (case g3 => omega)
      (case g4 => kcj_all)
      (case g5 => k_dflt k_mem)
      (case g6 => exact pok_of p3 (by omega))
      (case g7 => omega)
      (case kK => first | exact rfl | assumption)
      (case kd => ktr_room)
      (case ku => ktr_units)
      case fn => exact fun h₀ L h m F X N => ⟨_, _, _, _, (N _ (.head _)).1⟩
      case wk =>
        intro led v N hs hv hok hb1 hb2
        have hf := hs _ (.head _)
        have hc : (c', od) ∈ led := hs _ (by k_mem)
        have hcc := hs _ (.tail _ (.tail _ (.head _)))
        have hny : NumIn led y.1 y.2 := ny.mono (fun p hp => hs p (by k_mem))
        unfold Sp
        intro p' loose' mean' mg' mb' dp un gd cn cs a ccd cl outer A₀ base h₀' L' m' s' Q' E' B' F' X' N' T' hk hd hu hret
        refine wpAny_call ?_
        k_extra "kla"
        repeat' (first | (k_unfold; (try dsimp only)) | walk1 | (dsimp only; walk1) | (leave1; try dsimp only))
        exact hret _ [] _ _ (by k_asm) (by k_asm) (fun _ _ _ h => nomatch h) rn_thr
      case mn =>
        intro r9 tl9 h9 tk9 F9 N9 l9 o9
        obtain ⟨e9, f9⟩ := o9
        subst e9
        subst f9
        simp only [List.nil_append] at N9
        repeat' (first | (k_unfold; (try dsimp only)) | walk1 | (dsimp only; walk1) | (leave1; try dsimp only))
        exact cut_end (tx := [(f1, _)]) o1 o2 (by k_asm) (by k_asm) (by assumption) g2 hjI hoff (fun p hp => by
          obtain ⟨oI, hoI⟩ := hIo
          have hIc : @LT.lt Nat _ I f1 := ktn_ltOf l1.2.2.2.2 (I, oI) (List.mem_append_left _ hoI)
          rw [List.mem_singleton.mp hp]
          exact hIc) rfl (List.mem_append_right _ e2) e3 e4
  case h0 => exact ⟨_, _, _, [], _, rfl, rfl, dc, (fun _ h => nomatch h), .inl ⟨rfl, rfl⟩⟩
  case dn =>
    intro h' tk m' led' hJ Fd Nd
    obtain ⟨ot', oc', cv, tl, u', rfl, rfl, g1, g2, g3⟩ := hJ
    have hne : ¬ (xs.map (·.1)).length = 0 := by rw [List.length_map]; omega
    rcases g3 with ⟨e, _⟩ | ⟨c', od, wv, tq, rfl, e2, e3, e4⟩
    · exact absurd e hne
    repeat' (first | (k_unfold; (try dsimp only)) | walk1 | (dsimp only; walk1) | (leave1; try dsimp only))
    exact next _ _ oc' cv c' tl u' g1 g2 Fd (fun p hp => Nd p (by
      exact subq (by with_reducible k_extra "sub") hp))
end Mine
end
section
open PySem PySem.W PyProof.Rows
set_option maxRecDepth 100000
set_option maxHeartbeats 8000000
set_option linter.unusedVariables false
namespace Mine
example : True := by (k_with_none; trivial)
example : True := by ((k_with "u1" => ((case k1zz => k_asm); (case k2zz => k_asm); (case k3zz => k_asm); (case k4zz => k_asm); (case k5zz => k_asm))); trivial)
example : True := by ((k_with "u2" => ((case kKzz => first | exact rfl | assumption); (case kdzz => ktr_room); (case kuzz => ktr_units))); trivial)
example : True := by ((k_with "u3" => (intro r9zz tl9zz h9zz tk9zz F9zz N9zz l9zz o9zz; (try dsimp only at o9zz))); trivial)
example : True := by ((k_with "u4" => ((try simp only [List.nil_append, List.cons_append] at N9zz); (try dsimp only); (try k_fold))); trivial)
example : True := by ((k_with "suf" => (first | apply sub_refl | assumption | (refine sub_tail ?_; k_extra "suf") | (refine sub_app ?_; k_extra "suf") | apply sub_nil | (refine sub_appL ?_; k_extra "suf"))); trivial)
example : True := by ((k_with "in" => (first | assumption | apply in_head | (refine in_tail ?_; k_extra "in") | (refine in_app ?_; k_extra "in") | (refine in_appL ?_; k_extra "in"))); trivial)
example : True := by ((k_with "sub" => (first | k_extra "suf" | (refine sub_cons ?_ ?_; (focus k_extra "in"); k_extra "sub") | (refine sub_both ?_ ?_; (focus k_extra "sub"); k_extra "sub") | (refine sub_trans ?_ (by assumption); k_extra "suf"))); trivial)
example : True := by ((k_with "lt0" => (first | assumption | (refine Mine.pickA (by assumption) ?_; intro hz9zz; first | apply hz9zz.1 | (replace hz9zz := hz9zz.2; first | apply hz9zz.1 | (replace hz9zz := hz9zz.2; first | apply hz9zz.1 | (replace hz9zz := hz9zz.2; first | apply hz9zz.1 | (replace hz9zz := hz9zz.2; first | apply hz9zz.1 | (replace hz9zz := hz9zz.2; first | apply hz9zz.1 | (replace hz9zz := hz9zz.2; first | apply hz9zz.1 | (replace hz9zz := hz9zz.2; first | apply hz9zz.1 | (replace hz9zz := hz9zz.2; first | apply hz9zz.1 | (replace hz9zz := hz9zz.2; first | apply hz9zz.1 | (replace hz9zz := hz9zz.2; first | apply hz9zz.1 | (replace hz9zz := hz9zz.2; first | apply hz9zz.1 | (replace hz9zz := hz9zz.2; first | apply hz9zz.1 | (replace hz9zz := hz9zz.2; first | apply hz9zz.1 | apply hz9zz.2)))))))))))))))); trivial)
example : True := by ((k_with "lt1" => (first | apply Mine.sl1 | apply Mine.sl2 | apply Mine.sl3 | apply Mine.sl4 | exact Mine.dn1 (by assumption) | exact Mine.dn2 (by assumption) | exact Mine.dn3 (by assumption) | exact Mine.dn4 (by assumption) | exact Mine.upx (by assumption) (by assumption) | exact Mine.up4 (by assumption) | (refine Nat.lt_trans ?_ (by assumption); first | k_extra "lt0" | exact Mine.dn1 (by assumption) | exact Mine.dn2 (by assumption) | exact Mine.dn3 (by assumption) | exact Mine.dn4 (by assumption) | (refine Nat.lt_trans ?_ (by assumption); k_extra "lt0")))); trivial)
theorem rn_one {led : Led} {u : Int} {r : Value} {tl : Led} {p : Addr × Obj} (h : RN (p :: led) u r tl) : RN led u r (tl ++ [p]) := by
  obtain ⟨N', h1, h2, h3⟩ := h
  exact ⟨N', by rw [List.append_assoc]; exact h1, h2, h3⟩
theorem mono_int : ∀ a b : Int, a ≤ b → 100 * (a / 100) ≤ 100 * (b / 100) := fun a b h => by omega
theorem mono_fix : ∀ a b : Int, a ≤ b → Fx a ≤ Fx b := fun a b h => by unfold Fx; (repeat' split) <;> omega
theorem mono_rn : ∀ a b : Int, a ≤ b → 100 * Rn a ≤ 100 * Rn b := fun a b h => by
  rcases Int.lt_or_eq_of_le h with h | rfl
  · have ha := Rn_bd a; have hb := Rn_bd b; omega
  · exact Int.le_refl _
theorem mono_sgn : ∀ a b : Int, a ≤ b → 100 * sgn a ≤ 100 * sgn b := fun a b h => by
  unfold sgn b2i
  simp only [decide_eq_true_eq]
  (repeat' split) <;> omega
theorem wk_ret {h₀ h : Heap} {L : Addr} {led tl : Led} {lo : Addr × Obj} {u : Int} {r : Value} (kN : News h₀ L h (tl ++ lo :: led)) (l1 : ∀ p ∈ led, p.1 < lo.1) (l9 : ∀ q ∈ lo :: led, ∀ p ∈ tl, q.1 < p.1) (o : RN (lo :: led) u r tl) : News h₀ L h ((tl ++ [lo]) ++ led) ∧ (∀ q ∈ led, ∀ p ∈ tl ++ [lo], q.1 < p.1) ∧ RN led u r (tl ++ [lo]) :=
  ⟨by rw [List.append_assoc]; exact kN, fun q hq p hp => by
    rcases List.mem_append.mp hp with hp | hp
    · exact l9 q (.tail _ hq) p hp
    · rw [List.mem_singleton.mp hp]; exact l1 q hq, rn_one o⟩
example : True := by ((k_with "LeaveK" => (k_dflt (refine' leaveK_ ?k1zz ?k2zz ?_; (case k1zz => k_asm); (case k2zz => k_asm); k_whole); intro kFzz kNzz; (try dsimp only))); trivial)
example : True := by ((k_with "k_mem" => (first | assumption | (refine' List.mem_append_right _ ?_; k_mem) | (refine' List.mem_append_left _ ?_; k_mem))); trivial)
example : True := by ((k_with "kcj_all" => (k_whole; first | (refine fun pzz hpzz => List.mem_append_right _ ?_; assumption) | (intro pzz hpzz; (simp only [List.mem_append, List.mem_cons, List.not_mem_nil, or_false, false_or] at hpzz ⊢); first | assumption | (simp only [hpzz, true_or, or_true]; done) | grind))); trivial)
example : True := by ((k_with "kcj_all" => (k_whole; with_reducible k_extra "sub")); trivial)
example : True := by ((k_with "newTuple" => (k_here; k_dflt (refine' kup_newTuple ?Fzz ?Nzz ?_ ?zzz; (case Fzz => k_asm); (case Nzz => k_asm); (case zzz => kmk_size)); intro D'zz h'zz F'zz N'zz l1zz; (try k_lt l1zz); (try k_sweep))); trivial)
example : True := by ((k_with "binaryOp Pow int int" => ((with_reducible refine pow_int_small ?kb1zz ?kb2zz ?kb3zz ?_); (case kb1zz => omega); (case kb2zz => omega); (case kb3zz => decide))); trivial)
example : True := by ((k_with "subscriptTail" => (k_here; (with_reducible show wpAny _ _ (subscriptTail _ _ (Value.ref _) (Value.int _ _)) _ _ _); (with_unfolding_all refine' item_litK ?k1zz ?k2zz ?k3zz ?k4zz ?_ ?k6zz; (case k1zz => exact isListOf (by k_asm) (by k_mem)); (case k2zz => first | decide | omega); (case k3zz => first | decide | omega); (case k4zz => first | rfl | assumption); (case k6zz => with_unfolding_all rfl); k_whole))); trivial)
example : True := by ((k_with "subscriptTail Name Name ref int" => (k_here; (with_reducible show wpAny _ _ (subscriptTail _ _ (Value.ref _) (Value.int _ _)) _ _ _); (with_unfolding_all refine' item_litK ?k1zz ?k2zz ?k3zz ?k4zz ?_ ?k6zz; (case k1zz => exact isListOf (by k_asm) (by k_mem)); (case k2zz => first | decide | omega); (case k3zz => first | decide | omega); (case k4zz => first | rfl | assumption); (case k6zz => with_unfolding_all rfl); k_whole))); trivial)
example : True := by ((k_with "subscriptTail Name Constant ref int" => (k_here; (with_reducible show wpAny _ _ (subscriptTail _ _ (Value.ref _) (Value.int _ _)) _ _ _); (with_unfolding_all refine' item_litK ?k1zz ?k2zz ?k3zz ?k4zz ?_ ?k6zz; (case k1zz => exact isListOf (by k_asm) (by k_mem)); (case k2zz => first | decide | omega); (case k3zz => first | decide | omega); (case k4zz => first | rfl | assumption); (case k6zz => with_unfolding_all rfl); k_whole))); trivial)
example : True := by ((k_with "call ref" => (k_here; (with_reducible show wpAny _ _ (call (Value.ref 255) _) _ _ _); k_dflt ((refine' sp_use (sp_reckoned _ _ _ _ _ _ _ _ _ ?p1zz ?p2zz ?p3zz ?p4zz ?p5zz) ?k1zz ?k2zz ?k3zz ?k4zz ?k5zz ?kKzz ?kdzz ?kuzz ?_); k_extra "u1"; k_extra "u2"; (case p4zz => first | exact numIn_i | exact numIn_d (by k_mem) | exact NumIn.mono (by assumption) (by kcj_all) | assumption); (case p5zz => first | exact numIn_i | exact numIn_d (by k_mem) | exact NumIn.mono (by assumption) (by kcj_all) | assumption); (case p1zz => assumption); (case p2zz => assumption); (case p3zz => first | assumption | k_extra "sum"); k_extra "u3"; skip; k_extra "u4"))); trivial)
example : True := by ((k_with "getAttr ref" => (k_here; k_dflt (refine' get_own ?k1zz ?k2zz ?k3zz ?k4zz ?k5zz ?k6zz ?k7zz ?k8zz ?k9zz ?_; (case k1zz => k_asm); (case k2zz => k_asm); (case k3zz => k_inst); (case k4zz => k_is); (case k5zz => k_is); (case k6zz => k_is); (case k7zz => k_is); (case k8zz => assumption); (case k9zz => exact rfl); k_whole))); trivial)
example : True := by ((k_with "call ref" => (k_here; (with_reducible show wpAny _ _ (call (Value.ref 262) _) _ _ _); k_dflt ((refine' sp_use (sp_negated _ _ _ _ _ _ ?p1zz ?p2zz) ?k1zz ?k2zz ?k3zz ?k4zz ?k5zz ?kKzz ?kdzz ?kuzz ?_); k_extra "u1"; k_extra "u2"; (case p2zz => first | assumption | exact NumIn.mono (by assumption) (by kcj_all)); (case p1zz => assumption); k_extra "u3"; skip; k_extra "u4"))); trivial)
example : True := by ((k_with "call ref" => (k_here; (with_reducible show wpAny _ _ (call (Value.ref 368) _) _ _ _); k_dflt ((refine' sp_useI (sp_units _ _ _ _ ?p1zz ?p2zz) ?k1zz ?k2zz ?k3zz ?k4zz ?k5zz ?kKzz ?kdzz ?kuzz ?_); k_extra "u1"; k_extra "u2"; (case p2zz => first | assumption | exact NumIn.mono (by assumption) (by kcj_all)); (case p1zz => assumption); intro h9zz tk9zz F9zz t9zz N9zz; (try dsimp only); (try k_fold)))); trivial)
example : True := by ((k_with "call ref" => (k_here; (with_reducible show wpAny _ _ (call (Value.ref 361) _) _ _ _); k_dflt ((refine' sp_use (sp_law_number _ _ _ _ _ ?p1zz ?p2zz) ?k1zz ?k2zz ?k3zz ?k4zz ?k5zz ?kKzz ?kdzz ?kuzz ?_); k_extra "u1"; k_extra "u2"; (case p1zz => omega); (case p2zz => omega); k_extra "u3"; skip; k_extra "u4"))); trivial)
example : True := by ((k_with "call ref" => (k_here; (with_reducible show wpAny _ _ (call (Value.ref 311) _) _ _ _); k_dflt ((refine' sp_useV (sp_number_min _ _ _ _ _ _ _ _ _ ?p1zz ?p2zz ?p3zz ?p4zz ?p5zz) ?k1zz ?k2zz ?k3zz ?k4zz ?k5zz ?kKzz ?kdzz ?kuzz ?_); k_extra "u1"; k_extra "u2"; (case p5zz => k_dflt k_mem); (case p3zz => first | assumption | exact NumIn.mono (by assumption) (by kcj_all)); (case p4zz => first | assumption | exact NumIn.mono (by assumption) (by kcj_all)); (case p1zz => assumption); (case p2zz => assumption); intro h9zz tk9zz F9zz N9zz; (try dsimp only); (try k_fold)))); trivial)
example : True := by ((k_with "call ref" => (k_here; (with_reducible show wpAny _ _ (call (Value.ref 318) _) _ _ _); k_dflt ((refine' sp_useV (sp_number_max _ _ _ _ _ _ _ _ _ ?p1zz ?p2zz ?p3zz ?p4zz ?p5zz) ?k1zz ?k2zz ?k3zz ?k4zz ?k5zz ?kKzz ?kdzz ?kuzz ?_); k_extra "u1"; k_extra "u2"; (case p5zz => k_dflt k_mem); (case p3zz => first | assumption | exact NumIn.mono (by assumption) (by kcj_all)); (case p4zz => first | assumption | exact NumIn.mono (by assumption) (by kcj_all)); (case p1zz => assumption); (case p2zz => assumption); intro h9zz tk9zz F9zz N9zz; (try dsimp only); (try k_fold)))); trivial)
example : True := by ((k_with "call ref" => (k_here; (with_reducible show wpAny _ _ (call (Value.ref 385) _) _ _ _); k_dflt ((refine' sp_useV (sp_law_rises _ _ _ _ _ ?p1zz ?p2zz ?p3zz) ?k1zz ?k2zz ?k3zz ?k4zz ?k5zz ?kKzz ?kdzz ?kuzz ?_); k_extra "u1"; k_extra "u2"; (case p2zz => k_dflt k_mem); (case p1zz => first | assumption | exact NumsIn.mono (by assumption) (by kcj_all) | k_extra "nums"); (case p3zz => first | assumption | k_extra "len"); intro h9zz tk9zz F9zz N9zz; (try dsimp only); (try k_fold)))); trivial)
example : True := by ((k_with "call ref" => (k_here; (with_reducible show wpAny _ _ (call (Value.ref 380) _) _ _ _); k_dflt ((refine' sp_useL (sp_law_led _ _ _ _ _ _ _ _ _ ?p1zz ?p2zz ?p3zz ?p4zz ?p5zz ?p6zz ?p7zz) ?k1zz ?k2zz ?k3zz ?k4zz ?k5zz ?kKzz ?kdzz ?kuzz ?_); k_extra "u1"; k_extra "u2"; (case p2zz => k_dflt k_mem); (case p5zz => k_dflt k_mem); (case p1zz => first | assumption | exact NumsIn.mono (by assumption) (by kcj_all) | k_extra "nums"); (case p3zz => first | assumption | k_extra "len"); (case p4zz => first | assumption | exact PairsIn.mono (by assumption) (by kcj_all)); (case p6zz => first | assumption | k_extra "pok"); (case p7zz => first | assumption | k_extra "len"); intro h9zz tk9zz F9zz D9zz k9zz N9zz l9zz; (try dsimp only); (try k_fold)))); trivial)
example : True := by ((k_with "pyIter ref" => (first | k_extra "comp" | k_extra "for")); trivial)
example : True := by ((k_with "eval Name" => ((with_reducible show wpAny _ _ (eval _ (compEnvC _ _ _ _)) _ _ _); k_dflt (refine' comp_local ?Nzz ?hmzz ?nCzz ?hvzz ?_ ?azz ?bzz ?czz; (case bzz => exact rfl); (case azz => exact rfl); (case Nzz => k_asm); (case nCzz => assumption); (case hmzz => k_dflt k_mem); (case hvzz => assumption); (case czz => decide)))); trivial)
example : True := by ((k_with "eval Name" => ((with_reducible show wpAny _ _ (eval _ (compEnvC _ _ _ _)) _ _ _); k_dflt (refine' comp_cell ?Nzz ?hmzz ?hd'zz ?_ ?azz ?bzz ?ezz ?czz; (case bzz => exact rfl); (case azz => exact rfl); (case ezz => exact rfl); (case Nzz => k_asm); (case hmzz => k_dflt k_mem); (case hd'zz => assumption); (case czz => decide)))); trivial)
example : True := by ((k_with "exec Assign cons ListComp" => (k_dflt (refine' comp_assign ?aFzz ?a1zz ?a2zz ?a3zz ?a4zz ?a5zz ?a6zz ?a7zz ?a8zz ?_; (case aFzz => k_asm); (case a1zz => with_unfolding_all rfl); (case a2zz => with_unfolding_all rfl); (case a3zz => decide); (case a4zz => rfl); (case a5zz => decide); (case a6zz => intro _; with_unfolding_all rfl); (case a7zz => rfl); (case a8zz => rfl)))); trivial)
example : True := by ((k_with "eval ListComp" => (k_dflt (refine' comp_eval ?aFzz ?a2zz ?a3zz ?a4zz ?a5zz ?a6zz ?_; (case aFzz => k_asm); (case a2zz => with_unfolding_all rfl); (case a3zz => decide); (case a4zz => rfl); (case a5zz => decide); (case a6zz => intro _; with_unfolding_all rfl)))); trivial)
example : True := by ((k_with "call builtin:sorted" => (k_here; (with_reducible show wpAny _ _ (call (Value.builtin _) [Value.ref _]) _ _ _); (with_unfolding_all refine' kso_sorted ?k1zz ?k2zz ?k3zz ?k4zz ?k5zz ?_; (case k1zz => k_asm); (case k2zz => k_asm); (case k3zz => exact isListOf (by k_asm) (by k_mem)); (case k4zz => assumption); (case k5zz => assumption); k_whole); intro D'zz v'zz n'zz c'zz h'zz F'zz N'zz l1zz i'zz e'zz p'zz o'zz b'zz; (try k_lt l1zz); (try dsimp only))); trivial)
example : True := by ((k_with "compareOp Eq ref ref" => (k_here; (with_reducible show wpAny _ _ (compareOp CmpOp.Eq (Value.ref _) (Value.ref _)) _ _ _); k_dflt (refine' eq_intsK ?k1zz ?k2zz ?k3zz ?k4zz ?k5zz ?_; (case k1zz => exact isListOf (by k_asm) (by k_mem)); (case k3zz => exact isListOf (by k_asm) (by k_mem)); (case k2zz => assumption); (case k4zz => assumption); (case k5zz => ktr_units); k_whole))); trivial)
example : True := by ((k_with "exec For Tuple Name cons nil" => (k_here; (rename Fr _ _ _ _ => lF'zz); k_dflt (refine' For_invTF lF'zz ?_ ?hszz; (case hszz => intro _; with_unfolding_all rfl)))); trivial)
example : True := by ((k_with "k_all" => (assumption)); trivial)
example : True := by ((k_with "setItem ref int" => (k_here; k_dflt (refine' set_any ?k1zz ?k2zz ?k3zz ?k4zz ?k5zz ?k6zz ?_; (case k1zz => k_asm); (case k2zz => k_asm); (case k3zz => k_upd); (case k4zz => first | assumption | omega); (case k5zz => first | assumption | (simp only [List.length_set]; first | assumption | omega)); (case k6zz => omega); k_whole); intro h'zz F'zz N'zz; (try dsimp only))); trivial)
example : True := by ((k_with "subscriptTail Name Slice ref ref" => (k_here; k_dflt (refine' kmk_slice ?Fzz ?Nzz ?lzz ?pzz ?qzz ?_ ?szz ?tzz ?zzz; (case Fzz => k_asm); (case Nzz => k_asm); (case lzz => exact isListOf (by k_asm) (by k_mem)); (case pzz => kmk_part); (case qzz => kmk_part); (case szz => with_unfolding_all rfl); (case tzz => kmk_pure); (case zzz => (simp only [List.size_toArray, List.length_map, sizeLine_eq]; omega))); intro D'zz h'zz F'zz N'zz l1zz; (simp (disch := omega) only [pick_all, pick_upto, pick_from] at N'zz); (try k_lt l1zz); (try dsimp only))); trivial)
example : True := by ((k_with "len" => (first | assumption | omega | (rw [ledF_len]; omega))); trivial)
example : True := by ((k_with "pok" => (first | assumption | exact pok_of (by assumption) (by first | assumption | rw [ledF_len] | (rw [ledF_len]; assumption)))); trivial)
example : True := by ((k_with "nums" => (first | exact NumsIn.led (by assumption) _ | exact NumsIn.mono (NumsIn.led (by assumption) _) (by kcj_all))); trivial)
example : True := by ((k_with "call builtin:len" => (k_here; (with_reducible show wpAny _ _ (call (Value.builtin "len") [Value.ref _]) _ _ _); k_dflt (refine' len_any ?k1zz ?k2zz ?k3zz ?k4zz ?_; (case k1zz => k_asm); (case k2zz => k_dflt k_mem); (case k3zz => first | exact List.length_map .. | rfl); (case k4zz => first | omega | decide); k_whole))); trivial)
example : True := by ((k_with "call type:range" => (k_here; k_dflt (refine' range_any ?k1zz ?k2zz ?_; (case k1zz => k_asm); (case k2zz => k_asm)); intro D9zz h9zz ta9zz tb9zz tk9zz F9zz N9zz l9zz; (try k_lt l9zz); (try dsimp only); (try k_fold))); trivial)
example : True := by ((k_with "binaryOp Add ref ref" => (k_here; (with_reducible show wpAny _ _ (binaryOp _ (Value.ref _) (Value.ref _)) _ _ _); k_dflt (refine' add_any ?k1zz ?k2zz ?k3zz ?k4zz ?k5zz ?_; (case k1zz => k_asm); (case k2zz => k_asm); (case k3zz => k_dflt k_mem); (case k4zz => k_dflt k_mem); (case k5zz => (simp only [List.length_append, List.length_map, List.length_take, List.length_drop, List.length_cons, List.length_nil, sizeLine_eq]; omega))); intro D9zz h9zz F9zz N9zz l9zz; (try simp only [Int.toNat_natCast, toNat_succ, ← List.map_take, ← List.map_drop, ← List.map_append] at N9zz); (try k_lt l9zz); (try dsimp only); (try k_fold))); trivial)
example : True := by ((k_with "call ref" => (k_here; (with_reducible show wpAny _ _ (call (Value.ref 347) _) _ _ _); k_dflt (refine' fetched_at ?kUzz ?k1zz ?k2zz ?k3zz ?k4zz ?k5zz ?kKzz ?kdzz ?kuzz ?p1zz ?p2zz ?p3zz ?p4zz ?p5zz ?p6zz ?p7zz ?p8zz ?_; (case k1zz => k_asm); (case k2zz => k_asm); (case k3zz => k_asm); (case k4zz => k_asm); (case kUzz => k_updF); (case k5zz => k_asm); (case p7zz => k_dflt k_mem); (case p5zz => assumption); (case p6zz => first | assumption | omega | exact Nat.le_trans (List.length_take_le _ _) (by decide)); (case p8zz => k_ne); (case p1zz => omega); (case p2zz => omega); (case p3zz => omega); (case p4zz => omega); k_extra "u2"; intro x9zz tx9zz ts9zz kj9zz h9zz tk9zz x91zz x92zz F9zz N9zz; (try dsimp only at N9zz); (try dsimp only); (try k_fold)))); trivial)
example : True := by ((k_with "call ref" => (k_here; (with_reducible show wpAny _ _ (call (Value.ref 354) _) _ _ _); k_dflt (refine' pair_at ?kUzz ?k1zz ?k2zz ?k3zz ?k4zz ?k5zz ?kKzz ?kdzz ?kuzz ?p1zz ?p2zz ?p3zz ?p4zz ?p5zz ?p6zz ?p7zz ?p8zz ?_; (case k1zz => k_asm); (case k2zz => k_asm); (case k3zz => k_asm); (case k4zz => k_asm); (case kUzz => k_updF); (case k5zz => k_asm); (case p7zz => k_dflt k_mem); (case p5zz => assumption); (case p6zz => first | assumption | omega | exact Nat.le_trans (List.length_take_le _ _) (by decide)); (case p8zz => k_ne); (case p1zz => omega); (case p2zz => omega); (case p3zz => omega); (case p4zz => omega); k_extra "u2"; intro q9zz lo9zz hi9zz ta9zz tb9zz k9zz ts9zz kj9zz h9zz tk9zz y91zz y92zz y93zz y94zz y95zz F9zz N9zz l9zz; (try k_lt l9zz); (try dsimp only at N9zz); (try dsimp only); (try k_fold)))); trivial)
example : True := by ((k_with "callWith ref" => (k_here; k_dflt (refine' callWith_K ?k1zz ?k2zz ?_; (case k1zz => k_asm); (case k2zz => k_is); k_whole))); trivial)
example : True := by ((k_with "k_all" => ((repeat (refine all_cons ?_ ?_; focus k_ne)); first | assumption | exact List.forall_mem_nil _)); trivial)
example : True := by ((k_with "execs cons" => (k_extra "next")); trivial)
example : True := by ((k_with "k_mem" => (refine' memD ?_; assumption)); trivial)
example : True := by ((k_with "exec For Name Call cons nil" => (k_here; (rename Fr _ _ _ _ => lF'zz); k_dflt (refine' For_turns lF'zz ?_ ?hszz ?hEzz; (case hszz => intro _; with_unfolding_all rfl); (case hEzz => first | assumption | passes_own)))); trivial)
example : True := by ((k_with "exec For Name Name cons nil" => (k_here; (rename Fr _ _ _ _ => lF'zz); k_dflt (refine' For_turns lF'zz ?_ ?hszz ?hEzz; (case hszz => intro _; with_unfolding_all rfl); (case hEzz => first | assumption | passes_own)))); trivial)
example : True := by ((k_with "call builtin:list.append" => (k_here; (with_reducible show wpAny _ _ (call (Value.builtin _) [Value.ref _, _]) _ _ _); k_dflt (refine' append_any ?k1zz ?k2zz ?k3zz ?_ ?zzz; (case k1zz => k_asm); (case k2zz => k_asm); (case k3zz => k_upd); (case zzz => k_extra "room"); k_whole); intro h'zz F'zz N'zz; (try dsimp only); (try dsimp only at N'zz))); trivial)
example : True := by ((k_with "room" => ((simp only [List.length_map, sizeLine_eq]); omega)); trivial)
example : True := by ((k_with "call ref" => (k_here; (with_reducible show wpAny _ _ (call (Value.ref 407) _) _ _ _); k_extra "goes")); trivial)
example : True := by ((k_with "kla" => (k_dflt (refine' kla_code ?k1zz ?k2zz ?k3zz ?k4zz ?k5zz ?kAzz ?kFzz ?kKzz ?k6zz ?k7zz ?k8zz ?k9zz ?kBzz ?_ ?c2zz ?c3zz ?c4zz ?c5zz; (case kAzz => exact rfl); (case kFzz => exact rfl); (case kKzz => assumption); k_extra "u1"; (case k6zz => assumption); (case k7zz => exact codeRec_news (by k_asm) (by assumption) (by assumption) (by assumption)); (case k8zz => ktr_room); (case k9zz => exact rfl); (case c5zz => decide); (case kBzz => exact locs rfl); (case c2zz => exact rfl); (case c3zz => exact rfl); (case c4zz => exact rfl); k_whole); intro g'zz L'zz h'zz FG'zz F'zz N'zz B'zz X'zz T'zz; (try dsimp only); (try k_fold))); trivial)
example : True := by ((k_with "call ref" => (k_here; (with_reducible show wpAny _ _ (call (Value.ref 283) _) _ _ _); k_dflt ((refine' sp_use (sp_number_sgn _ _ _ _ _ _ _ ?p1zz ?p2zz ?p3zz) ?k1zz ?k2zz ?k3zz ?k4zz ?k5zz ?kKzz ?kdzz ?kuzz ?_); k_extra "u1"; k_extra "u2"; (case p3zz => k_dflt k_mem); (case p2zz => first | assumption | exact NumIn.mono (by assumption) (by kcj_all)); (case p1zz => assumption); k_extra "u3"; skip; k_extra "u4"))); trivial)
example : True := by ((k_with "call ref" => (k_here; (with_reducible show wpAny _ _ (call (Value.ref 290) _) _ _ _); k_dflt ((refine' sp_use (sp_number_int _ _ _ _ _ _ _ _ _ _ _ _ _ ?p1zz ?p2zz ?p3zz ?p4zz) ?k1zz ?k2zz ?k3zz ?k4zz ?k5zz ?kKzz ?kdzz ?kuzz ?_); k_extra "u1"; k_extra "u2"; (case p4zz => k_dflt k_mem); (case p3zz => first | assumption | exact NumIn.mono (by assumption) (by kcj_all)); (case p1zz => first | assumption | exact WorldIn.mono (by assumption) (by kcj_all)); (case p2zz => assumption); k_extra "u3"; skip; k_extra "u4"))); trivial)
example : True := by ((k_with "call ref" => (k_here; (with_reducible show wpAny _ _ (call (Value.ref 297) _) _ _ _); k_dflt ((refine' sp_use (sp_number_fix _ _ _ _ _ _ _ _ _ _ _ _ _ ?p1zz ?p2zz ?p3zz ?p4zz) ?k1zz ?k2zz ?k3zz ?k4zz ?k5zz ?kKzz ?kdzz ?kuzz ?_); k_extra "u1"; k_extra "u2"; (case p4zz => k_dflt k_mem); (case p3zz => first | assumption | exact NumIn.mono (by assumption) (by kcj_all)); (case p1zz => first | assumption | exact WorldIn.mono (by assumption) (by kcj_all)); (case p2zz => assumption); k_extra "u3"; skip; k_extra "u4"))); trivial)
example : True := by ((k_with "call ref" => (k_here; (with_reducible show wpAny _ _ (call (Value.ref 304) _) _ _ _); k_dflt ((refine' sp_use (sp_number_cint _ _ _ _ _ _ _ _ _ _ _ _ _ ?p1zz ?p2zz ?p3zz ?p4zz) ?k1zz ?k2zz ?k3zz ?k4zz ?k5zz ?kKzz ?kdzz ?kuzz ?_); k_extra "u1"; k_extra "u2"; (case p4zz => k_dflt k_mem); (case p3zz => first | assumption | exact NumIn.mono (by assumption) (by kcj_all)); (case p1zz => first | assumption | exact WorldIn.mono (by assumption) (by kcj_all)); (case p2zz => assumption); k_extra "u3"; skip; k_extra "u4"))); trivial)
example : True := by ((k_with "subscriptTail Name Name ref int" => (k_extra "item")); trivial)
theorem stageG {w : World} {body : List Stmt} {scope : Scope} (hdef : LawDef body scope) {p : Program} {loose : List Str} {mean : ExcName → Option Value} {mg mb : Str → Option Value} {h₀ : Heap} {L fa : Addr} {u : Str → Option Value} {s : Shared} {Q : Flow → Shared → Prop} {E : Value → Shared → Prop}
    {ow om oc oj ot jo : Obj} {jar sl x dx pa sa rr c' : Addr} {tb td tm tw : Tok} {ks kz kp n many : Nat} {vs : List Value} {ns : List Int} {es : List DictEntry} {c0 m0 : Option Value} {R : Led} {z : List VN} {pxs : List (Value × Int × Int)} {wh : Int} {vm : Value} {NM : Num}
    (B : Below callerA h₀ [] h₀) (X : (hd.heap_1 w.params).In h₀) (T : Top p loose mean mg mb h₀)
    (dw : ow.data = .cell (some (.ref x))) (dm : om.data = .cell m0) (dc : oc.data = .cell c0) (dj : oj.data = .cell (some (.ref jar)))
    (hvs : IntsAre vs ns) (hvl : vs.length ≤ 60)
    (o1 : @LT.lt Nat _ 409 L) (o2 : @LT.lt Nat _ (L + 1 + 1 + 1 + 1) jar) (o3 : @LT.lt Nat _ sl jar) (hW : WorldIn R (.ref x) x dx es n tb td)
    (hR : Rest L jar sl x dx oj ow vs ks es n R)
    (hE : PassesOwn (model PW w) (lawA L fa scope) (envOfC (Str.ofString "law") scope L fa (.ref 411)) E)
    (hot : ot.cls ≠ .type "tuple")
    (hm : many = 3 ∨ many = 4) (hP : PairsAt R many pa pxs kp)
    (hrr : (rr, listOf (z.map (·.1)).toArray kz) ∈ R) (hz : NumsIn R z) (hzl : z.length = many) (hzb : ∀ y ∈ z, -2500 ≤ y.2.units ∧ y.2.units ≤ 3500)
    (hw0 : 0 ≤ wh) (hw5 : wh < 5) (hm0 : m0 = some vm) (hnm : NumIn R vm NM) (okm : NM.Ok) (hmb : -2500 ≤ NM.units ∧ NM.units ≤ 2500)
    (CH : CodeHd h₀ 411 409) (hot2 : ot = tabObj #[rawInt 295, rawInt 0, .ref c'])
    (F : Fr h₀ L s.heap (putM [("many", .int many tm), ("pairs", .ref pa), ("some", .ref sa), ("which", .int wh tw), ("row", .ref rr)] u)) (N : News h₀ L s.heap (headLed L ot oc om jar jo R))
    (next : ∀ h' tk' u' led ps, (409, tabObj ps) ∈ led → (∀ p ∈ (L + 1 + 1 + 1, om) :: R, p ∈ led) → Fr h₀ L h' (putM [("pairs", .ref pa), ("row", .ref rr)] u') → News h₀ L h' led →
      wpAny (model PW w) (lawA L fa scope) (execs (body.drop 19) (envOfC (Str.ofString "law") scope L fa (.ref 411))) Q E { s with heap := h', toks := tk' }) :
    wpAny (model PW w) (lawA L fa scope) (execs (body.drop 15) (envOfC (Str.ofString "law") scope L fa (.ref 411))) Q E s := by
  obtain ⟨hb9, hs9⟩ := LawDef.at hdef
  clear hdef
  subst hb9
  have q7 : lawScope = Scope.mk _ _ _ _ _ := rfl
  rw [q7] at hs9
  clear q7
  subst hs9
  dsimp only [headLed] at N
  subst hot2
  subst hm0
  obtain ⟨r1, r2, r3, r4, r5, r6, r7, r8, r9⟩ := hR
  obtain ⟨p1, p2, p3, p4⟩ := hP
  have q3 : lawBody.drop 15 = _ :: _ :: _ :: _ :: lawBody.drop 19 := rfl
  rw [q3]
  clear q3
  generalize lawBody.drop 19 = rest9 at next ⊢
  k_with "goes" => refine hold_intro ?_
  k_with "item" => refine hold_intro ?_
  repeat' (first | (k_unfold; (try dsimp only)) | walk1 | (dsimp only; walk1) | (leave1; try dsimp only))
  have h5 : wh = 0 ∨ wh = 1 ∨ wh = 2 ∨ wh = 3 ∨ wh = 4 := by omega
  have hzB : Bnd z := fun q hq => by have := hzb q hq; omega
  rcases h5 with rfl | rfl | rfl | rfl | rfl
  · k_dflt (refine' item_litK ?q1 ?q2 ?q3 ?q4 ?q5 ?q6)
    case q1 => exact isListOf (by k_asm) (.head _)
    case q2 => decide
    case q3 => decide
    case q6 => with_unfolding_all rfl
    case q4 => exact rfl
    case q5 =>
      repeat' (first | (k_unfold; (try dsimp only)) | walk1 | (dsimp only; walk1) | (leave1; try dsimp only))
      k_dflt (refine' sp_use (sp_law_goes_through _ _ _ _ _ pxs z _ _ 10 100 (fun v => 100 * (v / 100)) _ mono_int (hz.mono ?g1) ?g2 ?g3 (p2.mono ?g4) ?g5 ?g6 ?g7 (held ?fn) (held ?wk) hzB) ?k1 ?k2 ?k3 ?k4 ?k5 ?kK ?kd ?ku ?mn)
      (case k1 => k_asm)
      (case k2 => k_asm)
      (case k3 => k_asm)
      (case k4 => k_asm)
      (case k5 => k_asm)
      (case g1 => kcj_all)
      (case g2 => k_dflt k_mem)
      (case g3 => omega)
      (case g4 => kcj_all)
      (case g5 => k_dflt k_mem)
      (case g6 => exact pok_of p3 (by omega))
      (case g7 => omega)
      (case kK => first | exact rfl | assumption)
      (case kd => ktr_room)
      (case ku => ktr_units)
      case fn => exact fun h₀ L h m F X N => ⟨_, _, _, _, (N _ (.tail _ (.tail _ (.tail _ (.tail _ (.tail _ (.tail _ (.tail _ (.tail _ (.tail _ (.tail _ (.tail _ (.tail _ (.tail _ (.head _))))))))))))))).1⟩
      case wk =>
        intro led v N hs hv hok hb1 hb2
        have hf := hs _ (.tail _ (.tail _ (.tail _ (.tail _ (.tail _ (.tail _ (.tail _ (.tail _ (.tail _ (.tail _ (.tail _ (.tail _ (.tail _ (.head _))))))))))))))
        have hc := hs _ (.tail _ (.tail _ (.tail _ (.tail _ (.tail _ (.tail _ (.tail _ (.tail _ (.tail _ (.tail _ (.tail _ (.tail _ (.tail _ (.tail _ (.head _)))))))))))))))
        have hcw := hs _ (by k_mem : (L + 1 + 1 + 1 + 1, ow) ∈ _)
        have hcm := hs _ (by k_mem : (L + 1 + 1 + 1, om) ∈ _)
        have hWl : WorldIn led (.ref x) x dx es n tb td := hW.mono (fun p hp => hs p (by k_mem))
        have hnl : NumIn led vm NM := hnm.mono (fun p hp => hs p (by k_mem))
        have hsum : -10000 ≤ N.units + NM.units ∧ N.units + NM.units ≤ 10000 := by omega
        unfold Sp
        intro p' loose' mean' mg' mb' dp un gd cn cs a ccd cl outer A₀ base h₀' L' m' s' Q' E' B' F' X' N' T' hk hd hu hret
        refine wpAny_call ?_
        k_extra "kla"
        repeat' (first | (k_unfold; (try dsimp only)) | walk1 | (dsimp only; walk1) | (leave1; try dsimp only))
        have r9zz := True.intro; have tl9zz := True.intro; have h9zz := True.intro; have tk9zz := True.intro; have F9zz := True.intro; have N9zz := True.intro; have l9zz := True.intro; have o9zz := True.intro; have kFzz := True.intro; have kNzz := True.intro -- ok
        rename_i l1 r9 tl9 h9 tk9 F9 N9 l9 o9 kF kN -- ok
        obtain ⟨a1, a2, a3⟩ := wk_ret kN l1 l9 o9
        exact hret _ _ _ _ kF a1 a2 a3
      case mn =>
        intro r9 tl9 h9 tk9 F9 N9 l9 o9
        obtain ⟨e9, f9⟩ := o9
        subst e9
        subst f9
        simp only [List.nil_append] at N9
        repeat' (first | (k_unfold; (try dsimp only)) | walk1 | (dsimp only; walk1) | (leave1; try dsimp only))
        exact next _ _ _ _ _ (by k_mem) (by kcj_all) (fr_eq (by k_asm) (putM_cons rfl (putM_cons rfl (putM_nil _)))) N9
  · k_dflt (refine' item_litK ?q1 ?q2 ?q3 ?q4 ?q5 ?q6)
    case q1 => exact isListOf (by k_asm) (.head _)
    case q2 => decide
    case q3 => decide
    case q6 => with_unfolding_all rfl
    case q4 => exact rfl
    case q5 =>
      repeat' (first | (k_unfold; (try dsimp only)) | walk1 | (dsimp only; walk1) | (leave1; try dsimp only))
      k_dflt (refine' sp_use (sp_law_goes_through _ _ _ _ _ pxs z _ _ 10 100 Fx _ mono_fix (hz.mono ?g1) ?g2 ?g3 (p2.mono ?g4) ?g5 ?g6 ?g7 (held ?fn) (held ?wk) hzB) ?k1 ?k2 ?k3 ?k4 ?k5 ?kK ?kd ?ku ?mn)
      (case k1 => k_asm)
      (case k2 => k_asm)
      (case k3 => k_asm)
      (case k4 => k_asm)
      (case k5 => k_asm)
      (case g1 => kcj_all)
      (case g2 => k_dflt k_mem)
      (case g3 => omega)
      (case g4 => kcj_all)
      (case g5 => k_dflt k_mem)
      (case g6 => exact pok_of p3 (by omega))
      (case g7 => omega)
      (case kK => first | exact rfl | assumption)
      (case kd => ktr_room)
      (case ku => ktr_units)
      case fn => exact fun h₀ L h m F X N => ⟨_, _, _, _, (N _ (.tail _ (.tail _ (.tail _ (.tail _ (.tail _ (.tail _ (.tail _ (.tail _ (.tail _ (.tail _ (.tail _ (.head _))))))))))))).1⟩
      case wk =>
        intro led v N hs hv hok hb1 hb2
        have hf := hs _ (.tail _ (.tail _ (.tail _ (.tail _ (.tail _ (.tail _ (.tail _ (.tail _ (.tail _ (.tail _ (.tail _ (.head _))))))))))))
        have hc := hs _ (.tail _ (.tail _ (.tail _ (.tail _ (.tail _ (.tail _ (.tail _ (.tail _ (.tail _ (.tail _ (.tail _ (.tail _ (.head _)))))))))))))
        have hcw := hs _ (by k_mem : (L + 1 + 1 + 1 + 1, ow) ∈ _)
        have hcm := hs _ (by k_mem : (L + 1 + 1 + 1, om) ∈ _)
        have hWl : WorldIn led (.ref x) x dx es n tb td := hW.mono (fun p hp => hs p (by k_mem))
        have hnl : NumIn led vm NM := hnm.mono (fun p hp => hs p (by k_mem))
        have hsum : -10000 ≤ N.units + NM.units ∧ N.units + NM.units ≤ 10000 := by omega
        unfold Sp
        intro p' loose' mean' mg' mb' dp un gd cn cs a ccd cl outer A₀ base h₀' L' m' s' Q' E' B' F' X' N' T' hk hd hu hret
        refine wpAny_call ?_
        k_extra "kla"
        repeat' (first | (k_unfold; (try dsimp only)) | walk1 | (dsimp only; walk1) | (leave1; try dsimp only))
        have r9zz := True.intro; have tl9zz := True.intro; have h9zz := True.intro; have tk9zz := True.intro; have F9zz := True.intro; have N9zz := True.intro; have l9zz := True.intro; have o9zz := True.intro; have kFzz := True.intro; have kNzz := True.intro -- ok
        rename_i l1 r9 tl9 h9 tk9 F9 N9 l9 o9 kF kN -- ok
        obtain ⟨a1, a2, a3⟩ := wk_ret kN l1 l9 o9
        exact hret _ _ _ _ kF a1 a2 a3
      case mn =>
        intro r9 tl9 h9 tk9 F9 N9 l9 o9
        obtain ⟨e9, f9⟩ := o9
        subst e9
        subst f9
        simp only [List.nil_append] at N9
        repeat' (first | (k_unfold; (try dsimp only)) | walk1 | (dsimp only; walk1) | (leave1; try dsimp only))
        exact next _ _ _ _ _ (by k_mem) (by kcj_all) (fr_eq (by k_asm) (putM_cons rfl (putM_cons rfl (putM_nil _)))) N9
  · k_dflt (refine' item_litK ?q1 ?q2 ?q3 ?q4 ?q5 ?q6)
    case q1 => exact isListOf (by k_asm) (.head _)
    case q2 => decide
    case q3 => decide
    case q6 => with_unfolding_all rfl
    case q4 => exact rfl
    case q5 =>
      repeat' (first | (k_unfold; (try dsimp only)) | walk1 | (dsimp only; walk1) | (leave1; try dsimp only))
      k_dflt (refine' sp_use (sp_law_goes_through _ _ _ _ _ pxs z _ _ 10 100 (fun v => 100 * Rn v) _ mono_rn (hz.mono ?g1) ?g2 ?g3 (p2.mono ?g4) ?g5 ?g6 ?g7 (held ?fn) (held ?wk) hzB) ?k1 ?k2 ?k3 ?k4 ?k5 ?kK ?kd ?ku ?mn)
      (case k1 => k_asm)
      (case k2 => k_asm)
      (case k3 => k_asm)
      (case k4 => k_asm)
      (case k5 => k_asm)
      (case g1 => kcj_all)
      (case g2 => k_dflt k_mem)
      (case g3 => omega)
      (case g4 => kcj_all)
      (case g5 => k_dflt k_mem)
      (case g6 => exact pok_of p3 (by omega))
      (case g7 => omega)
      (case kK => first | exact rfl | assumption)
      (case kd => ktr_room)
      (case ku => ktr_units)
      case fn => exact fun h₀ L h m F X N => ⟨_, _, _, _, (N _ (.tail _ (.tail _ (.tail _ (.tail _ (.tail _ (.tail _ (.tail _ (.tail _ (.head _)))))))))).1⟩
      case wk =>
        intro led v N hs hv hok hb1 hb2
        have hf := hs _ (.tail _ (.tail _ (.tail _ (.tail _ (.tail _ (.tail _ (.tail _ (.tail _ (.head _)))))))))
        have hc := hs _ (.tail _ (.tail _ (.tail _ (.tail _ (.tail _ (.tail _ (.tail _ (.tail _ (.tail _ (.head _))))))))))
        have hcw := hs _ (by k_mem : (L + 1 + 1 + 1 + 1, ow) ∈ _)
        have hcm := hs _ (by k_mem : (L + 1 + 1 + 1, om) ∈ _)
        have hWl : WorldIn led (.ref x) x dx es n tb td := hW.mono (fun p hp => hs p (by k_mem))
        have hnl : NumIn led vm NM := hnm.mono (fun p hp => hs p (by k_mem))
        have hsum : -10000 ≤ N.units + NM.units ∧ N.units + NM.units ≤ 10000 := by omega
        unfold Sp
        intro p' loose' mean' mg' mb' dp un gd cn cs a ccd cl outer A₀ base h₀' L' m' s' Q' E' B' F' X' N' T' hk hd hu hret
        refine wpAny_call ?_
        k_extra "kla"
        repeat' (first | (k_unfold; (try dsimp only)) | walk1 | (dsimp only; walk1) | (leave1; try dsimp only))
        have r9zz := True.intro; have tl9zz := True.intro; have h9zz := True.intro; have tk9zz := True.intro; have F9zz := True.intro; have N9zz := True.intro; have l9zz := True.intro; have o9zz := True.intro; have kFzz := True.intro; have kNzz := True.intro -- ok
        rename_i l1 r9 tl9 h9 tk9 F9 N9 l9 o9 kF kN -- ok
        obtain ⟨a1, a2, a3⟩ := wk_ret kN l1 l9 o9
        exact hret _ _ _ _ kF a1 a2 a3
      case mn =>
        intro r9 tl9 h9 tk9 F9 N9 l9 o9
        obtain ⟨e9, f9⟩ := o9
        subst e9
        subst f9
        simp only [List.nil_append] at N9
        repeat' (first | (k_unfold; (try dsimp only)) | walk1 | (dsimp only; walk1) | (leave1; try dsimp only))
        exact next _ _ _ _ _ (by k_mem) (by kcj_all) (fr_eq (by k_asm) (putM_cons rfl (putM_cons rfl (putM_nil _)))) N9
  · k_dflt (refine' item_litK ?q1 ?q2 ?q3 ?q4 ?q5 ?q6)
    case q1 => exact isListOf (by k_asm) (.head _)
    case q2 => decide
    case q3 => decide
    case q6 => with_unfolding_all rfl
    case q4 => exact rfl
    case q5 =>
      repeat' (first | (k_unfold; (try dsimp only)) | walk1 | (dsimp only; walk1) | (leave1; try dsimp only))
      k_dflt (refine' sp_use (sp_law_goes_through _ _ _ _ _ pxs z _ _ 10 100 (fun v => 100 * sgn v) _ mono_sgn (hz.mono ?g1) ?g2 ?g3 (p2.mono ?g4) ?g5 ?g6 ?g7 (held ?fn) (held ?wk) hzB) ?k1 ?k2 ?k3 ?k4 ?k5 ?kK ?kd ?ku ?mn)
      (case k1 => k_asm)
      (case k2 => k_asm)
      (case k3 => k_asm)
      (case k4 => k_asm)
      (case k5 => k_asm)
      (case g1 => kcj_all)
      (case g2 => k_dflt k_mem)
      (case g3 => omega)
      (case g4 => kcj_all)
      (case g5 => k_dflt k_mem)
      (case g6 => exact pok_of p3 (by omega))
      (case g7 => omega)
      (case kK => first | exact rfl | assumption)
      (case kd => ktr_room)
      (case ku => ktr_units)
      case fn => exact fun h₀ L h m F X N => ⟨_, _, _, _, (N _ (.tail _ (.tail _ (.tail _ (.tail _ (.tail _ (.tail _ (.head _)))))))).1⟩
      case wk =>
        intro led v N hs hv hok hb1 hb2
        have hf := hs _ (.tail _ (.tail _ (.tail _ (.tail _ (.tail _ (.tail _ (.head _)))))))
        have hc := hs _ (.tail _ (.tail _ (.tail _ (.tail _ (.tail _ (.tail _ (.tail _ (.head _))))))))
        have hcw := hs _ (by k_mem : (L + 1 + 1 + 1 + 1, ow) ∈ _)
        have hcm := hs _ (by k_mem : (L + 1 + 1 + 1, om) ∈ _)
        have hWl : WorldIn led (.ref x) x dx es n tb td := hW.mono (fun p hp => hs p (by k_mem))
        have hnl : NumIn led vm NM := hnm.mono (fun p hp => hs p (by k_mem))
        have hsum : -10000 ≤ N.units + NM.units ∧ N.units + NM.units ≤ 10000 := by omega
        unfold Sp
        intro p' loose' mean' mg' mb' dp un gd cn cs a ccd cl outer A₀ base h₀' L' m' s' Q' E' B' F' X' N' T' hk hd hu hret
        refine wpAny_call ?_
        k_extra "kla"
        repeat' (first | (k_unfold; (try dsimp only)) | walk1 | (dsimp only; walk1) | (leave1; try dsimp only))
        have r9zz := True.intro; have tl9zz := True.intro; have h9zz := True.intro; have tk9zz := True.intro; have F9zz := True.intro; have N9zz := True.intro; have l9zz := True.intro; have o9zz := True.intro; have kFzz := True.intro; have kNzz := True.intro -- ok
        rename_i l1 r9 tl9 h9 tk9 F9 N9 l9 o9 kF kN -- ok
        obtain ⟨a1, a2, a3⟩ := wk_ret kN l1 l9 o9
        exact hret _ _ _ _ kF a1 a2 a3
      case mn =>
        intro r9 tl9 h9 tk9 F9 N9 l9 o9
        obtain ⟨e9, f9⟩ := o9
        subst e9
        subst f9
        simp only [List.nil_append] at N9
        repeat' (first | (k_unfold; (try dsimp only)) | walk1 | (dsimp only; walk1) | (leave1; try dsimp only))
        exact next _ _ _ _ _ (by k_mem) (by kcj_all) (fr_eq (by k_asm) (putM_cons rfl (putM_cons rfl (putM_nil _)))) N9
  · k_dflt (refine' item_litK ?q1 ?q2 ?q3 ?q4 ?q5 ?q6)
    case q1 => exact isListOf (by k_asm) (.head _)
    case q2 => decide
    case q3 => decide
    case q6 => with_unfolding_all rfl
    case q4 => exact rfl
    case q5 =>
      repeat' (first | (k_unfold; (try dsimp only)) | walk1 | (dsimp only; walk1) | (leave1; try dsimp only))
      k_dflt (refine' sp_use (sp_law_goes_through _ _ _ _ _ pxs z _ _ 10 100 (fun v => v + NM.units) _ (fun a b h => by show a + _ ≤ b + _; omega) (hz.mono ?g1) ?g2 ?g3 (p2.mono ?g4) ?g5 ?g6 ?g7 (held ?fn) (held ?wk) hzB) ?k1 ?k2 ?k3 ?k4 ?k5 ?kK ?kd ?ku ?mn)
      (case k1 => k_asm)
      (case k2 => k_asm)
      (case k3 => k_asm)
      (case k4 => k_asm)
      (case k5 => k_asm)
      (case g1 => kcj_all)
      (case g2 => k_dflt k_mem)
      (case g3 => omega)
      (case g4 => kcj_all)
      (case g5 => k_dflt k_mem)
      (case g6 => exact pok_of p3 (by omega))
      (case g7 => omega)
      (case kK => first | exact rfl | assumption)
      (case kd => ktr_room)
      (case ku => ktr_units)
      case fn => exact fun h₀ L h m F X N => ⟨_, _, _, _, (N _ (.tail _ (.tail _ (.head _)))).1⟩
      case wk =>
        intro led v N hs hv hok hb1 hb2
        have hf := hs _ (.tail _ (.tail _ (.head _)))
        have hc := hs _ (.tail _ (.tail _ (.tail _ (.head _))))
        have hcw := hs _ (by k_mem : (L + 1 + 1 + 1 + 1, ow) ∈ _)
        have hcm := hs _ (by k_mem : (L + 1 + 1 + 1, om) ∈ _)
        have hWl : WorldIn led (.ref x) x dx es n tb td := hW.mono (fun p hp => hs p (by k_mem))
        have hnl : NumIn led vm NM := hnm.mono (fun p hp => hs p (by k_mem))
        have hsum : -10000 ≤ N.units + NM.units ∧ N.units + NM.units ≤ 10000 := by omega
        unfold Sp
        intro p' loose' mean' mg' mb' dp un gd cn cs a ccd cl outer A₀ base h₀' L' m' s' Q' E' B' F' X' N' T' hk hd hu hret
        refine wpAny_call ?_
        k_extra "kla"
        repeat' (first | (k_unfold; (try dsimp only)) | walk1 | (dsimp only; walk1) | (leave1; try dsimp only))
        exact hret _ _ _ _ (by k_asm) (by k_asm) (by assumption) (by assumption)
      case mn =>
        intro r9 tl9 h9 tk9 F9 N9 l9 o9
        obtain ⟨e9, f9⟩ := o9
        subst e9
        subst f9
        simp only [List.nil_append] at N9
        repeat' (first | (k_unfold; (try dsimp only)) | walk1 | (dsimp only; walk1) | (leave1; try dsimp only))
        exact next _ _ _ _ _ (by k_mem) (by kcj_all) (fr_eq (by k_asm) (putM_cons rfl (putM_cons rfl (putM_nil _)))) N9
end Mine
end
section
open PySem PySem.W PyProof.Rows
set_option maxRecDepth 100000
set_option maxHeartbeats 8000000
set_option linter.unusedVariables false
namespace Mine
example : True := by (k_with_none; trivial)
example : True := by ((k_with "u1" => ((case k1zz => k_asm); (case k2zz => k_asm); (case k3zz => k_asm); (case k4zz => k_asm); (case k5zz => k_asm))); trivial)
example : True := by ((k_with "u2" => ((case kKzz => first | exact rfl | assumption); (case kdzz => ktr_room); (case kuzz => ktr_units))); trivial)
example : True := by ((k_with "u3" => (intro r9zz tl9zz h9zz tk9zz F9zz N9zz l9zz o9zz; (try dsimp only at o9zz))); trivial)
example : True := by ((k_with "u4" => ((try simp only [List.nil_append, List.cons_append] at N9zz); (try dsimp only); (try k_fold))); trivial)
example : True := by ((k_with "suf" => (first | apply sub_refl | assumption | (refine sub_tail ?_; k_extra "suf") | (refine sub_app ?_; k_extra "suf") | apply sub_nil | (refine sub_appL ?_; k_extra "suf"))); trivial)
example : True := by ((k_with "in" => (first | assumption | apply in_head | (refine in_tail ?_; k_extra "in") | (refine in_app ?_; k_extra "in") | (refine in_appL ?_; k_extra "in"))); trivial)
example : True := by ((k_with "sub" => (first | k_extra "suf" | (refine sub_cons ?_ ?_; (focus k_extra "in"); k_extra "sub") | (refine sub_both ?_ ?_; (focus k_extra "sub"); k_extra "sub") | (refine sub_trans ?_ (by assumption); k_extra "suf"))); trivial)
example : True := by ((k_with "lt0" => (first | assumption | (refine Mine.pickA (by assumption) ?_; intro hz9zz; first | apply hz9zz.1 | (replace hz9zz := hz9zz.2; first | apply hz9zz.1 | (replace hz9zz := hz9zz.2; first | apply hz9zz.1 | (replace hz9zz := hz9zz.2; first | apply hz9zz.1 | (replace hz9zz := hz9zz.2; first | apply hz9zz.1 | (replace hz9zz := hz9zz.2; first | apply hz9zz.1 | (replace hz9zz := hz9zz.2; first | apply hz9zz.1 | (replace hz9zz := hz9zz.2; first | apply hz9zz.1 | (replace hz9zz := hz9zz.2; first | apply hz9zz.1 | (replace hz9zz := hz9zz.2; first | apply hz9zz.1 | (replace hz9zz := hz9zz.2; first | apply hz9zz.1 | (replace hz9zz := hz9zz.2; first | apply hz9zz.1 | (replace hz9zz := hz9zz.2; first | apply hz9zz.1 | (replace hz9zz := hz9zz.2; first | apply hz9zz.1 | apply hz9zz.2)))))))))))))))); trivial)
example : True := by ((k_with "lt1" => (first | apply Mine.sl1 | apply Mine.sl2 | apply Mine.sl3 | apply Mine.sl4 | exact Mine.dn1 (by assumption) | exact Mine.dn2 (by assumption) | exact Mine.dn3 (by assumption) | exact Mine.dn4 (by assumption) | exact Mine.upx (by assumption) (by assumption) | exact Mine.up4 (by assumption) | (refine Nat.lt_trans ?_ (by assumption); first | k_extra "lt0" | exact Mine.dn1 (by assumption) | exact Mine.dn2 (by assumption) | exact Mine.dn3 (by assumption) | exact Mine.dn4 (by assumption) | (refine Nat.lt_trans ?_ (by assumption); k_extra "lt0")))); trivial)
example : True := by ((k_with "LeaveK" => (k_dflt (refine' leaveK_ ?k1zz ?k2zz ?_; (case k1zz => k_asm); (case k2zz => k_asm); k_whole); intro kFzz kNzz; (try dsimp only))); trivial)
example : True := by ((k_with "k_mem" => (first | assumption | (refine' List.mem_append_right _ ?_; k_mem) | (refine' List.mem_append_left _ ?_; k_mem))); trivial)
example : True := by ((k_with "kcj_all" => (k_whole; first | (refine fun pzz hpzz => List.mem_append_right _ ?_; assumption) | (intro pzz hpzz; (simp only [List.mem_append, List.mem_cons, List.not_mem_nil, or_false, false_or] at hpzz ⊢); first | assumption | (simp only [hpzz, true_or, or_true]; done) | grind))); trivial)
example : True := by ((k_with "kcj_all" => (k_whole; with_reducible k_extra "sub")); trivial)
example : True := by ((k_with "newTuple" => (k_here; k_dflt (refine' kup_newTuple ?Fzz ?Nzz ?_ ?zzz; (case Fzz => k_asm); (case Nzz => k_asm); (case zzz => kmk_size)); intro D'zz h'zz F'zz N'zz l1zz; (try k_lt l1zz); (try k_sweep))); trivial)
example : True := by ((k_with "binaryOp Pow int int" => ((with_reducible refine pow_int_small ?kb1zz ?kb2zz ?kb3zz ?_); (case kb1zz => omega); (case kb2zz => omega); (case kb3zz => decide))); trivial)
example : True := by ((k_with "subscriptTail" => (k_here; (with_reducible show wpAny _ _ (subscriptTail _ _ (Value.ref _) (Value.int _ _)) _ _ _); (with_unfolding_all refine' item_litK ?k1zz ?k2zz ?k3zz ?k4zz ?_ ?k6zz; (case k1zz => exact isListOf (by k_asm) (by k_mem)); (case k2zz => first | decide | omega); (case k3zz => first | decide | omega); (case k4zz => first | rfl | assumption); (case k6zz => with_unfolding_all rfl); k_whole))); trivial)
example : True := by ((k_with "subscriptTail Name Name ref int" => (k_here; (with_reducible show wpAny _ _ (subscriptTail _ _ (Value.ref _) (Value.int _ _)) _ _ _); (with_unfolding_all refine' item_litK ?k1zz ?k2zz ?k3zz ?k4zz ?_ ?k6zz; (case k1zz => exact isListOf (by k_asm) (by k_mem)); (case k2zz => first | decide | omega); (case k3zz => first | decide | omega); (case k4zz => first | rfl | assumption); (case k6zz => with_unfolding_all rfl); k_whole))); trivial)
example : True := by ((k_with "subscriptTail Name Constant ref int" => (k_here; (with_reducible show wpAny _ _ (subscriptTail _ _ (Value.ref _) (Value.int _ _)) _ _ _); (with_unfolding_all refine' item_litK ?k1zz ?k2zz ?k3zz ?k4zz ?_ ?k6zz; (case k1zz => exact isListOf (by k_asm) (by k_mem)); (case k2zz => first | decide | omega); (case k3zz => first | decide | omega); (case k4zz => first | rfl | assumption); (case k6zz => with_unfolding_all rfl); k_whole))); trivial)
example : True := by ((k_with "call ref" => (k_here; (with_reducible show wpAny _ _ (call (Value.ref 255) _) _ _ _); k_dflt ((refine' sp_use (sp_reckoned _ _ _ _ _ _ _ _ _ ?p1zz ?p2zz ?p3zz ?p4zz ?p5zz) ?k1zz ?k2zz ?k3zz ?k4zz ?k5zz ?kKzz ?kdzz ?kuzz ?_); k_extra "u1"; k_extra "u2"; (case p4zz => first | exact numIn_i | exact numIn_d (by k_mem) | exact NumIn.mono (by assumption) (by kcj_all) | assumption); (case p5zz => first | exact numIn_i | exact numIn_d (by k_mem) | exact NumIn.mono (by assumption) (by kcj_all) | assumption); (case p1zz => assumption); (case p2zz => assumption); (case p3zz => first | assumption | k_extra "sum"); k_extra "u3"; skip; k_extra "u4"))); trivial)
example : True := by ((k_with "getAttr ref" => (k_here; k_dflt (refine' get_own ?k1zz ?k2zz ?k3zz ?k4zz ?k5zz ?k6zz ?k7zz ?k8zz ?k9zz ?_; (case k1zz => k_asm); (case k2zz => k_asm); (case k3zz => k_inst); (case k4zz => k_is); (case k5zz => k_is); (case k6zz => k_is); (case k7zz => k_is); (case k8zz => assumption); (case k9zz => exact rfl); k_whole))); trivial)
example : True := by ((k_with "call ref" => (k_here; (with_reducible show wpAny _ _ (call (Value.ref 262) _) _ _ _); k_dflt ((refine' sp_use (sp_negated _ _ _ _ _ _ ?p1zz ?p2zz) ?k1zz ?k2zz ?k3zz ?k4zz ?k5zz ?kKzz ?kdzz ?kuzz ?_); k_extra "u1"; k_extra "u2"; (case p2zz => first | assumption | exact NumIn.mono (by assumption) (by kcj_all)); (case p1zz => assumption); k_extra "u3"; skip; k_extra "u4"))); trivial)
example : True := by ((k_with "call ref" => (k_here; (with_reducible show wpAny _ _ (call (Value.ref 368) _) _ _ _); k_dflt ((refine' sp_useI (sp_units _ _ _ _ ?p1zz ?p2zz) ?k1zz ?k2zz ?k3zz ?k4zz ?k5zz ?kKzz ?kdzz ?kuzz ?_); k_extra "u1"; k_extra "u2"; (case p2zz => first | assumption | exact NumIn.mono (by assumption) (by kcj_all)); (case p1zz => assumption); intro h9zz tk9zz F9zz t9zz N9zz; (try dsimp only); (try k_fold)))); trivial)
example : True := by ((k_with "call ref" => (k_here; (with_reducible show wpAny _ _ (call (Value.ref 361) _) _ _ _); k_dflt ((refine' sp_use (sp_law_number _ _ _ _ _ ?p1zz ?p2zz) ?k1zz ?k2zz ?k3zz ?k4zz ?k5zz ?kKzz ?kdzz ?kuzz ?_); k_extra "u1"; k_extra "u2"; (case p1zz => omega); (case p2zz => omega); k_extra "u3"; skip; k_extra "u4"))); trivial)
example : True := by ((k_with "call ref" => (k_here; (with_reducible show wpAny _ _ (call (Value.ref 311) _) _ _ _); k_dflt ((refine' sp_useV (sp_number_min _ _ _ _ _ _ _ _ _ ?p1zz ?p2zz ?p3zz ?p4zz ?p5zz) ?k1zz ?k2zz ?k3zz ?k4zz ?k5zz ?kKzz ?kdzz ?kuzz ?_); k_extra "u1"; k_extra "u2"; (case p5zz => k_dflt k_mem); (case p3zz => first | assumption | exact NumIn.mono (by assumption) (by kcj_all)); (case p4zz => first | assumption | exact NumIn.mono (by assumption) (by kcj_all)); (case p1zz => assumption); (case p2zz => assumption); intro h9zz tk9zz F9zz N9zz; (try dsimp only); (try k_fold)))); trivial)
example : True := by ((k_with "call ref" => (k_here; (with_reducible show wpAny _ _ (call (Value.ref 318) _) _ _ _); k_dflt ((refine' sp_useV (sp_number_max _ _ _ _ _ _ _ _ _ ?p1zz ?p2zz ?p3zz ?p4zz ?p5zz) ?k1zz ?k2zz ?k3zz ?k4zz ?k5zz ?kKzz ?kdzz ?kuzz ?_); k_extra "u1"; k_extra "u2"; (case p5zz => k_dflt k_mem); (case p3zz => first | assumption | exact NumIn.mono (by assumption) (by kcj_all)); (case p4zz => first | assumption | exact NumIn.mono (by assumption) (by kcj_all)); (case p1zz => assumption); (case p2zz => assumption); intro h9zz tk9zz F9zz N9zz; (try dsimp only); (try k_fold)))); trivial)
example : True := by ((k_with "call ref" => (k_here; (with_reducible show wpAny _ _ (call (Value.ref 385) _) _ _ _); k_dflt ((refine' sp_useV (sp_law_rises _ _ _ _ _ ?p1zz ?p2zz ?p3zz) ?k1zz ?k2zz ?k3zz ?k4zz ?k5zz ?kKzz ?kdzz ?kuzz ?_); k_extra "u1"; k_extra "u2"; (case p2zz => k_dflt k_mem); (case p1zz => first | assumption | exact NumsIn.mono (by assumption) (by kcj_all) | k_extra "nums"); (case p3zz => first | assumption | k_extra "len"); intro h9zz tk9zz F9zz N9zz; (try dsimp only); (try k_fold)))); trivial)
example : True := by ((k_with "call ref" => (k_here; (with_reducible show wpAny _ _ (call (Value.ref 380) _) _ _ _); k_dflt ((refine' sp_useL (sp_law_led _ _ _ _ _ _ _ _ _ ?p1zz ?p2zz ?p3zz ?p4zz ?p5zz ?p6zz ?p7zz) ?k1zz ?k2zz ?k3zz ?k4zz ?k5zz ?kKzz ?kdzz ?kuzz ?_); k_extra "u1"; k_extra "u2"; (case p2zz => k_dflt k_mem); (case p5zz => k_dflt k_mem); (case p1zz => first | assumption | exact NumsIn.mono (by assumption) (by kcj_all) | k_extra "nums"); (case p3zz => first | assumption | k_extra "len"); (case p4zz => first | assumption | exact PairsIn.mono (by assumption) (by kcj_all)); (case p6zz => first | assumption | k_extra "pok"); (case p7zz => first | assumption | k_extra "len"); intro h9zz tk9zz F9zz D9zz k9zz N9zz l9zz; (try dsimp only); (try k_fold)))); trivial)
example : True := by ((k_with "pyIter ref" => (first | k_extra "comp" | k_extra "for")); trivial)
example : True := by ((k_with "eval Name" => ((with_reducible show wpAny _ _ (eval _ (compEnvC _ _ _ _)) _ _ _); k_dflt (refine' comp_local ?Nzz ?hmzz ?nCzz ?hvzz ?_ ?azz ?bzz ?czz; (case bzz => exact rfl); (case azz => exact rfl); (case Nzz => k_asm); (case nCzz => assumption); (case hmzz => k_dflt k_mem); (case hvzz => assumption); (case czz => decide)))); trivial)
example : True := by ((k_with "eval Name" => ((with_reducible show wpAny _ _ (eval _ (compEnvC _ _ _ _)) _ _ _); k_dflt (refine' comp_cell ?Nzz ?hmzz ?hd'zz ?_ ?azz ?bzz ?ezz ?czz; (case bzz => exact rfl); (case azz => exact rfl); (case ezz => exact rfl); (case Nzz => k_asm); (case hmzz => k_dflt k_mem); (case hd'zz => assumption); (case czz => decide)))); trivial)
example : True := by ((k_with "exec Assign cons ListComp" => (k_dflt (refine' comp_assign ?aFzz ?a1zz ?a2zz ?a3zz ?a4zz ?a5zz ?a6zz ?a7zz ?a8zz ?_; (case aFzz => k_asm); (case a1zz => with_unfolding_all rfl); (case a2zz => with_unfolding_all rfl); (case a3zz => decide); (case a4zz => rfl); (case a5zz => decide); (case a6zz => intro _; with_unfolding_all rfl); (case a7zz => rfl); (case a8zz => rfl)))); trivial)
example : True := by ((k_with "eval ListComp" => (k_dflt (refine' comp_eval ?aFzz ?a2zz ?a3zz ?a4zz ?a5zz ?a6zz ?_; (case aFzz => k_asm); (case a2zz => with_unfolding_all rfl); (case a3zz => decide); (case a4zz => rfl); (case a5zz => decide); (case a6zz => intro _; with_unfolding_all rfl)))); trivial)
example : True := by ((k_with "call builtin:sorted" => (k_here; (with_reducible show wpAny _ _ (call (Value.builtin _) [Value.ref _]) _ _ _); (with_unfolding_all refine' kso_sorted ?k1zz ?k2zz ?k3zz ?k4zz ?k5zz ?_; (case k1zz => k_asm); (case k2zz => k_asm); (case k3zz => exact isListOf (by k_asm) (by k_mem)); (case k4zz => assumption); (case k5zz => assumption); k_whole); intro D'zz v'zz n'zz c'zz h'zz F'zz N'zz l1zz i'zz e'zz p'zz o'zz b'zz; (try k_lt l1zz); (try dsimp only))); trivial)
example : True := by ((k_with "compareOp Eq ref ref" => (k_here; (with_reducible show wpAny _ _ (compareOp CmpOp.Eq (Value.ref _) (Value.ref _)) _ _ _); k_dflt (refine' eq_intsK ?k1zz ?k2zz ?k3zz ?k4zz ?k5zz ?_; (case k1zz => exact isListOf (by k_asm) (by k_mem)); (case k3zz => exact isListOf (by k_asm) (by k_mem)); (case k2zz => assumption); (case k4zz => assumption); (case k5zz => ktr_units); k_whole))); trivial)
example : True := by ((k_with "exec For Tuple Name cons nil" => (k_here; (rename Fr _ _ _ _ => lF'zz); k_dflt (refine' For_invTF lF'zz ?_ ?hszz; (case hszz => intro _; with_unfolding_all rfl)))); trivial)
example : True := by ((k_with "k_all" => (assumption)); trivial)
example : True := by ((k_with "setItem ref int" => (k_here; k_dflt (refine' set_any ?k1zz ?k2zz ?k3zz ?k4zz ?k5zz ?k6zz ?_; (case k1zz => k_asm); (case k2zz => k_asm); (case k3zz => k_upd); (case k4zz => first | assumption | omega); (case k5zz => first | assumption | (simp only [List.length_set]; first | assumption | omega)); (case k6zz => omega); k_whole); intro h'zz F'zz N'zz; (try dsimp only))); trivial)
example : True := by ((k_with "subscriptTail Name Slice ref ref" => (k_here; k_dflt (refine' kmk_slice ?Fzz ?Nzz ?lzz ?pzz ?qzz ?_ ?szz ?tzz ?zzz; (case Fzz => k_asm); (case Nzz => k_asm); (case lzz => exact isListOf (by k_asm) (by k_mem)); (case pzz => kmk_part); (case qzz => kmk_part); (case szz => with_unfolding_all rfl); (case tzz => kmk_pure); (case zzz => (simp only [List.size_toArray, List.length_map, sizeLine_eq]; omega))); intro D'zz h'zz F'zz N'zz l1zz; (simp (disch := omega) only [pick_all, pick_upto, pick_from] at N'zz); (try k_lt l1zz); (try dsimp only))); trivial)
example : True := by ((k_with "len" => (first | assumption | omega | (rw [ledF_len]; omega))); trivial)
example : True := by ((k_with "pok" => (first | assumption | exact pok_of (by assumption) (by first | assumption | rw [ledF_len] | (rw [ledF_len]; assumption)))); trivial)
example : True := by ((k_with "nums" => (first | exact NumsIn.led (by assumption) _ | exact NumsIn.mono (NumsIn.led (by assumption) _) (by kcj_all))); trivial)
example : True := by ((k_with "call builtin:len" => (k_here; (with_reducible show wpAny _ _ (call (Value.builtin "len") [Value.ref _]) _ _ _); k_dflt (refine' len_any ?k1zz ?k2zz ?k3zz ?k4zz ?_; (case k1zz => k_asm); (case k2zz => k_dflt k_mem); (case k3zz => first | exact List.length_map .. | rfl); (case k4zz => first | omega | decide); k_whole))); trivial)
example : True := by ((k_with "call type:range" => (k_here; k_dflt (refine' range_any ?k1zz ?k2zz ?_; (case k1zz => k_asm); (case k2zz => k_asm)); intro D9zz h9zz ta9zz tb9zz tk9zz F9zz N9zz l9zz; (try k_lt l9zz); (try dsimp only); (try k_fold))); trivial)
example : True := by ((k_with "binaryOp Add ref ref" => (k_here; (with_reducible show wpAny _ _ (binaryOp _ (Value.ref _) (Value.ref _)) _ _ _); k_dflt (refine' add_any ?k1zz ?k2zz ?k3zz ?k4zz ?k5zz ?_; (case k1zz => k_asm); (case k2zz => k_asm); (case k3zz => k_dflt k_mem); (case k4zz => k_dflt k_mem); (case k5zz => (simp only [List.length_append, List.length_map, List.length_take, List.length_drop, List.length_cons, List.length_nil, sizeLine_eq]; omega))); intro D9zz h9zz F9zz N9zz l9zz; (try simp only [Int.toNat_natCast, toNat_succ, ← List.map_take, ← List.map_drop, ← List.map_append] at N9zz); (try k_lt l9zz); (try dsimp only); (try k_fold))); trivial)
example : True := by ((k_with "call ref" => (k_here; (with_reducible show wpAny _ _ (call (Value.ref 347) _) _ _ _); k_dflt (refine' fetched_at ?kUzz ?k1zz ?k2zz ?k3zz ?k4zz ?k5zz ?kKzz ?kdzz ?kuzz ?p1zz ?p2zz ?p3zz ?p4zz ?p5zz ?p6zz ?p7zz ?p8zz ?_; (case k1zz => k_asm); (case k2zz => k_asm); (case k3zz => k_asm); (case k4zz => k_asm); (case kUzz => k_updF); (case k5zz => k_asm); (case p7zz => k_dflt k_mem); (case p5zz => assumption); (case p6zz => first | assumption | omega | exact Nat.le_trans (List.length_take_le _ _) (by decide)); (case p8zz => k_ne); (case p1zz => omega); (case p2zz => omega); (case p3zz => omega); (case p4zz => omega); k_extra "u2"; intro x9zz tx9zz ts9zz kj9zz h9zz tk9zz x91zz x92zz F9zz N9zz; (try dsimp only at N9zz); (try dsimp only); (try k_fold)))); trivial)
example : True := by ((k_with "call ref" => (k_here; (with_reducible show wpAny _ _ (call (Value.ref 354) _) _ _ _); k_dflt (refine' pair_at ?kUzz ?k1zz ?k2zz ?k3zz ?k4zz ?k5zz ?kKzz ?kdzz ?kuzz ?p1zz ?p2zz ?p3zz ?p4zz ?p5zz ?p6zz ?p7zz ?p8zz ?_; (case k1zz => k_asm); (case k2zz => k_asm); (case k3zz => k_asm); (case k4zz => k_asm); (case kUzz => k_updF); (case k5zz => k_asm); (case p7zz => k_dflt k_mem); (case p5zz => assumption); (case p6zz => first | assumption | omega | exact Nat.le_trans (List.length_take_le _ _) (by decide)); (case p8zz => k_ne); (case p1zz => omega); (case p2zz => omega); (case p3zz => omega); (case p4zz => omega); k_extra "u2"; intro q9zz lo9zz hi9zz ta9zz tb9zz k9zz ts9zz kj9zz h9zz tk9zz y91zz y92zz y93zz y94zz y95zz F9zz N9zz l9zz; (try k_lt l9zz); (try dsimp only at N9zz); (try dsimp only); (try k_fold)))); trivial)
example : True := by ((k_with "callWith ref" => (k_here; k_dflt (refine' callWith_K ?k1zz ?k2zz ?_; (case k1zz => k_asm); (case k2zz => k_is); k_whole))); trivial)
example : True := by ((k_with "k_all" => ((repeat (refine all_cons ?_ ?_; focus k_ne)); first | assumption | exact List.forall_mem_nil _)); trivial)
example : True := by ((k_with "execs cons" => (k_extra "next")); trivial)
example : True := by ((k_with "k_mem" => (refine' memD ?_; assumption)); trivial)
example : True := by ((k_with "compareOp Eq ref ref" => (k_extra "eq")); trivial)
theorem stageH {w : World} {body : List Stmt} {scope : Scope} (hdef : LawDef body scope) {p : Program} {loose : List Str} {mean : ExcName → Option Value} {mg mb : Str → Option Value} {h₀ : Heap} {L fa : Addr} {u : Str → Option Value} {s : Shared} {Q : Flow → Shared → Prop} {E : Value → Shared → Prop}
    {ow : Obj} {x pa rr : Addr} {ps : Array Value} {kz kp many : Nat} {led : Led} {z : List VN} {pxs : List (Value × Int × Int)}
    (B : Below callerA h₀ [] h₀) (X : (hd.heap_1 w.params).In h₀) (T : Top p loose mean mg mb h₀)
    (dw : ow.data = .cell (some (.ref x))) (r2 : (L + 1 + 1 + 1 + 1, ow) ∈ led) (r409 : (409, tabObj ps) ∈ led)
    (hm : many = 3 ∨ many = 4) (hP : PairsAt led many pa pxs kp)
    (hrr : (rr, listOf (z.map (·.1)).toArray kz) ∈ led) (hz : NumsIn led z) (hzl : z.length = many) (hnd : NodupU z)
    (F : Fr h₀ L s.heap (putM [("pairs", .ref pa), ("row", .ref rr)] u)) (N : News h₀ L s.heap led)
    (fin : ∀ h' tk' m' led', Fr h₀ L h' m' → News h₀ L h' led' → (409, tabObj ps) ∈ led' → Q (.ret (.bool true)) { s with heap := h', toks := tk' }) :
    wpAny (model PW w) (lawA L fa scope) (execs (body.drop 19) (envOfC (Str.ofString "law") scope L fa (.ref 411))) Q E s := by
  obtain ⟨hb9, hs9⟩ := LawDef.at hdef
  clear hdef
  subst hb9
  have q7 : lawScope = Scope.mk _ _ _ _ _ := rfl
  rw [q7] at hs9
  clear q7
  subst hs9
  have q3 : lawBody.drop 19 = [_, _, _] := rfl
  rw [q3]
  clear q3
  obtain ⟨p1, p2, p3, p4⟩ := hP
  have hokz : ∀ q ∈ z, q.2.Ok := fun q hq => (hz q hq).2
  k_with "comp" => refine comp_map_listG (fun led₀ i ys led => Grown led₀ led ∧ ys.length = i ∧ AllG GNeg led z ys) rfl rfl rfl (by k_asm) (by k_asm) (by k_mem) (held ?sz) (held ?h0) (held ?ok) (held ?dn)
  repeat' (first | (k_unfold; (try dsimp only)) | walk1 | (dsimp only; walk1) | (leave1; try dsimp only))
  case sz => exact Nat.le_trans (by rw [List.length_map]; omega : _ ≤ 4) (by decide)
  case h0 => exact ⟨Grown.self _, rfl, fun _ _ _ _ h => by simp at h⟩
  case ok =>
    intro C i v ys led' own oC m₂ h tk E' hv hI Fc Nc nC hm₂ hno
    obtain ⟨hg, hlen, hd⟩ := hI
    have hs := hg.sub
    obtain ⟨y, hyi, rfl⟩ : ∃ y, z[i]? = some y ∧ y.1 = v := by simpa using hv
    obtain ⟨ny, oky⟩ := hz y (List.mem_of_getElem? hyi)
    have hny : NumIn ((C, oC) :: (own ++ led')) y.1 y.2 := ny.mono fun p hp => List.mem_cons_of_mem _ (List.mem_append_right _ (hs p hp))
    repeat' (first | (k_unfold; (try dsimp only)) | walk1 | (dsimp only; walk1) | (leave1; try dsimp only))
    have r9zz := True.intro; have tl9zz := True.intro; have h9zz := True.intro; have tk9zz := True.intro; have F9zz := True.intro; have N9zz := True.intro; have l9zz := True.intro; have o9zz := True.intro -- ok
    rename_i r9 tl9 h9 tk9 F9 N9 l9 o9 -- ok
    exact PStep.intro tl9 (by k_asm) (by assumption) l9 ⟨hg.more (fun q hq p hp => l9 q (List.mem_cons_of_mem _ (List.mem_append_right _ hq)) p hp), by rw [List.length_append, hlen]; rfl, hd.snoc GNeg.drop (fun p hp => List.mem_append_right _ hp) hlen hyi (GNeg.drop.comp nC hno o9)⟩
  case dn =>
    intro D ys led' k' h' tk' hInv hle F9 N9 hne hlt9
    obtain ⟨⟨tl9, rfl, ho⟩, hlen, hd⟩ := hInv
    obtain ⟨zs, rfl, hz2, hzs⟩ := negs_of (by simpa using hlen) hokz hd
    have hls : ∀ p ∈ led, p ∈ tl9 ++ led := fun p hp => List.mem_append_right _ hp
    have hzl2 : (ledF (pxs.map (·.2)) z).length ≤ 4 := by rw [ledF_len]; omega
    have hzn := (hz.led (pxs.map (·.2))).mono hls
    have hz60 : zs.length ≤ 60 := by have := congrArg List.length hz2; simp only [List.length_map] at this; omega
    have hzm : zs.length = many := by have := congrArg List.length hz2; simp only [List.length_map] at this; omega
    have r2' := hls _ r2
    have p1' := hls _ p1
    have hrr' := hls _ hrr
    have p2' := p2.mono hls
    have hz' := hz.mono hls
    have hneg := ledF_neg (pxs.map (·.2)) z zs hnd (fun p hp => by
      obtain ⟨q, hq, rfl⟩ := List.mem_map.mp hp
      rw [hzl]; exact p3 q hq) hz2
    clear ho hlt9 hne hd hlen
    k_with "eq" => refine hold_intro ?_
    k_with "comp" => refine comp_map_listG (fun led₀ i ys led => Grown led₀ led ∧ ys.length = i ∧ AllG GNeg led (ledF (pxs.map (·.2)) z) ys) rfl rfl rfl (by k_asm) (by k_asm) (by k_mem) (held ?sz2) (held ?h02) (held ?ok2) (held ?dn2)
    repeat' (first | (k_unfold; (try dsimp only)) | walk1 | (dsimp only; walk1) | (leave1; try dsimp only))
    case sz2 => exact Nat.le_trans (by rw [List.length_map]; exact hzl2) (by decide)
    case h02 => exact ⟨Grown.self _, rfl, fun _ _ _ _ h => by simp at h⟩
    case ok2 =>
      intro C i v ys led' own oC m₂ h tk E' hv hI Fc Nc nC hm₂ hno
      obtain ⟨hg, hlen, hd⟩ := hI
      have hs := hg.sub
      obtain ⟨y, hyi, rfl⟩ : ∃ y, (ledF (pxs.map (·.2)) z)[i]? = some y ∧ y.1 = v := by simpa using hv
      obtain ⟨ny, oky⟩ := hzn y (List.mem_of_getElem? hyi)
      have hny : NumIn ((C, oC) :: (own ++ led')) y.1 y.2 := ny.mono fun p hp => List.mem_cons_of_mem _ (List.mem_append_right _ (hs p (.tail _ (.tail _ hp))))
      repeat' (first | (k_unfold; (try dsimp only)) | walk1 | (dsimp only; walk1) | (leave1; try dsimp only))
      have r9zz := True.intro; have tl9zz := True.intro; have h9zz := True.intro; have tk9zz := True.intro; have F9zz := True.intro; have N9zz := True.intro; have l9zz := True.intro; have o9zz := True.intro -- ok
      rename_i r9 tl9' h9 tk9 F9 N9 l9 o9 -- ok
      exact PStep.intro tl9' (by k_asm) (by assumption) l9 ⟨hg.more (fun q hq p hp => l9 q (List.mem_cons_of_mem _ (List.mem_append_right _ hq)) p hp), by rw [List.length_append, hlen]; rfl, hd.snoc GNeg.drop (fun p hp => List.mem_append_right _ hp) hlen hyi (GNeg.drop.comp nC hno o9)⟩
    case dn2 =>
      intro D2 ys2 led2 k2 h2 tk2 hInv2 hle2 F2 N2 hne2 hlt2
      obtain ⟨⟨tl2, rfl, ho2⟩, hlen2, hd2⟩ := hInv2
      obtain ⟨ds, rfl, hd3, hds⟩ := negs_of (by simpa using hlen2) (fun q hq => (hzn q hq).2) hd2
      k_with "comp" => refine comp_pair_list (fun led₀ i ys led => ∃ tl qxs, led = tl ++ led₀ ∧ (∀ q ∈ led₀, ∀ p ∈ tl, q.1 < p.1) ∧ ys = qxs.map (·.1) ∧ PairsIn tl qxs ∧ qxs.map (·.2) = ((pxs.take i).map (·.2)).map fun p => (p.2, p.1)) rfl rfl (by decide) rfl rfl (by k_asm) (by k_asm) (by k_mem) (held ?sz3) (held ?h03) (held ?hq3) (held ?ok3) (held ?dn3)
      repeat' (first | (k_unfold; (try dsimp only)) | walk1 | (dsimp only; walk1) | (leave1; try dsimp only))
      case sz3 => exact Nat.le_trans (by rw [List.length_map]; exact p4) (by decide)
      case h03 => exact ⟨[], [], rfl, (fun _ _ _ h => nomatch h), rfl, (fun _ h => nomatch h), rfl⟩
      case hq3 =>
        rintro i v ys led' hv ⟨tl, qxs, rfl, _⟩
        obtain ⟨y, hyi, rfl⟩ : ∃ y, pxs[i]? = some y ∧ y.1 = v := by simpa using hv
        obtain ⟨q, t1, t2, k, e, hm⟩ := p2' y (List.mem_of_getElem? hyi)
        exact ⟨q, _, _, k, e, by k_mem⟩
      case ok3 =>
        intro C i q a b k ys led' own oC m₂ h tk E' hv hI hqm Fc Nc nC ha hb
        obtain ⟨tl, qxs, rfl, ho3, rfl, hq3, hq4⟩ := hI
        obtain ⟨y, hyi, hy1⟩ : ∃ y, pxs[i]? = some y ∧ y.1 = .ref q := by simpa using hv
        obtain ⟨q', t1, t2, kq, e, hmq⟩ := p2' y (List.mem_of_getElem? hyi)
        rw [hy1] at e
        cases e
        have g1 := (Nc _ (List.mem_cons_of_mem _ (List.mem_append_right _ hqm))).1
        have g2 := (Nc (q, tupO [.int y.2.1 t1, .int y.2.2 t2] kq) (by k_mem)).1
        rw [g1] at g2
        have g3 := congrArg Obj.data (Option.some.inj g2)
        simp only [Data.seq.injEq, Array.mk.injEq, List.cons.injEq, and_true] at g3
        obtain ⟨⟨rfl, rfl⟩, rfl⟩ := g3
        clear g1 g2
        repeat' (first | (k_unfold; (try dsimp only)) | walk1 | (dsimp only; walk1) | (leave1; try dsimp only))
        have D'zz := True.intro; have h'zz := True.intro; have F'zz := True.intro; have N'zz := True.intro; have l1zz := True.intro -- ok
        rename_i D9 h9 F9 N9 l9 -- ok
        refine PStep.intro [(D9, tupO [.int y.2.2 t2, .int y.2.1 t1] 0)] (by k_asm) (by assumption) (fun q hq p hp => by rw [List.mem_singleton.mp hp]; exact ktn_ltOf (l := (C, oC) :: (own ++ (tl ++ _))) l9 q hq) ⟨(D9, tupO [.int y.2.2 t2, .int y.2.1 t1] 0) :: tl, qxs ++ [(.ref D9, y.2.2, y.2.1)], rfl, ?_, by simp, ?_, ?_⟩
        · intro q hq p hp
          rcases List.mem_cons.mp hp with rfl | hp
          · exact ktn_ltOf (l := (C, oC) :: (own ++ (tl ++ _))) l9 q (List.mem_cons_of_mem _ (List.mem_append_right _ (List.mem_append_right _ hq)))
          · exact ho3 q hq p hp
        · intro r hr
          rcases List.mem_append.mp hr with hr | hr
          · exact hq3.mono (fun p hp => List.mem_cons_of_mem _ hp) r hr
          · rw [List.mem_singleton.mp hr]; exact ⟨D9, t2, t1, 0, rfl, .head _⟩
        · rw [List.map_append, hq4, List.take_add_one, hyi]
          simp
      case dn3 =>
        intro D3 ys3 led3 k3 h3 tk3 hInv3 hle3 F3 N3 hne3 hlt3
        obtain ⟨tl3, qxs, rfl, ho3, rfl, hq3, hq4⟩ := hInv3
        rw [List.length_map, List.take_length] at hq4
        have hqo : ∀ x ∈ qxs, PairOk zs.length x.2 := by rw [hzm]; exact swap_ok p3 hq4
        have hql : qxs.length ≤ 60 := by have := congrArg List.length hq4; simp only [List.length_map] at this; omega
        have heq : ((ledF (qxs.map (·.2)) zs).map fun x => numDat x.2) = ds.map fun x => numDat x.2 := dats_eq (by rw [hq4, hneg, hd3])
        repeat' (first | (k_unfold; (try dsimp only)) | walk1 | (dsimp only; walk1) | (leave1; try dsimp only))
        refine kqd_eq (ds := (ledF (qxs.map (·.2)) zs).map fun x => numDat x.2) (es := ds.map fun x => numDat x.2) (by k_asm) (by k_mem) rfl rfl (NumsIn.dat (hzs.led _)) (by kcj_all) (by k_mem) rfl rfl (NumsIn.dat hds) (by kcj_all) (fun d hd => ?k1) (fun d hd => ?k2) (by ktr_units) ?k3
        case k1 => obtain ⟨x, _, rfl⟩ := List.mem_map.mp hd; exact numDat_ok _ 7
        case k2 => obtain ⟨x, _, rfl⟩ := List.mem_map.mp hd; exact numDat_ok _ 7
        case k3 =>
          simp only [heq, decide_true]
          repeat' (first | (k_unfold; (try dsimp only)) | walk1 | (dsimp only; walk1) | (leave1; try dsimp only))
          exact fin _ _ _ _ (by k_asm) (by k_asm) (by k_mem)
end Mine
end
section
open PySem PySem.W PyProof.Rows
set_option maxRecDepth 100000
set_option maxHeartbeats 8000000
set_option linter.unusedVariables false
namespace Mine
example : True := by (k_with_none; trivial)
example : True := by ((k_with "u1" => ((case k1zz => k_asm); (case k2zz => k_asm); (case k3zz => k_asm); (case k4zz => k_asm); (case k5zz => k_asm))); trivial)
example : True := by ((k_with "u2" => ((case kKzz => first | exact rfl | assumption); (case kdzz => ktr_room); (case kuzz => ktr_units))); trivial)
example : True := by ((k_with "u3" => (intro r9zz tl9zz h9zz tk9zz F9zz N9zz l9zz o9zz; (try dsimp only at o9zz))); trivial)
example : True := by ((k_with "u4" => ((try simp only [List.nil_append, List.cons_append] at N9zz); (try dsimp only); (try k_fold))); trivial)
example : True := by ((k_with "suf" => (first | apply sub_refl | assumption | (refine sub_tail ?_; k_extra "suf") | (refine sub_app ?_; k_extra "suf") | apply sub_nil | (refine sub_appL ?_; k_extra "suf"))); trivial)
example : True := by ((k_with "in" => (first | assumption | apply in_head | (refine in_tail ?_; k_extra "in") | (refine in_app ?_; k_extra "in") | (refine in_appL ?_; k_extra "in"))); trivial)
example : True := by ((k_with "sub" => (first | k_extra "suf" | (refine sub_cons ?_ ?_; (focus k_extra "in"); k_extra "sub") | (refine sub_both ?_ ?_; (focus k_extra "sub"); k_extra "sub") | (refine sub_trans ?_ (by assumption); k_extra "suf"))); trivial)
example : True := by ((k_with "lt0" => (first | assumption | (refine Mine.pickA (by assumption) ?_; intro hz9zz; first | apply hz9zz.1 | (replace hz9zz := hz9zz.2; first | apply hz9zz.1 | (replace hz9zz := hz9zz.2; first | apply hz9zz.1 | (replace hz9zz := hz9zz.2; first | apply hz9zz.1 | (replace hz9zz := hz9zz.2; first | apply hz9zz.1 | (replace hz9zz := hz9zz.2; first | apply hz9zz.1 | (replace hz9zz := hz9zz.2; first | apply hz9zz.1 | (replace hz9zz := hz9zz.2; first | apply hz9zz.1 | (replace hz9zz := hz9zz.2; first | apply hz9zz.1 | (replace hz9zz := hz9zz.2; first | apply hz9zz.1 | (replace hz9zz := hz9zz.2; first | apply hz9zz.1 | (replace hz9zz := hz9zz.2; first | apply hz9zz.1 | (replace hz9zz := hz9zz.2; first | apply hz9zz.1 | (replace hz9zz := hz9zz.2; first | apply hz9zz.1 | apply hz9zz.2)))))))))))))))); trivial)
example : True := by ((k_with "lt1" => (first | apply Mine.sl1 | apply Mine.sl2 | apply Mine.sl3 | apply Mine.sl4 | exact Mine.dn1 (by assumption) | exact Mine.dn2 (by assumption) | exact Mine.dn3 (by assumption) | exact Mine.dn4 (by assumption) | exact Mine.upx (by assumption) (by assumption) | exact Mine.up4 (by assumption) | (refine Nat.lt_trans ?_ (by assumption); first | k_extra "lt0" | exact Mine.dn1 (by assumption) | exact Mine.dn2 (by assumption) | exact Mine.dn3 (by assumption) | exact Mine.dn4 (by assumption) | (refine Nat.lt_trans ?_ (by assumption); k_extra "lt0")))); trivial)
theorem law_stages {w : World} {body : List Stmt} {scope : Scope} (hdef : LawDef body scope) {p : Program} {loose : List Str} {mean : ExcName → Option Value} {mg mb : Str → Option Value} {h₀ : Heap} {L fa : Addr} {m : Str → Option Value} {s : Shared} {Q : Flow → Shared → Prop} {E : Value → Shared → Prop}
    {ow om oc oj ot : Obj} {jar sl x dx : Addr} {tj tb td : Tok} {kj ks n : Nat} {vs : List Value} {ns : List Int} {es : List DictEntry} {c0 m0 : Option Value} {R : Led}
    (B : Below callerA h₀ [] h₀) (X : (hd.heap_1 w.params).In h₀) (T : Top p loose mean mg mb h₀)
    (dw : ow.data = .cell (some (.ref x))) (dm : om.data = .cell m0) (dc : oc.data = .cell c0) (dj : oj.data = .cell (some (.ref jar)))
    (hvs : IntsAre vs ns) (hvl : vs.length ≤ 60)
    (o1 : @LT.lt Nat _ 409 L) (o2 : @LT.lt Nat _ (L + 1 + 1 + 1 + 1) jar) (o3 : @LT.lt Nat _ sl jar) (hW : WorldIn R (.ref x) x dx es n tb td)
    (hR : Rest L jar sl x dx oj ow vs ks es n R)
    (hE : PassesOwn (model PW w) (lawA L fa scope) (envOfC (Str.ofString "law") scope L fa (.ref 411)) E)
    (hot : ot.cls ≠ .type "tuple")
    (CH : CodeHd h₀ 411 409) (hot2 : ot = tabObj #[])
    (F : Fr h₀ L s.heap m) (N : News h₀ L s.heap (headLed L ot oc om jar (jarO sl 0 tj kj) R))
    (fin : ∀ h' tk' m' led' ps, Fr h₀ L h' m' → News h₀ L h' led' → (409, tabObj ps) ∈ led' → Q (.ret (.bool true)) { s with heap := h', toks := tk' }) :
    wpAny (model PW w) (lawA L fa scope) (execs (body.drop 1) (envOfC (Str.ofString "law") scope L fa (.ref 411))) Q E s := by
  refine stageB1 hdef B X T dw dm dc dj hvs hvl o1 o2 o3 hW hR hE hot F N fun h1 t1 many tm pa kp pxs tl1 tj1 kj1 sp1 u1 hm hP hpl g1 s1 s2 F1 N1 => ?_
  have hR1 := hR.add o1 o2 g1
  have hW1 := hW.mono (fun p hp => List.mem_append_right tl1 hp)
  refine stageB2 (s := { s with heap := h1, toks := t1 }) hdef B X T dw dm dc dj hvs hvl o1 o2 o3 hW1 hR1 hE hot hm hP hpl s1 s2 F1 N1 fun h2 t2 pa2 kp2 pxs2 tl2 tj2 kj2 sp2 u2 hP2 g2 s3 s4 F2 N2 => ?_
  have hR2 := hR1.add o1 o2 g2
  have hW2 := hW1.mono (fun p hp => List.mem_append_right tl2 hp)
  refine stageC (s := { s with heap := h2, toks := t2 }) hdef B X T dw dm dc dj hvs hvl o1 o2 o3 hW2 hR2 hE hot hm s3 s4 F2 N2 fun h3 t3 sa ka xs tl3 tj3 kj3 sp3 u3 hsa hxs hxl hpw hxb g3 s5 s6 F3 N3 => ?_
  have hR3 := hR2.add o1 o2 g3
  have hW3 := hW2.mono (fun p hp => List.mem_append_right tl3 hp)
  have hP3 := hP2.mono (fun p hp => List.mem_append_right tl3 hp)
  refine stageD (s := { s with heap := h3, toks := t3 }) hdef B X T dw dm dc dj hvs hvl o1 o2 o3 hW3 hR3 hE hot hm hP3 hsa hxs hxl hpw F3 N3 fun h4 t4 ra kr rows tl4 u4 hra hrows hre hrn hrl g4 F4 N4 => ?_
  have hR4 := hR3.add o1 o2 g4
  have hW4 := hW3.mono (fun p hp => List.mem_append_right tl4 hp)
  have hP4 := hP3.mono (fun p hp => List.mem_append_right tl4 hp)
  have hxs4 := hxs.mono (fun p hp => List.mem_append_right tl4 hp)
  have hsa4 := List.mem_append_right tl4 hsa
  refine stageE (s := { s with heap := h4, toks := t4 }) hdef B X T dw dm dc dj hvs hvl o1 o2 o3 hW4 hR4 hE hot hm hP4 hxs4 hxl hpw hra hrows hre hrn hrl s5 s6 F4 N4 fun h5 t5 wh tw om' v NM rr z kz tl5 jo' u5 a1 a2 dm' hnm okm hmb hrr hz hzl hnd hzx g5 F5 N5 => ?_
  have hR5 := hR4.add o1 o2 g5
  have hW5 := hW4.mono (fun p hp => List.mem_append_right tl5 hp)
  have hP5 := hP4.mono (fun p hp => List.mem_append_right tl5 hp)
  have hxs5 := hxs4.mono (fun p hp => List.mem_append_right tl5 hp)
  have hsa5 := List.mem_append_right tl5 hsa4
  have hz5 := hz.mono (fun p hp => List.mem_append_right tl5 hp)
  have hrr5 := List.mem_append_right tl5 hrr
  refine stageF (s := { s with heap := h5, toks := t5 }) hdef B X T dw dm' dc dj hvs hvl o1 o2 o3 hW5 hR5 hE hot hm hP5 hsa5 hxs5 hxl hxb hrr5 hz5 hzl hzx CH hot2 (fun h6 t6 oc' cv c' tl6 u6 dc' g6 F6 N6 => ?_) F5 N5
  have hR6 := hR5.add o1 o2 g6
  have hW6 := hW5.mono (fun p hp => List.mem_append_right tl6 hp)
  have hP6 := hP5.mono (fun p hp => List.mem_append_right tl6 hp)
  have hz6 := hz5.mono (fun p hp => List.mem_append_right tl6 hp)
  have hnm6 := hnm.mono (fun p hp => List.mem_append_right tl6 hp)
  have hrr6 := List.mem_append_right tl6 hrr5
  refine stageG (s := { s with heap := h6, toks := t6 }) hdef B X T dw dm' dc' dj hvs hvl o1 o2 o3 hW6 hR6 hE (by intro e; cases e) hm hP6 hrr6 hz6 (hzl.trans hxl) (fun y hy => hxb y (hzx y hy)) a1 a2 rfl hnm6 okm hmb CH rfl F6 N6 fun h7 t7 u7 led ps h409 hs F7 N7 => ?_
  exact stageH (s := { s with heap := h7, toks := t7 }) hdef B X T dw (hs _ (.tail _ hR6.cw)) h409 hm (hP6.mono fun p hp => hs p (.tail _ hp)) (hs _ (.tail _ hrr6)) (hz6.mono fun p hp => hs p (.tail _ hp)) (hzl.trans hxl) hnd F7 N7 fun h' tk' m' led' F' N' h4 => fin h' tk' m' led' ps F' N' h4
end Mine
end
section
open PySem PySem.W PyProof.Rows
set_option maxRecDepth 100000
set_option maxHeartbeats 8000000
set_option linter.unusedVariables false
namespace Mine
example : True := by (k_with_none; trivial)
example : True := by ((k_with "u1" => ((case k1zz => k_asm); (case k2zz => k_asm); (case k3zz => k_asm); (case k4zz => k_asm); (case k5zz => k_asm))); trivial)
example : True := by ((k_with "u2" => ((case kKzz => first | exact rfl | assumption); (case kdzz => ktr_room); (case kuzz => ktr_units))); trivial)
example : True := by ((k_with "u3" => (intro r9zz tl9zz h9zz tk9zz F9zz N9zz l9zz o9zz; (try dsimp only at o9zz))); trivial)
example : True := by ((k_with "u4" => ((try simp only [List.nil_append, List.cons_append] at N9zz); (try dsimp only); (try k_fold))); trivial)
example : True := by ((k_with "suf" => (first | apply sub_refl | assumption | (refine sub_tail ?_; k_extra "suf") | (refine sub_app ?_; k_extra "suf") | apply sub_nil | (refine sub_appL ?_; k_extra "suf"))); trivial)
example : True := by ((k_with "in" => (first | assumption | apply in_head | (refine in_tail ?_; k_extra "in") | (refine in_app ?_; k_extra "in") | (refine in_appL ?_; k_extra "in"))); trivial)
example : True := by ((k_with "sub" => (first | k_extra "suf" | (refine sub_cons ?_ ?_; (focus k_extra "in"); k_extra "sub") | (refine sub_both ?_ ?_; (focus k_extra "sub"); k_extra "sub") | (refine sub_trans ?_ (by assumption); k_extra "suf"))); trivial)
example : True := by ((k_with "lt0" => (first | assumption | (refine Mine.pickA (by assumption) ?_; intro hz9zz; first | apply hz9zz.1 | (replace hz9zz := hz9zz.2; first | apply hz9zz.1 | (replace hz9zz := hz9zz.2; first | apply hz9zz.1 | (replace hz9zz := hz9zz.2; first | apply hz9zz.1 | (replace hz9zz := hz9zz.2; first | apply hz9zz.1 | (replace hz9zz := hz9zz.2; first | apply hz9zz.1 | (replace hz9zz := hz9zz.2; first | apply hz9zz.1 | (replace hz9zz := hz9zz.2; first | apply hz9zz.1 | (replace hz9zz := hz9zz.2; first | apply hz9zz.1 | (replace hz9zz := hz9zz.2; first | apply hz9zz.1 | (replace hz9zz := hz9zz.2; first | apply hz9zz.1 | (replace hz9zz := hz9zz.2; first | apply hz9zz.1 | (replace hz9zz := hz9zz.2; first | apply hz9zz.1 | (replace hz9zz := hz9zz.2; first | apply hz9zz.1 | apply hz9zz.2)))))))))))))))); trivial)
example : True := by ((k_with "lt1" => (first | apply Mine.sl1 | apply Mine.sl2 | apply Mine.sl3 | apply Mine.sl4 | exact Mine.dn1 (by assumption) | exact Mine.dn2 (by assumption) | exact Mine.dn3 (by assumption) | exact Mine.dn4 (by assumption) | exact Mine.upx (by assumption) (by assumption) | exact Mine.up4 (by assumption) | (refine Nat.lt_trans ?_ (by assumption); first | k_extra "lt0" | exact Mine.dn1 (by assumption) | exact Mine.dn2 (by assumption) | exact Mine.dn3 (by assumption) | exact Mine.dn4 (by assumption) | (refine Nat.lt_trans ?_ (by assumption); k_extra "lt0")))); trivial)
theorem lawDef : LawDef lawBody lawScope := ⟨_, _, _, _, _, _, _, _, rfl⟩
example : True := by ((k_with "LeaveK" => (k_dflt (refine' leaveK_ ?k1zz ?k2zz ?_; (case k1zz => k_asm); (case k2zz => k_asm); k_whole); intro kFzz kNzz; (try dsimp only))); trivial)
example : True := by ((k_with "k_mem" => (first | assumption | (refine' List.mem_append_right _ ?_; k_mem) | (refine' List.mem_append_left _ ?_; k_mem))); trivial)
example : True := by ((k_with "kcj_all" => (k_whole; first | (refine fun pzz hpzz => List.mem_append_right _ ?_; assumption) | (intro pzz hpzz; (simp only [List.mem_append, List.mem_cons, List.not_mem_nil, or_false, false_or] at hpzz ⊢); first | assumption | (simp only [hpzz, true_or, or_true]; done) | grind))); trivial)
example : True := by ((k_with "kcj_all" => (k_whole; with_reducible k_extra "sub")); trivial)
example : True := by ((k_with "newTuple" => (k_here; k_dflt (refine' kup_newTuple ?Fzz ?Nzz ?_ ?zzz; (case Fzz => k_asm); (case Nzz => k_asm); (case zzz => kmk_size)); intro D'zz h'zz F'zz N'zz l1zz; (try k_lt l1zz); (try k_sweep))); trivial)
example : True := by ((k_with "binaryOp Pow int int" => ((with_reducible refine pow_int_small ?kb1zz ?kb2zz ?kb3zz ?_); (case kb1zz => omega); (case kb2zz => omega); (case kb3zz => decide))); trivial)
example : True := by ((k_with "subscriptTail" => (k_here; (with_reducible show wpAny _ _ (subscriptTail _ _ (Value.ref _) (Value.int _ _)) _ _ _); (with_unfolding_all refine' item_litK ?k1zz ?k2zz ?k3zz ?k4zz ?_ ?k6zz; (case k1zz => exact isListOf (by k_asm) (by k_mem)); (case k2zz => first | decide | omega); (case k3zz => first | decide | omega); (case k4zz => first | rfl | assumption); (case k6zz => with_unfolding_all rfl); k_whole))); trivial)
example : True := by ((k_with "subscriptTail Name Name ref int" => (k_here; (with_reducible show wpAny _ _ (subscriptTail _ _ (Value.ref _) (Value.int _ _)) _ _ _); (with_unfolding_all refine' item_litK ?k1zz ?k2zz ?k3zz ?k4zz ?_ ?k6zz; (case k1zz => exact isListOf (by k_asm) (by k_mem)); (case k2zz => first | decide | omega); (case k3zz => first | decide | omega); (case k4zz => first | rfl | assumption); (case k6zz => with_unfolding_all rfl); k_whole))); trivial)
example : True := by ((k_with "subscriptTail Name Constant ref int" => (k_here; (with_reducible show wpAny _ _ (subscriptTail _ _ (Value.ref _) (Value.int _ _)) _ _ _); (with_unfolding_all refine' item_litK ?k1zz ?k2zz ?k3zz ?k4zz ?_ ?k6zz; (case k1zz => exact isListOf (by k_asm) (by k_mem)); (case k2zz => first | decide | omega); (case k3zz => first | decide | omega); (case k4zz => first | rfl | assumption); (case k6zz => with_unfolding_all rfl); k_whole))); trivial)
example : True := by ((k_with "call ref" => (k_here; (with_reducible show wpAny _ _ (call (Value.ref 255) _) _ _ _); k_dflt ((refine' sp_use (sp_reckoned _ _ _ _ _ _ _ _ _ ?p1zz ?p2zz ?p3zz ?p4zz ?p5zz) ?k1zz ?k2zz ?k3zz ?k4zz ?k5zz ?kKzz ?kdzz ?kuzz ?_); k_extra "u1"; k_extra "u2"; (case p4zz => first | exact numIn_i | exact numIn_d (by k_mem) | exact NumIn.mono (by assumption) (by kcj_all) | assumption); (case p5zz => first | exact numIn_i | exact numIn_d (by k_mem) | exact NumIn.mono (by assumption) (by kcj_all) | assumption); (case p1zz => assumption); (case p2zz => assumption); (case p3zz => first | assumption | k_extra "sum"); k_extra "u3"; skip; k_extra "u4"))); trivial)
example : True := by ((k_with "getAttr ref" => (k_here; k_dflt (refine' get_own ?k1zz ?k2zz ?k3zz ?k4zz ?k5zz ?k6zz ?k7zz ?k8zz ?k9zz ?_; (case k1zz => k_asm); (case k2zz => k_asm); (case k3zz => k_inst); (case k4zz => k_is); (case k5zz => k_is); (case k6zz => k_is); (case k7zz => k_is); (case k8zz => assumption); (case k9zz => exact rfl); k_whole))); trivial)
example : True := by ((k_with "call ref" => (k_here; (with_reducible show wpAny _ _ (call (Value.ref 262) _) _ _ _); k_dflt ((refine' sp_use (sp_negated _ _ _ _ _ _ ?p1zz ?p2zz) ?k1zz ?k2zz ?k3zz ?k4zz ?k5zz ?kKzz ?kdzz ?kuzz ?_); k_extra "u1"; k_extra "u2"; (case p2zz => first | assumption | exact NumIn.mono (by assumption) (by kcj_all)); (case p1zz => assumption); k_extra "u3"; skip; k_extra "u4"))); trivial)
example : True := by ((k_with "call ref" => (k_here; (with_reducible show wpAny _ _ (call (Value.ref 368) _) _ _ _); k_dflt ((refine' sp_useI (sp_units _ _ _ _ ?p1zz ?p2zz) ?k1zz ?k2zz ?k3zz ?k4zz ?k5zz ?kKzz ?kdzz ?kuzz ?_); k_extra "u1"; k_extra "u2"; (case p2zz => first | assumption | exact NumIn.mono (by assumption) (by kcj_all)); (case p1zz => assumption); intro h9zz tk9zz F9zz t9zz N9zz; (try dsimp only); (try k_fold)))); trivial)
example : True := by ((k_with "call ref" => (k_here; (with_reducible show wpAny _ _ (call (Value.ref 361) _) _ _ _); k_dflt ((refine' sp_use (sp_law_number _ _ _ _ _ ?p1zz ?p2zz) ?k1zz ?k2zz ?k3zz ?k4zz ?k5zz ?kKzz ?kdzz ?kuzz ?_); k_extra "u1"; k_extra "u2"; (case p1zz => omega); (case p2zz => omega); k_extra "u3"; skip; k_extra "u4"))); trivial)
example : True := by ((k_with "call ref" => (k_here; (with_reducible show wpAny _ _ (call (Value.ref 311) _) _ _ _); k_dflt ((refine' sp_useV (sp_number_min _ _ _ _ _ _ _ _ _ ?p1zz ?p2zz ?p3zz ?p4zz ?p5zz) ?k1zz ?k2zz ?k3zz ?k4zz ?k5zz ?kKzz ?kdzz ?kuzz ?_); k_extra "u1"; k_extra "u2"; (case p5zz => k_dflt k_mem); (case p3zz => first | assumption | exact NumIn.mono (by assumption) (by kcj_all)); (case p4zz => first | assumption | exact NumIn.mono (by assumption) (by kcj_all)); (case p1zz => assumption); (case p2zz => assumption); intro h9zz tk9zz F9zz N9zz; (try dsimp only); (try k_fold)))); trivial)
example : True := by ((k_with "call ref" => (k_here; (with_reducible show wpAny _ _ (call (Value.ref 318) _) _ _ _); k_dflt ((refine' sp_useV (sp_number_max _ _ _ _ _ _ _ _ _ ?p1zz ?p2zz ?p3zz ?p4zz ?p5zz) ?k1zz ?k2zz ?k3zz ?k4zz ?k5zz ?kKzz ?kdzz ?kuzz ?_); k_extra "u1"; k_extra "u2"; (case p5zz => k_dflt k_mem); (case p3zz => first | assumption | exact NumIn.mono (by assumption) (by kcj_all)); (case p4zz => first | assumption | exact NumIn.mono (by assumption) (by kcj_all)); (case p1zz => assumption); (case p2zz => assumption); intro h9zz tk9zz F9zz N9zz; (try dsimp only); (try k_fold)))); trivial)
example : True := by ((k_with "call ref" => (k_here; (with_reducible show wpAny _ _ (call (Value.ref 385) _) _ _ _); k_dflt ((refine' sp_useV (sp_law_rises _ _ _ _ _ ?p1zz ?p2zz ?p3zz) ?k1zz ?k2zz ?k3zz ?k4zz ?k5zz ?kKzz ?kdzz ?kuzz ?_); k_extra "u1"; k_extra "u2"; (case p2zz => k_dflt k_mem); (case p1zz => first | assumption | exact NumsIn.mono (by assumption) (by kcj_all) | k_extra "nums"); (case p3zz => first | assumption | k_extra "len"); intro h9zz tk9zz F9zz N9zz; (try dsimp only); (try k_fold)))); trivial)
example : True := by ((k_with "call ref" => (k_here; (with_reducible show wpAny _ _ (call (Value.ref 380) _) _ _ _); k_dflt ((refine' sp_useL (sp_law_led _ _ _ _ _ _ _ _ _ ?p1zz ?p2zz ?p3zz ?p4zz ?p5zz ?p6zz ?p7zz) ?k1zz ?k2zz ?k3zz ?k4zz ?k5zz ?kKzz ?kdzz ?kuzz ?_); k_extra "u1"; k_extra "u2"; (case p2zz => k_dflt k_mem); (case p5zz => k_dflt k_mem); (case p1zz => first | assumption | exact NumsIn.mono (by assumption) (by kcj_all) | k_extra "nums"); (case p3zz => first | assumption | k_extra "len"); (case p4zz => first | assumption | exact PairsIn.mono (by assumption) (by kcj_all)); (case p6zz => first | assumption | k_extra "pok"); (case p7zz => first | assumption | k_extra "len"); intro h9zz tk9zz F9zz D9zz k9zz N9zz l9zz; (try dsimp only); (try k_fold)))); trivial)
example : True := by ((k_with "pyIter ref" => (first | k_extra "comp" | k_extra "for")); trivial)
example : True := by ((k_with "eval Name" => ((with_reducible show wpAny _ _ (eval _ (compEnvC _ _ _ _)) _ _ _); k_dflt (refine' comp_local ?Nzz ?hmzz ?nCzz ?hvzz ?_ ?azz ?bzz ?czz; (case bzz => exact rfl); (case azz => exact rfl); (case Nzz => k_asm); (case nCzz => assumption); (case hmzz => k_dflt k_mem); (case hvzz => assumption); (case czz => decide)))); trivial)
example : True := by ((k_with "eval Name" => ((with_reducible show wpAny _ _ (eval _ (compEnvC _ _ _ _)) _ _ _); k_dflt (refine' comp_cell ?Nzz ?hmzz ?hd'zz ?_ ?azz ?bzz ?ezz ?czz; (case bzz => exact rfl); (case azz => exact rfl); (case ezz => exact rfl); (case Nzz => k_asm); (case hmzz => k_dflt k_mem); (case hd'zz => assumption); (case czz => decide)))); trivial)
example : True := by ((k_with "exec Assign cons ListComp" => (k_dflt (refine' comp_assign ?aFzz ?a1zz ?a2zz ?a3zz ?a4zz ?a5zz ?a6zz ?a7zz ?a8zz ?_; (case aFzz => k_asm); (case a1zz => with_unfolding_all rfl); (case a2zz => with_unfolding_all rfl); (case a3zz => decide); (case a4zz => rfl); (case a5zz => decide); (case a6zz => intro _; with_unfolding_all rfl); (case a7zz => rfl); (case a8zz => rfl)))); trivial)
example : True := by ((k_with "eval ListComp" => (k_dflt (refine' comp_eval ?aFzz ?a2zz ?a3zz ?a4zz ?a5zz ?a6zz ?_; (case aFzz => k_asm); (case a2zz => with_unfolding_all rfl); (case a3zz => decide); (case a4zz => rfl); (case a5zz => decide); (case a6zz => intro _; with_unfolding_all rfl)))); trivial)
example : True := by ((k_with "call builtin:sorted" => (k_here; (with_reducible show wpAny _ _ (call (Value.builtin _) [Value.ref _]) _ _ _); (with_unfolding_all refine' kso_sorted ?k1zz ?k2zz ?k3zz ?k4zz ?k5zz ?_; (case k1zz => k_asm); (case k2zz => k_asm); (case k3zz => exact isListOf (by k_asm) (by k_mem)); (case k4zz => assumption); (case k5zz => assumption); k_whole); intro D'zz v'zz n'zz c'zz h'zz F'zz N'zz l1zz i'zz e'zz p'zz o'zz b'zz; (try k_lt l1zz); (try dsimp only))); trivial)
example : True := by ((k_with "compareOp Eq ref ref" => (k_here; (with_reducible show wpAny _ _ (compareOp CmpOp.Eq (Value.ref _) (Value.ref _)) _ _ _); k_dflt (refine' eq_intsK ?k1zz ?k2zz ?k3zz ?k4zz ?k5zz ?_; (case k1zz => exact isListOf (by k_asm) (by k_mem)); (case k3zz => exact isListOf (by k_asm) (by k_mem)); (case k2zz => assumption); (case k4zz => assumption); (case k5zz => ktr_units); k_whole))); trivial)
example : True := by ((k_with "exec For Tuple Name cons nil" => (k_here; (rename Fr _ _ _ _ => lF'zz); k_dflt (refine' For_invTF lF'zz ?_ ?hszz; (case hszz => intro _; with_unfolding_all rfl)))); trivial)
example : True := by ((k_with "k_all" => (assumption)); trivial)
example : True := by ((k_with "setItem ref int" => (k_here; k_dflt (refine' set_any ?k1zz ?k2zz ?k3zz ?k4zz ?k5zz ?k6zz ?_; (case k1zz => k_asm); (case k2zz => k_asm); (case k3zz => k_upd); (case k4zz => first | assumption | omega); (case k5zz => first | assumption | (simp only [List.length_set]; first | assumption | omega)); (case k6zz => omega); k_whole); intro h'zz F'zz N'zz; (try dsimp only))); trivial)
example : True := by ((k_with "subscriptTail Name Slice ref ref" => (k_here; k_dflt (refine' kmk_slice ?Fzz ?Nzz ?lzz ?pzz ?qzz ?_ ?szz ?tzz ?zzz; (case Fzz => k_asm); (case Nzz => k_asm); (case lzz => exact isListOf (by k_asm) (by k_mem)); (case pzz => kmk_part); (case qzz => kmk_part); (case szz => with_unfolding_all rfl); (case tzz => kmk_pure); (case zzz => (simp only [List.size_toArray, List.length_map, sizeLine_eq]; omega))); intro D'zz h'zz F'zz N'zz l1zz; (simp (disch := omega) only [pick_all, pick_upto, pick_from] at N'zz); (try k_lt l1zz); (try dsimp only))); trivial)
example : True := by ((k_with "len" => (first | assumption | omega | (rw [ledF_len]; omega))); trivial)
example : True := by ((k_with "pok" => (first | assumption | exact pok_of (by assumption) (by first | assumption | rw [ledF_len] | (rw [ledF_len]; assumption)))); trivial)
example : True := by ((k_with "nums" => (first | exact NumsIn.led (by assumption) _ | exact NumsIn.mono (NumsIn.led (by assumption) _) (by kcj_all))); trivial)
example : True := by ((k_with "call builtin:len" => (k_here; (with_reducible show wpAny _ _ (call (Value.builtin "len") [Value.ref _]) _ _ _); k_dflt (refine' len_any ?k1zz ?k2zz ?k3zz ?k4zz ?_; (case k1zz => k_asm); (case k2zz => k_dflt k_mem); (case k3zz => first | exact List.length_map .. | rfl); (case k4zz => first | omega | decide); k_whole))); trivial)
example : True := by ((k_with "call type:range" => (k_here; k_dflt (refine' range_any ?k1zz ?k2zz ?_; (case k1zz => k_asm); (case k2zz => k_asm)); intro D9zz h9zz ta9zz tb9zz tk9zz F9zz N9zz l9zz; (try k_lt l9zz); (try dsimp only); (try k_fold))); trivial)
example : True := by ((k_with "binaryOp Add ref ref" => (k_here; (with_reducible show wpAny _ _ (binaryOp _ (Value.ref _) (Value.ref _)) _ _ _); k_dflt (refine' add_any ?k1zz ?k2zz ?k3zz ?k4zz ?k5zz ?_; (case k1zz => k_asm); (case k2zz => k_asm); (case k3zz => k_dflt k_mem); (case k4zz => k_dflt k_mem); (case k5zz => (simp only [List.length_append, List.length_map, List.length_take, List.length_drop, List.length_cons, List.length_nil, sizeLine_eq]; omega))); intro D9zz h9zz F9zz N9zz l9zz; (try simp only [Int.toNat_natCast, toNat_succ, ← List.map_take, ← List.map_drop, ← List.map_append] at N9zz); (try k_lt l9zz); (try dsimp only); (try k_fold))); trivial)
example : True := by ((k_with "call ref" => (k_here; (with_reducible show wpAny _ _ (call (Value.ref 347) _) _ _ _); k_dflt (refine' fetched_at ?kUzz ?k1zz ?k2zz ?k3zz ?k4zz ?k5zz ?kKzz ?kdzz ?kuzz ?p1zz ?p2zz ?p3zz ?p4zz ?p5zz ?p6zz ?p7zz ?p8zz ?_; (case k1zz => k_asm); (case k2zz => k_asm); (case k3zz => k_asm); (case k4zz => k_asm); (case kUzz => k_updF); (case k5zz => k_asm); (case p7zz => k_dflt k_mem); (case p5zz => assumption); (case p6zz => first | assumption | omega | exact Nat.le_trans (List.length_take_le _ _) (by decide)); (case p8zz => k_ne); (case p1zz => omega); (case p2zz => omega); (case p3zz => omega); (case p4zz => omega); k_extra "u2"; intro x9zz tx9zz ts9zz kj9zz h9zz tk9zz x91zz x92zz F9zz N9zz; (try dsimp only at N9zz); (try dsimp only); (try k_fold)))); trivial)
example : True := by ((k_with "call ref" => (k_here; (with_reducible show wpAny _ _ (call (Value.ref 354) _) _ _ _); k_dflt (refine' pair_at ?kUzz ?k1zz ?k2zz ?k3zz ?k4zz ?k5zz ?kKzz ?kdzz ?kuzz ?p1zz ?p2zz ?p3zz ?p4zz ?p5zz ?p6zz ?p7zz ?p8zz ?_; (case k1zz => k_asm); (case k2zz => k_asm); (case k3zz => k_asm); (case k4zz => k_asm); (case kUzz => k_updF); (case k5zz => k_asm); (case p7zz => k_dflt k_mem); (case p5zz => assumption); (case p6zz => first | assumption | omega | exact Nat.le_trans (List.length_take_le _ _) (by decide)); (case p8zz => k_ne); (case p1zz => omega); (case p2zz => omega); (case p3zz => omega); (case p4zz => omega); k_extra "u2"; intro q9zz lo9zz hi9zz ta9zz tb9zz k9zz ts9zz kj9zz h9zz tk9zz y91zz y92zz y93zz y94zz y95zz F9zz N9zz l9zz; (try k_lt l9zz); (try dsimp only at N9zz); (try dsimp only); (try k_fold)))); trivial)
example : True := by ((k_with "callWith ref" => (k_here; k_dflt (refine' callWith_K ?k1zz ?k2zz ?_; (case k1zz => k_asm); (case k2zz => k_is); k_whole))); trivial)
example : True := by ((k_with "k_all" => ((repeat (refine all_cons ?_ ?_; focus k_ne)); first | assumption | exact List.forall_mem_nil _)); trivial)
example : True := by ((k_with "execs cons" => (k_extra "next")); trivial)
example : True := by ((k_with "k_mem" => (refine' memD ?_; assumption)); trivial)
example : True := by ((k_with "subscriptTail Name Slice ref ref" => (k_here; k_dflt (refine' kmk_slice ?Fzz ?Nzz ?lzz ?pzz ?qzz ?_ ?szz ?tzz ?zzz; (case Fzz => k_asm); (case Nzz => k_asm); (case lzz => exact Fr.lst (by k_asm) (by k_asm)); (case pzz => kmk_part); (case qzz => kmk_part); (case szz => with_unfolding_all rfl); (case tzz => kmk_pure); (case zzz => (simp only [List.size_toArray, List.length_map, sizeLine_eq]; omega))); intro D'zz h'zz F'zz N'zz l1zz; (simp (disch := omega) only [pick_all, pick_upto, pick_from] at N'zz); (try k_lt l1zz); (try dsimp only))); trivial)
example : True := by ((k_with "call ref" => (k_here; (with_reducible show wpAny _ _ (call (Value.ref 336) _) _ _ _); k_dflt ((refine' sp_use (sp_world _ _ _ _) ?k1zz ?k2zz ?k3zz ?k4zz ?k5zz ?kKzz ?kdzz ?kuzz ?_); k_extra "u1"; k_extra "u2"; k_extra "u3"; obtain ⟨x9zz, d9zz, es9zz, n9zz, tb9zz, td9zz, f9zz, W9zz⟩ := o9zz; subst f9zz; (have e9zz := WorldIn.ref W9zz); subst e9zz; (have l8zz := ord_hd l9zz); (have l7zz := ord_hd (ord_tl l9zz)); clear l9zz; (try k_lt l8zz); (try k_lt l7zz); k_extra "u4"))); trivial)
theorem a_news {h₀ h : Heap} {L : Addr} {a b c j e w4 w3 w2 w1 t : Addr × Obj} (N : News h₀ L h [a, b, c, j, e, w4, w3, w2, w1, t]) : News h₀ L h (t :: w2 :: w3 :: j :: [a, b, c, e, w4, w1]) := fun p hp => N p (by
  exact subq (by with_reducible k_extra "sub") hp)
theorem a_world {a p q : Addr × Obj} {r : Led} {wv : Value} {x dx : Addr} {es : List DictEntry} {n : Nat} {tb td : Tok} (W : WorldIn [p, q] wv x dx es n tb td) : WorldIn (a :: p :: q :: r) wv x dx es n tb td := W.mono fun z hz => by
  rcases List.mem_cons.mp hz with rfl | hz
  · exact .tail _ (.head _)
  · rw [List.mem_singleton.mp hz]; exact .tail _ (.tail _ (.head _))
theorem law_all : PySem.Challenge.rw_sm0005_01.Holds := hd (by
  k_go0
  rename IntsAre _ _ => hIA
  have hIL := IntsAre.length hIA
  have hIT := ints_take hIA (24 : Int).toNat
  k_with "next" => (with_reducible show wpAny _ _ (execs [_, _, _, _, _, _, _, _, _, _, _, _, _, _, _, _, _, _, _, _, _] _) _ _ _); k_dflt (refine stop_at (lawBody.drop 1) 21 (by exact rfl) rfl ?_)
  repeat' (first | (k_unfold; (try dsimp only)) | walk1 | (dsimp only; walk1) | (leave1; try dsimp only))
  have h9zz := True.intro; have tk9zz := True.intro; have x9zz := True.intro; have d9zz := True.intro; have es9zz := True.intro; have n9zz := True.intro; have tb9zz := True.intro; have td9zz := True.intro; have W9zz := True.intro; have l8zz := True.intro; have l7zz := True.intro; have D'zz := True.intro; have h'zz := True.intro; have l1zz := True.intro -- ok
  rename_i sl hq5 ls1 jar hq4 ls2 h9 tk9 x9 d9 es9 n9 tb9 td9 W9 l8 l7 D9 hq3 ls3 hq2 hq1 oj dj hq0 ow F9 N9 dw -- ok
  refine' law_stages lawDef ?B ?X ?T ?dw ?dm ?dc ?dj ?hvs ?hvl ?o1 ?o2 ?o3 ?hW ?hR ?hE ?hot ?CH ?hot2 ?F (a_news N9) ?fin
  case B => k_asm
  case X => k_asm
  case T => k_asm
  case dw => exact dw
  case dj => exact dj
  case dm => assumption
  case dc => assumption
  case hvs => exact hIT
  case hvl => rw [List.length_take]; exact Nat.le_trans (Nat.min_le_left _ _) (by decide)
  case o1 => assumption
  case o2 => show @LT.lt Nat _ _ _; omega
  case o3 => show @LT.lt Nat _ _ _; omega
  case hW => exact a_world W9
  case hR => exact ⟨.tail _ (.tail _ (.tail _ (.tail _ (.tail _ (.head _))))), .tail _ (.tail _ (.tail _ (.tail _ (.head _)))), .tail _ (.tail _ (.tail _ (.head _))), .tail _ (.head _), .tail _ (.tail _ (.head _)), by k_all, by k_all, by k_all, by k_all⟩
  case hE => passes_own
  case hot => intro e; cases e
  case CH => exact codeHd
  case hot2 => rfl
  case F => exact F9
  case fin =>
    intro h' tk' m' led' ps F' N' h4
    refine ⟨?_, GrownAt.of N' h4, trivial⟩
    refine goodW_bool F' (by assumption) (raisesW_false ?_) ?_
    · wrow_none_raised
    · first | kc_post | wrow_post)
end Mine
end
theorem PySem.Challenge.cw_sm0005_01_holds : PySem.Challenge.rw_sm0005_01.Holds := by
  exact Mine.law_all
