import PyProof.Rows.All
import Wide.All
import OpenK.AllK
import Wide.FinOn
import PySem.Challenge.RW_or0053_01
set_option Elab.async false
set_option maxRecDepth 100000
section
section
open PySem PySem.W PyProof.Rows
namespace Mine
/-- the top's statements but those that name the module -/
def kept (l : List Stmt) : List Stmt :=
  ([0, 2, 3, 4, 6, 7, 8, 9, 10, 11, 13, 14, 15, 16, 17, 18, 19, 20, 21, 22, 23, 24, 25, 26, 27, 29, 30, 31, 32] : List Nat).filterMap fun i => l[i]?
noncomputable def view : Program := by
  refine (?ff : kept PySem.Challenge.pw_or0053_01.main.body = [?v0, ?v2, ?v3, ?v4, ?v6, ?v7, ?v8, ?v9, ?v10, ?v11, ?v13, ?v14, ?v15, ?v16, ?v17, ?v18, ?v19, ?v20, ?v21, ?v22, ?v23, ?v24, ?v25, ?v26, ?v27, ?v29, ?v30, ?v31, ?v32] → Program) ?hh
  (case ff => exact fun _ => ({ main := { body := [?v0, ?v2, ?v3, ?v4, ?v6, ?v7, ?v8, ?v9, ?v10, ?v11, ?v13, ?v14, ?v15, ?v16, ?v17, ?v18, ?v19, ?v20, ?v21, ?v22, ?v23, ?v24, ?v25, ?v26, ?v27, ?v29, ?v30, ?v31, ?v32], scope := PySem.Challenge.pw_or0053_01.main.scope, futureAnnotations := PySem.Challenge.pw_or0053_01.main.futureAnnotations, file := PySem.Challenge.pw_or0053_01.main.file, more := PySem.Challenge.pw_or0053_01.main.more }, modules := PySem.Challenge.pw_or0053_01.modules, parses := PySem.Challenge.pw_or0053_01.parses, absent := PySem.Challenge.pw_or0053_01.absent, harvested := PySem.Challenge.pw_or0053_01.harvested, given := PySem.Challenge.pw_or0053_01.given } : Program))
  (case hh => exact rfl)
/-- a heap's objects as a tree -/
def evens : List Obj → List Obj
  | [] => []
  | [a] => [a]
  | a :: _ :: r => a :: evens r
def odds : List Obj → List Obj
  | [] => []
  | _ :: r => evens r
def treeOf : Nat → List Obj → BT
  | 0, _ => .nil
  | _ + 1, [] => .nil
  | n + 1, v :: r => .node v (treeOf n (evens r)) (treeOf n (odds r))
/-- the top's run over a tree -/
def topRunT (tb : String → Option Builtin) (p : Program) (w : World) (n₀ : Nat) (ann : Option Value) : Nat → SharedT → Thread → Option SharedT
  | 0, _, _ => none
  | n + 1, s, t => match through t with
    | true => some s
    | false => match stepOk n₀ ann t with
      | false => none
      | true => match stepT (denote tb) p w s t with
        | some (s', t') => topRunT tb p w n₀ ann n s' t'
        | none => none
theorem topRun_ofT {tb : String → Option Builtin} {p : Program} {w : World} {n₀ : Nat} {ann : Option Value} : ∀ {n : Nat} {s r : SharedT} {t : Thread}, topRunT tb p w n₀ ann n s t = some r → topRun tb p w n₀ ann n s.abs t = some r.abs
  | 0, _, _, _, h => by cases h
  | n + 1, s, r, t, h => by
    unfold topRunT at h
    unfold topRun
    cases ht : through t with
    | true => rw [ht] at h; cases h; rfl
    | false =>
      rw [ht] at h
      cases hk : stepOk n₀ ann t with
      | false => rw [hk] at h; cases h
      | true =>
        rw [hk] at h
        cases hs : stepT (denote tb) p w s t with
        | none => rw [hs] at h; cases h
        | some q => obtain ⟨s₂, t₂⟩ := q; rw [hs] at h; rw [stepT_spec hs]; exact topRun_ofT h
/-- the same, over the library's quick twins -/
noncomputable def topRunQ (p : Program) (w : World) (n₀ : Nat) (ann : Option Value) : Nat → SharedT → Thread → Option SharedT
  | 0, _, _ => none
  | n + 1, s, t => match through t with
    | true => some s
    | false => match PySem.W.Fast.tw6613529449190102663 n₀ ann t with
      | false => none
      | true => match PySem.W.Fast.tw10156331382660048174 (PySem.W.Fast.tw11892475500146522536 PySem.W.Fast.tw14364793385576792824) p w s t with
        | some (s', t') => topRunQ p w n₀ ann n s' t'
        | none => none
theorem topRunQ_eq {p : Program} {w : World} {n₀ : Nat} {ann : Option Value} : ∀ (n : Nat) (s : SharedT) (t : Thread), topRunQ p w n₀ ann n s t = topRunT treeTable p w n₀ ann n s t
  | 0, _, _ => rfl
  | n + 1, s, t => by
    unfold topRunQ topRunT
    rw [← PySem.W.Fast.te6613529449190102663, ← PySem.W.Fast.te10156331382660048174, ← PySem.W.Fast.te11892475500146522536, ← PySem.W.Fast.te14364793385576792824]
    simp only [topRunQ_eq n]
/-- the state behind the start, over a tree -/
noncomputable def bootT (w : World) (os : OsState) : SharedT := ⟨treeOf 5 (boot_heap w.params).objs.toList, 11, (boot_heap w.params).life, Array.mk [], boot_drawn, boot_toks, os⟩
theorem bootT_abs : ∀ P : Params, absHeap (treeOf 5 (boot_heap P).objs.toList) 11 (boot_heap P).life = boot_heap P := fun P => by kernel_rfl
theorem boot_isNs : ∀ P : Params, (boot_heap P).isNs mainGlobals = true := fun P => by kernel_rfl
noncomputable def boot_ann (w : World) : Option Value := (boot_heap w.params).nsMap mainGlobals "__annotations__"
theorem boot_len : ∀ P : Params, (boot_heap P).objs.size = 11 := fun P => by kernel_rfl
theorem left_of_tree {p q : Program} {loose : List Str} {Xt : Shared → Bool} {α : Type} {Yf : Shared → α} {Ya : World → α} {N : Nat} {g0 : Bool} (e : opening p = plainProg p.main.scope.names) (hN : Nat.ble 600 N = true) (f : ∀ s, fenceModules? p s = some s)
    (h : ∀ w : World, (fun os => (topRunQ p w 11 (boot_ann w) N (bootT w os) (topStub p)).map (fun s => ((staticsOk (importedModules p.main.body) (boot_heap w.params) s.abs.heap && namesBound p s.abs.heap && gensDone s.abs && laidKept (boot_heap w.params) s.abs.heap), PySem.W.Fast.tw4187177175401517315 q loose (importedModules p.main.body) Xt g0 s.abs))) =
      fun _ => some (true, openGood q loose))
    (hy : ∀ w : World, (fun os => (topRunQ p w 11 (boot_ann w) N (bootT w os) (topStub p)).map (fun s => Yf s.abs)) = fun _ => some (Ya w)) : LeftO p q loose Xt Yf Ya N g0 := fun w => by
  obtain ⟨⟨hp, gs, d, k, os⟩, e1, e2⟩ := Option.map_eq_some_iff.mp (boot_open e hN f w)
  obtain ⟨rfl, rfl, rfl, rfl⟩ : hp = boot_heap w.params ∧ gs = Array.mk [] ∧ d = boot_drawn ∧ k = boot_toks := by simpa using e2
  obtain ⟨r, hr, hv⟩ := Option.map_eq_some_iff.mp (congrFun (h w) os)
  obtain ⟨r', hr', l3⟩ := Option.map_eq_some_iff.mp (congrFun (hy w) os)
  rw [hr] at hr'
  cases hr'
  obtain ⟨l1, l2⟩ : _ ∧ _ := by simpa only [Prod.mk.injEq] using hv
  have ha : (bootT w os).abs = ⟨boot_heap w.params, Array.mk [], boot_drawn, boot_toks, os⟩ := by
    show Shared.mk (absHeap (treeOf 5 (boot_heap w.params).objs.toList) 11 (boot_heap w.params).life) (Array.mk []) boot_drawn boot_toks os = _
    rw [bootT_abs w.params]
  rw [topRunQ_eq] at hr
  have hrun := topRun_ofT hr
  rw [ha] at hrun
  have t : topFrom treeTable p w N ⟨boot_heap w.params, Array.mk [], boot_drawn, boot_toks, os⟩ = some r.abs := by
    unfold topFrom
    dsimp only
    rw [boot_isNs, boot_len]
    show (Option.bind (topRun treeTable p w 11 (boot_ann w) N _ _) _) = _
    rw [hrun]
    show (match staticsOk (importedModules p.main.body) (boot_heap w.params) r.abs.heap && namesBound p r.abs.heap && gensDone r.abs && laidKept (boot_heap w.params) r.abs.heap with | true => _ | false => _) = _
    rw [l1]
  unfold openEnds
  rw [e1]
  show (topFrom treeTable p w N _).map _ = _
  rw [t]
  rw [PySem.W.Fast.te4187177175401517315]
  exact congrArg some (Prod.ext l2 l3)
/-- the top comes to its end, and the look at it is the view's -/
theorem top_seen : ∀ w : World, (fun os => (topRunQ PySem.Challenge.pw_or0053_01 w 11 (boot_ann w) 5120 (bootT w os) (topStub PySem.Challenge.pw_or0053_01)).map (fun s => ((staticsOk (importedModules PySem.Challenge.pw_or0053_01.main.body) (boot_heap w.params) s.abs.heap && namesBound PySem.Challenge.pw_or0053_01 s.abs.heap && gensDone s.abs && laidKept (boot_heap w.params) s.abs.heap),
      PySem.W.Fast.tw4187177175401517315 Mine.view [PySem.Str.ofString "PostError"] (importedModules PySem.Challenge.pw_or0053_01.main.body) (fun s => xlAt Mine.view [] s && recOk (RowW.records PySem.Challenge.rw_or0053_01.row.toRowW) s) true s.abs))) =
    fun _ => some (true, openGood Mine.view [PySem.Str.ofString "PostError"]) := fun w => by kernel_rfl
local macro_rules | `(tactic| o_head $H) => do
  let hw := Lean.mkIdent `hw
  let hc := Lean.mkIdent `hc
  `(tactic| (
    refine PySem.W.holds_open (q := Mine.view) (loose := [PySem.Str.ofString "PostError"]) (Xt := fun s => xlAt Mine.view [] s && recOk (RowW.records PySem.Challenge.rw_or0053_01.row.toRowW) s) (XP := XL Mine.view []) (Yf := Hook.obs $H) (Ya := Hook.val $H) (YP := Hook.says $H) (N := 5120) ?hl (Hook.of $H) (Hook.keeps $H) (fun s e => xl_of s (Bool.and_eq_true_iff.mp e).1) XL.keeps (by rfl) (by rfl) (by rfl) (fun s e => recFacts_of (Bool.and_eq_true_iff.mp e).2) (by rfl) (by first | assumption | decide +kernel) (by decide +kernel) ⟨rfl, rfl, rfl, rfl, rfl, by decide +kernel⟩ ?$hw ?$hc
    (case hl =>
      refine Mine.left_of_tree (by kernel_rfl) (by decide +kernel) (fun s => by kernel_rfl) Mine.top_seen (fun w => ?_)
      kernel_rfl)))
set_option maxRecDepth 100000 in
set_option maxHeartbeats 8000000 in
open_top hd for PySem.Challenge.rw_or0053_01
end Mine
end
end
section
open PySem PySem.W PyProof.Rows PySem.Calls
namespace Mine

/-- a figure's code -/
def fig (v : Int) : Bool := decide (48 ≤ v ∧ v ≤ 57)
/-- a call of the def at f with the arguments vs, from any frame of a def, seen by the ledger alone -/
def Con (w : World) (mean : ExcName → Option Value) (mg mb : Str → Option Value) (deep : Nat) (f : Addr) (vs : List Value) (news : List (Addr × Obj)) (Ok : Value → List (Addr × Obj) → Prop) (Bad : Prop) : Prop :=
  ∀ (dp un : Nat) (gd : Option (List Code)) (cn : Str) (cs : Scope) (a : Addr) (ccd : Value) (cl : List (Str × Addr)) (outer : List Env) (A₀ : Around) (base h₀ : Heap) (L : Addr) (m : Str → Option Value) (s : Shared) (Q E : Value → Shared → Prop),
    Below A₀ base outer h₀ → Fr h₀ L s.heap m → (Mine.hd.heap_39 w.params).In h₀ → News h₀ L s.heap news → Top Mine.view (looseW Mine.view [Str.ofString "PostError"]) mean mg mb h₀ → cs.kind = .function →
    dp + deep < recursionLimit → un + 8 * deep < cLine →
    (∀ v news' h' tk', Ok v news' → Fr h₀ L h' m → News h₀ L h' news' → Q v { s with heap := h', toks := tk' }) →
    (∀ e a0 h' tk', Bad → Heap.FlyingW base (envX cn cs L a ccd cl :: outer) e (.ref 71) a0 h' → h₀.UpToSlots h' → h'.Ns L m → E (.ref e) { s with heap := h', toks := tk' }) →
    codeAny (model PySem.Challenge.rw_or0053_01.row.prog w) (ktrTop dp un gd cn cs L a ccd cl outer) (.call (.ref f) ⟨vs, []⟩) (fun r s' => match r with | .ok (.ret v) => Q v s' | .ok _ => False | .error e => E e s') s

theorem Con.use {w : World} {mean : ExcName → Option Value} {mg mb : Str → Option Value} {deep : Nat} {f : Addr} {vs : List Value} {newsC news : List (Addr × Obj)} {Ok : Value → List (Addr × Obj) → Prop} {Bad : Prop}
    {dp un : Nat} {gd : Option (List Code)} {cn : Str} {cs : Scope} {a : Addr} {ccd : Value} {cl : List (Str × Addr)} {outer : List Env} {A₀ : Around} {base h₀ : Heap} {L : Addr} {m : Str → Option Value} {s : Shared} {Q E : Value → Shared → Prop}
    (C : Con w mean mg mb deep f vs newsC Ok Bad)
    (B : Below A₀ base outer h₀) (F : Fr h₀ L s.heap m) (X : (Mine.hd.heap_39 w.params).In h₀) (N : News h₀ L s.heap news) (hs : ∀ p ∈ newsC, p ∈ news) (T : Top Mine.view (looseW Mine.view [Str.ofString "PostError"]) mean mg mb h₀) (hk : cs.kind = .function)
    (hd : dp + deep < recursionLimit) (hu : un + 8 * deep < cLine)
    (ret : ∀ v news' h' tk', Ok v news' → Fr h₀ L h' m → News h₀ L h' news' → Q v { s with heap := h', toks := tk' })
    (err : ∀ e a0 h' tk', Bad → Heap.FlyingW base (envX cn cs L a ccd cl :: outer) e (.ref 71) a0 h' → h₀.UpToSlots h' → h'.Ns L m → E (.ref e) { s with heap := h', toks := tk' }) :
    wpAny (model PySem.Challenge.rw_or0053_01.row.prog w) (ktrTop dp un gd cn cs L a ccd cl outer) (call (.ref f) vs) Q E s :=
  wpAny_call (C dp un gd cn cs a ccd cl outer A₀ base h₀ L m s Q E B F X (fun p hp => N p (hs p hp)) T hk hd hu ret err)
/-- the same through a bound method -/
theorem Con.useM {w : World} {mean : ExcName → Option Value} {mg mb : Str → Option Value} {deep : Nat} {f q : Addr} {self : Value} {vs : List Value} {newsC news : List (Addr × Obj)} {Ok : Value → List (Addr × Obj) → Prop} {Bad : Prop}
    {dp un : Nat} {gd : Option (List Code)} {cn : Str} {cs : Scope} {a : Addr} {ccd : Value} {cl : List (Str × Addr)} {outer : List Env} {A₀ : Around} {base h₀ : Heap} {L : Addr} {m : Str → Option Value} {s : Shared} {Q E : Value → Shared → Prop}
    (C : Con w mean mg mb deep f (self :: vs) newsC Ok Bad)
    (B : Below A₀ base outer h₀) (F : Fr h₀ L s.heap m) (X : (Mine.hd.heap_39 w.params).In h₀) (N : News h₀ L s.heap news) (hq : (q, methodObj (.ref f) self) ∈ news) (hs : ∀ p ∈ newsC, p ∈ news) (T : Top Mine.view (looseW Mine.view [Str.ofString "PostError"]) mean mg mb h₀) (hk : cs.kind = .function)
    (hd : dp + deep < recursionLimit) (hu : un + 8 * deep < cLine)
    (ret : ∀ v news' h' tk', Ok v news' → Fr h₀ L h' m → News h₀ L h' news' → Q v { s with heap := h', toks := tk' })
    (err : ∀ e a0 h' tk', Bad → Heap.FlyingW base (envX cn cs L a ccd cl :: outer) e (.ref 71) a0 h' → h₀.UpToSlots h' → h'.Ns L m → E (.ref e) { s with heap := h', toks := tk' }) :
    wpAny (model PySem.Challenge.rw_or0053_01.row.prog w) (ktrTop dp un gd cn cs L a ccd cl outer) (call (.ref q) vs) Q E s :=
  call_meth N hq (C dp un gd cn cs a ccd cl outer A₀ base h₀ L m s Q E B F X (fun p hp => N p (hs p hp)) T hk hd hu ret err)

set_option maxHeartbeats 8000000 in
theorem fig_con (w : World) (mean : ExcName → Option Value) (mg mb : Str → Option Value) (news : List (Addr × Obj)) (v : Int) (t : Tok) :
  Con w mean mg mb 1 156 [.int v t] news (fun r n => r = .bool (fig v) ∧ n = news) False := by
  k_with_none
  w_top off
  unfold Con
  k_fill
  intro dp un gd cn cs a ccd cl outer A₀ base h₀ L m s Q E B F X N T hk hd hu hret herr
  k_dflt cell_enter
  k_steps
  all_goals (refine hret _ _ _ _ ⟨?_, rfl⟩ (by k_asm) (by k_asm))
  all_goals (try (simp only [decide_eq_true_eq, decide_eq_false_iff_not] at *))
  all_goals (congr 1; unfold fig; simp; omega)

set_option maxHeartbeats 8000000 in
theorem nof_con (w : World) (mean : ExcName → Option Value) (mg mb : Str → Option Value) (news : List (Addr × Obj)) (b : Array UInt8) (t : Tok) :
  Con w mean mg mb 1 163 [.bytes b t] news (fun r n => ∃ t', r = .int ((b.toList.map fun c => (c.toNat : Int)).foldl (fun n c => n * 10 + c - 48) 0) t' ∧ n = news) False := by
  k_with_none
  w_top off
  unfold Con
  k_fill
  intro dp un gd cn cs a ccd cl outer A₀ base h₀ L m s Q E B F X N T hk hd hu hret herr
  k_dflt cell_enter
  k_with "pyIter bytes" => k_state (fun pre number => number = pre.foldl (fun n c => n * 10 + c - 48) 0) "number"
  k_steps
  exact hret _ _ _ _ ⟨_, by rw [kInv], rfl⟩ (by k_asm) (by k_asm)
end Mine
end
section
open PySem PySem.W PyProof.Rows PySem.Calls
namespace Mine
local macro_rules | `(tactic| k_room) => `(tactic| ktr_room)
local macro_rules | `(tactic| k_units) => `(tactic| ktr_units)
local macro_rules | `(tactic| k_all) => `(tactic| assumption)

/-- a wire's own dict: its data and where it stands -/
abbrev wd (P : Params) (b : Array UInt8) (t k1 k2 : Tok) (i : Int) (k3 : Tok) : Obj :=
  dictOf [{ hash := PyData.keyHash P (Str.ofString "data"), key := Value.str (Str.ofString "data") k1, val := Value.bytes b t },
          { hash := PyData.keyHash P (Str.ofString "at"), key := Value.str (Str.ofString "at") k2, val := Value.int i k3 }] 2

theorem bInts_inj {b c : Array UInt8} (h : KBw.bInts b = KBw.bInts c) : b.toList = c.toList := by
  have inj : Function.Injective (fun c : UInt8 => ((c.toNat : Nat) : Int)) := fun x y e => by
    have e' : (x.toNat : Int) = (y.toNat : Int) := e
    have : x.toNat = y.toNat := by omega
    exact UInt8.toNat_inj.mp this
  exact (List.map_inj_right fun x y e => inj e).mp h

theorem clip_in {n : Nat} {i : Int} (h0 : 0 ≤ i) (h1 : i ≤ n) : clipAt n i = i.toNat := by
  have := clipAt_cast n i
  rw [if_neg (by omega)] at this
  omega
theorem clip_over {n : Nat} {i : Int} (h1 : (n : Int) ≤ i) : clipAt n i = n := by
  have := clipAt_cast n i
  rw [if_neg (by omega)] at this
  omega

theorem skip_is {p : Array UInt8} {ks : List Int} {c : UInt8} {i j : Int} (h0 : 0 ≤ i) (h1 : i ≤ ks.length) (hj : j = i + 1)
    (hk : KBw.bInts p = List.take (clipAt ks.length j - clipAt ks.length i) (List.drop (clipAt ks.length i) ks)) :
    p.toList = [c] ↔ ks[i.toNat]? = some (c.toNat : Int) := by
  subst hj
  rw [clip_in h0 h1] at hk
  have e1 : p.toList = [c] ↔ KBw.bInts p = [(c.toNat : Int)] := by
    constructor
    · intro e; show p.toList.map _ = _; rw [e]; rfl
    · intro e; exact bInts_inj (c := #[c]) (by rw [e]; rfl)
  rw [e1, hk]
  by_cases hlt : i.toNat < ks.length
  · rw [show clipAt ks.length (i + 1) - i.toNat = 1 from by rw [clip_in (by omega) (by omega)]; omega]
    rw [List.drop_eq_getElem_cons hlt, List.getElem?_eq_getElem hlt]
    show [ks[i.toNat]] = _ ↔ _
    simp
  · rw [clip_over (by omega), List.getElem?_eq_none (by omega), List.drop_of_length_le (by omega)]
    simp

set_option maxHeartbeats 8000000 in
theorem skip_con (w : World) (mean : ExcName → Option Value) (mg mb : Str → Option Value) (x d : Addr) (rest : List (Addr × Obj)) (b : Array UInt8) (t k1 k2 k3 to : Tok) (ks : List Int) (c : UInt8) (i : Int)
    (hks : KBw.bInts b = ks) (hsz : ks.length ≤ 16777216) (hxd : x ≠ d) (hrest : ∀ p ∈ rest, p.1 ≠ d) (hi0 : 0 ≤ i) (hi1 : i ≤ ks.length) :
  Con w mean mg mb 2 206 [.ref x, .bytes #[c] to] ((x, instObj 355 d) :: (d, wd w.params b t k1 k2 i k3) :: rest)
   (fun r n => (r = .bool true ∧ ks[i.toNat]? = some (c.toNat : Int) ∧ ∃ k4, n = ((x, instObj 355 d) :: (d, wd w.params b t k1 k2 (i + 1) k4) :: rest)) ∨
       (r = .bool false ∧ ks[i.toNat]? ≠ some (c.toNat : Int) ∧ n = ((x, instObj 355 d) :: (d, wd w.params b t k1 k2 i k3) :: rest))) False := by
  k_with_none
  w_top off
  unfold Con
  k_fill
  intro dp un gd cn cs a ccd cl outer A₀ base h₀ L m s Q E B F X N T hk hd hu hret herr
  have hco : KBw.bInts #[c] = [(c.toNat : Int)] := rfl
  k_dflt cell_enter
  k_steps
  · rename (_ != _) = true => hne
    refine hret _ _ _ _ (.inr ⟨rfl, fun h => ?_, rfl⟩) (by k_asm) (by k_asm)
    have := (skip_is (c := c) hi0 hi1 rfl (by assumption)).mpr h
    exact (bne_iff_ne.mp hne) this
  · rename (_ != _) = false => hne
    refine hret _ _ _ _ (.inl ⟨rfl, ?_, _, rfl⟩) (by k_asm) (by k_asm)
    refine (skip_is (c := c) hi0 hi1 rfl (by assumption)).mp ?_
    simpa using hne
end Mine
end
section
open PySem PySem.W PyProof.Rows PySem.Calls
namespace Mine
local macro_rules | `(tactic| k_room) => `(tactic| ktr_room)
local macro_rules | `(tactic| k_units) => `(tactic| ktr_units)
local macro_rules | `(tactic| k_all) => `(tactic| assumption)

def RunInv (ks : List Int) (i a : Int) : Prop := i ≤ a ∧ a ≤ ks.length ∧ (ks.drop i.toNat).takeWhile fig = (ks.drop i.toNat).take (a - i).toNat ++ (ks.drop a.toNat).takeWhile fig
theorem run_start {ks : List Int} {i : Int} (h1 : i ≤ ks.length) : RunInv ks i i := ⟨Int.le_refl _, h1, by simp⟩
theorem run_next {ks : List Int} {i a : Int} (h0 : 0 ≤ i) (h : RunInv ks i a) (h1 : a < ks.length) (h2 : fig (ks.getD a.toNat 0) = true) : RunInv ks i (a + 1) := by
  obtain ⟨x1, x2, x3⟩ := h
  refine ⟨by omega, by omega, ?_⟩
  have hlt : a.toNat < ks.length := by omega
  rw [List.getD_eq_getElem?_getD, List.getElem?_eq_getElem hlt, Option.getD_some] at h2
  rw [x3, List.drop_eq_getElem_cons hlt, List.takeWhile_cons, if_pos h2, show (a + 1).toNat = a.toNat + 1 from by omega]
  have e : (ks.drop i.toNat).take (a + 1 - i).toNat = (ks.drop i.toNat).take (a - i).toNat ++ [ks[a.toNat]] := by
    rw [show (a + 1 - i).toNat = (a - i).toNat + 1 from by omega, List.take_add_one, List.getElem?_drop, show i.toNat + (a - i).toNat = a.toNat from by omega, List.getElem?_eq_getElem hlt]
    rfl
  rw [e, List.append_assoc]
  rfl
theorem run_stop {ks : List Int} {i a : Int} (h0 : 0 ≤ i) (h : RunInv ks i a) (h1 : ¬ (a < ks.length ∧ fig (ks.getD a.toNat 0) = true)) : (ks.drop i.toNat).takeWhile fig = (ks.drop i.toNat).take (a - i).toNat ∧ a = i + ((ks.drop i.toNat).takeWhile fig).length := by
  obtain ⟨x1, x2, x3⟩ := h
  have e : (ks.drop a.toNat).takeWhile fig = [] := by
    by_cases hlt : a < ks.length
    · have hlt' : a.toNat < ks.length := by omega
      have h2 : ¬ fig (ks.getD a.toNat 0) = true := fun q => h1 ⟨hlt, q⟩
      rw [List.getD_eq_getElem?_getD, List.getElem?_eq_getElem hlt', Option.getD_some] at h2
      rw [List.drop_eq_getElem_cons hlt', List.takeWhile_cons, if_neg h2]
    · rw [List.drop_of_length_le (by omega)]; rfl
  rw [e, List.append_nil] at x3
  refine ⟨x3, ?_⟩
  rw [x3, List.length_take, List.length_drop]
  omega

theorem run_end {p : Array UInt8} {ks : List Int} {i a : Int} (h0 : 0 ≤ i) (hi : i ≤ ks.length) (h : RunInv ks i a) (h1 : ¬ (a < ks.length ∧ fig (ks.getD a.toNat 0) = true))
    (hk : KBw.bInts p = List.take (clipAt ks.length a - clipAt ks.length i) (List.drop (clipAt ks.length i) ks)) :
    KBw.bInts p = (ks.drop i.toNat).takeWhile fig ∧ a = i + ((ks.drop i.toNat).takeWhile fig).length := by
  have hs := run_stop h0 h h1
  have x1 := h.1
  have x2 := h.2.1
  refine ⟨?_, hs.2⟩
  rw [hk, clip_in h0 hi, clip_in (by omega) x2, hs.1, show a.toNat - i.toNat = (a - i).toNat from by omega]
theorem fig_yes {v : Int} (h1 : 48 ≤ v) (h2 : v ≤ 57) : fig v = true := decide_eq_true ⟨h1, h2⟩
theorem fig_no1 {v : Int} (h1 : ¬ 48 ≤ v) : ¬ fig v = true := fun h => h1 (of_decide_eq_true h).1
theorem fig_no2 {v : Int} (h1 : ¬ v ≤ 57) : ¬ fig v = true := fun h => h1 (of_decide_eq_true h).2

local macro_rules | `(tactic| walk_at "call ref") => `(tactic| (k_here; (with_reducible show wpAny _ _ (call (Value.ref 156) [Value.int _ _]) _ _ _); k_dflt (
  refine' Con.use (fig_con _ _ _ _ _ _ _) ?B ?F ?X ?N ?S ?T ?hk ?hd ?hu ?ret ?err
  (case B => k_asm); (case F => k_asm); (case X => k_asm); (case N => k_asm); (case S => exact fun _ h => h); (case T => k_asm); (case hk => first | exact rfl | assumption); (case hd => ktr_room); (case hu => ktr_units)
  (case err => exact fun _ _ _ _ h => h.elim)
  (case ret => (rintro _ _ h9 tk9 ⟨rfl, rfl⟩ F9 N9; (try dsimp only); (try k_fold))))))

set_option maxHeartbeats 8000000 in
theorem run_con (w : World) (mean : ExcName → Option Value) (mg mb : Str → Option Value) (x d : Addr) (rest : List (Addr × Obj)) (b : Array UInt8) (t k1 k2 k3 : Tok) (ks : List Int) (i : Int)
    (hks : KBw.bInts b = ks) (hsz : ks.length ≤ 16777216) (hxd : x ≠ d) (hrest : ∀ p ∈ rest, p.1 ≠ d) (hi0 : 0 ≤ i) (hi1 : i ≤ ks.length) :
  Con w mean mg mb 2 234 [.ref x, .ref 156] ((x, instObj 355 d) :: (d, wd w.params b t k1 k2 i k3) :: rest)
   (fun r n => ∃ b' t' k4, r = .bytes b' t' ∧ KBw.bInts b' = (ks.drop i.toNat).takeWhile fig ∧ n = ((x, instObj 355 d) :: (d, wd w.params b t k1 k2 (i + ((ks.drop i.toNat).takeWhile fig).length) k4) :: rest)) False := by
  k_with_none
  w_top off
  unfold Con
  k_fill
  intro dp un gd cn cs a ccd cl outer A₀ base h₀ L m s Q E B F X N T hk hd hu hret herr
  k_dflt cell_enter
  k_with "exec While BoolOp cons nil" => (k_here; (rename Fr _ _ _ _ => lF'); (rename News _ _ _ _ => lN'); (with_unfolding_all refine' ksw_while (σ := Int × Tok) (fun c => (x, instObj 355 d) :: (d, wd w.params b t k1 k2 c.1 c.2) :: rest) (fun _ => []) (fun _ => True) [] (fun c => RunInv ks i c.1) (fun c => ks.length - c.1.toNat) (i, k3) lF' lN' trivial (fun _ h => nomatch h) (run_start hi1) ?_); clear lF' lN'; rintro ⟨a9, k9⟩ u9 h9 tk9 _ hP9 F9 N9; (try dsimp only at hP9 F9 N9); (have hR9 := hP9); (obtain ⟨hl9, hu9, _⟩ := hP9); (try k_fold))
  k_steps
  · exact ksw_end (a9 + 1, _) (by k_asm) (by k_asm) (fun p h => h) trivial (fun _ h => nomatch h) (fun z _ _ => rfl) (run_next hi0 hR9 (by assumption) (fig_yes (by assumption) (by assumption))) (by dsimp only; omega)
  all_goals (
    have hs := run_end hi0 hi1 hR9 (fun q => by first | exact absurd q.2 (fig_no2 (by assumption)) | exact absurd q.2 (fig_no1 (by assumption)) | exact absurd q.1 (by assumption)) (by assumption)
    refine hret _ ((x, instObj 355 d) :: (d, wd w.params b t k1 k2 a9 k9) :: rest) _ _ ⟨_, _, k9, rfl, hs.1, by rw [← hs.2]⟩ (by k_asm) (by k_asm))
end Mine
end
section
open PySem PySem.W PyProof.Rows PySem.Calls
namespace Mine
section
variable {h : Heap} {g : Array GenState} {d : Drawn} {t : Nat} {os : OsState}
variable {nm q : Str} {C N : Addr} {bs bm bmB : List Value} {hdct : Bool} {sn : List Str} {sub : List Value} {ab : Bool} {col : Option Bool} {dd : Option Addr} {k0 k1 k2 k3 k5 : Option Value} {B newId initId : String}

theorem exc_check_new {M : Model} {A : Around} {E : Value → Shared → Prop} (F : ExcBaseFacts B newId initId bmB) (hcB : (Value.ref C :: bm).contains (.type B) = true) {rest : List Value} {Q : Unit → Shared → Prop}
    (hC : h.get? C = some (excClassObj nm q C N bs bm hdct sn sub ab col dd k0 k1 k2 k3 k5 newId)) (hq : Q () ⟨h, g, d, t, os⟩) :
    wpAny M A (checkBuiltinCall newId ⟨.ref C :: rest, []⟩) Q E ⟨h, g, d, t, os⟩ := by
  have hstar := F.noStar
  simp only [checkBuiltinCall, F.newKind, F.newSplit, F.newRow]
  repeat (first
    | refine wpAny_loadPart_at hC ?_
    | (refine wpAny_isSubtype_exc hC ?_; rw [hcB])
    | refine wpAny_staticBase_exc hC ?_
    | refine wpAny_madeBy_exc hC ?_
    | simp only [bne_self_eq_false, Bool.false_eq_true, if_false]
    | wp_step)
  exact hq

abbrev excObj (C t : Addr) : Obj := { cls := .ref C, data := .fields #[.ref t, .none, .none, .none, .bool false, .none] }
abbrev tupObj (vs : List Value) : Obj := { cls := .type "tuple", data := .seq vs.toArray }

theorem exc_new {prog : Program} {w : World} {A : Around} {R : Result → Shared → Prop} (F : ExcBaseFacts B newId initId bmB) (hcB : (Value.ref C :: bm).contains (.type B) = true)
    (hcA : (Value.ref C :: bm).contains (.type "AttributeError") = false) (hcN : (Value.ref C :: bm).contains (.type "NameError") = false) {rest : List Value}
    (hC : h.get? C = some (excClassObj nm q C N bs bm hdct sn sub ab col dd k0 k1 k2 k3 k5 newId)) (hrest : rest.length ≤ sizeLine)
    (hq : R (.ok (.ret (.ref (h.objs.size + 1)))) ⟨(h.push (tupObj rest)).push (excObj C h.objs.size), g, d, t, os⟩) :
    codeAny (model prog w) A (.builtin newId ⟨.ref C :: rest, []⟩) R ⟨h, g, d, t, os⟩ := by
  have hends := F.ends
  refine codeAny_builtinAt F.entry ?_
  unfold Builtin.«BaseException.__new__»
  refine PySem.wpAt_bind ?_
  show PySem.wpAt _ _ _ (stack >>= _) _ _ _
  refine PySem.wpAt_bind (PySem.wpAt_stack fun p below => PySem.wpAt_of_wpAny ?_)
  wp_walk
  refine PySem.wpAt_of_wpAny ?_
  rw [F.owner]
  repeat (first
    | with_reducible refine wpAny_madeHere_exc F.canon hC ?_
    | with_reducible refine wpAny_loadPart_at hC ?_
    | (with_reducible refine wpAny_isSubtype_exc hC ?_; first | rw [hcB] | rw [hcA] | rw [hcN])
    | wp_step)
  show R _ _
  rw [Heap.size_push]
  exact hq

theorem exc_make {prog : Program} {w : World} {A : Around} {R : Result → Shared → Prop} {rest : List Value} {init : Value} (F : ExcBaseFacts B newId initId bmB) (hcB : (Value.ref C :: bm).contains (.type B) = true)
    (hcA : (Value.ref C :: bm).contains (.type "AttributeError") = false) (hcN : (Value.ref C :: bm).contains (.type "NameError") = false)
    (hC : h.get? C = some (excClassObj nm q C N bs bm hdct sn sub ab col dd k0 k1 k2 k3 k5 newId)) (hrest : rest.length ≤ sizeLine)
    (call : Looks (model prog w) h (specialOf (.ref C) "__call__") (some (.builtin "type.__call__"))) (typ : Looks (model prog w) h (isInstance (.ref C) (.type "type")) true)
    (hi : Looks (model prog w) h (typeLookup (.ref C) "__init__") (some init)) (hb : ∀ self, Looks (model prog w) h (bindSpecial init self) (init, [self]))
    (hq : codeAny (model prog w) (A.under (.builtin "type.__call__" ⟨.ref C :: rest, []⟩)) (.call init ⟨.ref (h.objs.size + 1) :: rest, []⟩) (InitBack (h.objs.size + 1) R) ⟨(h.push (tupObj rest)).push (excObj C h.objs.size), g, d, t, os⟩) :
    codeAny (model prog w) A (.call (.ref C) ⟨rest, []⟩) R ⟨h, g, d, t, os⟩ := by
  refine codeAny_of_tree ?_
  show wpAny _ _ (callAny (.ref C) _) _ _ _
  refine nd_load hC ?_
  show wpAny _ _ (callAny.viaDunder (.ref C) _) _ _ _
  unfold callAny.viaDunder
  refine wpAny_bind (call.at ?_)
  dsimp only
  rw [tc_bind]
  refine wpAny_bind (wpAny_pure (wpAny_bind (wpAny_pure ?_)))
  refine wpAny_pure (a := Fin.again (.call (.builtin "type.__call__") ⟨.ref C :: rest, []⟩)) (And.intro rfl ?_)
  refine codeAny_call_builtin_at (Code.quiet_builtin _ (by decide +kernel)) entry_typeCall (check_slot tc_kind tc_split typ (tc_args _ _ _) ?_)
  unfold Builtin.«type.__call__»
  repeat (first | with_reducible refine wpAny_loadPart_at hC ?_ | with_reducible refine wpAny_madeBy_exc hC ?_ | wp_step)
  refine codeAny_call_builtin_code (Code.quiet_builtin _ F.quiet) (exc_check_new F hcB hC ?_)
  refine exc_new F hcB hcA hcN hC hrest ?_
  show wpAny _ _ _ _ _ _
  have k : ∀ b o, h.get? b = some o → ((h.push (tupObj rest)).push (excObj C h.objs.size)).get? b = some o := fun b o e => Heap.get?_push_of_some _ (Heap.get?_push_of_some _ e)
  have hx : ((h.push (tupObj rest)).push (excObj C h.objs.size)).get? (h.objs.size + 1) = some (excObj C h.objs.size) := by heap_get
  have t1 : Looks (model prog w) ((h.push (tupObj rest)).push (excObj C h.objs.size)) (typeOf (.ref (h.objs.size + 1))) (.ref C) := (Looks.ld hx).andThen .now
  have hC₁ := k _ _ hC
  have hcC : (Value.ref C :: bm).contains (.ref C) = true := by simp
  have i1 := hi.keeps k
  have b1 := (hb (.ref (h.objs.size + 1))).keeps k
  unfold isInstance
  refine wpAny_bind (wpAny_bind (t1.at (wpAny_isSubtype_exc hC₁ ?_)))
  rw [hcC]
  unfold callSpecial? specialOf
  repeat (first | with_reducible refine wpAny_call ?_ | lk)
  refine codeAny_mono hq fun r s' z => ?_
  rcases r with e | (v | _ | _ | _) <;> first | exact z | exact z.elim | skip
  obtain ⟨rfl, z⟩ := z
  exact wpAny_pure (wpAny_pure z)
end
end Mine
end
section
open PySem PySem.W PyProof.Rows PySem.Calls PySem.Builtin PySem.Builtin.ObjectAttr
namespace Mine
/-- a fault in hand: its words' tuple, its own dict -/
abbrev fltO (C t dx : Addr) : Obj := { cls := .ref C, dict := some dx, data := .fields #[.ref t, .none, .none, .none, .bool false, .none] }

section
variable {prog : Program} {w : World} {A : Around} {E : Value → Shared → Prop} {s : Shared} {K : Frag} {x C L : Addr} {h₀ : Heap} {m : Str → Option Value} {news rest : List (Addr × Obj)} {R : Result → Shared → Prop}

theorem xset_open {ox : Obj} {od : Option Obj} {name : Str} {tk : Tok} {v : Value} {cd : ClassData} (X : K.In s.heap) (I : InstAt s.heap x ox C od) (hc : clsIn K C = some cd) (hro : refuseLoop (.ref x) "__setattr__" cd.mro = pure ())
    (hobj : mroIn K C (.type "object") = some true) (ht : takerIn K C name = some none)
    (h : ∀ b, wpAny (model prog w) A.in1 (storeInOwnDict (.ref x) (.ref C) (.str name tk) name v b)
      (fun fin s' => match fin with | .done f => R (.ok f) s' | .again c' => c'.quiet = true ∧ codeAny (model prog w) A c' R s') (fun e s' => R (.error e) s') s) :
    codeAny (model prog w) A (.call (.builtin "object.__setattr__") ⟨[.ref x, .str name tk, v], []⟩) R s := by
  have SF := PySem.F.store_object
  have isObj : Looks (model prog w) s.heap (isInstance (.ref x) (.type "object")) true := I.type.andThen (looks_mroIn X hobj)
  obtain ⟨attr, ha, hr⟩ := Option.bind_eq_some_iff.mp ht
  have mro : Looks (model prog w) s.heap (mroOf (.ref C)) cd.mro := (looks_clsIn X hc).andThen .now
  have taker : Looks (model prog w) s.heap (storeTaker? attr) none := by
    cases attr with
    | none => exact .now
    | some a =>
      obtain ⟨b, hb, hb2⟩ := Option.map_eq_some_iff.mp hr
      refine (looks_takesIn X hb).andThen ?_
      cases b with
      | true => cases hb2
      | false => exact .now
  refine codeAny_call_builtin SF.slot.plain SF.entry (@check_slot (model prog w) _ _ s "object.__setattr__" "object" "__setattr__" (.ref x) [.str name tk, v] [] _ SF.kind SF.split isObj (SF.args (.ref x) (.str name tk) v) ?_)
  rw [osa_eq, refuse_eq]
  refine wpAny_bind (wpAny_bind (I.type.here (wpAny_bind (mro.here ?_))))
  rw [hro]
  exact wpAny_pure (wpAny_bind (I.type.here (wpAny_bind ((looks_findIn X ha).here (wpAny_bind (taker.here (h _)))))))

theorem putL_len (name : Str) (hsh : Int) (key v : Value) : ∀ es : List DictEntry, (putL name hsh key v es).length ≤ es.length + 1
  | [] => by simp [putL]
  | e :: r => by
    have ih := putL_len name hsh key v r
    unfold putL
    split
    · simp
    · simp only [List.length_cons]; omega
theorem putL_keys (name : Str) (hsh : Int) (tk : Tok) (v : Value) : ∀ es : List DictEntry, es.any (·.refKey) = false → (putL name hsh (.str name tk) v es).any (·.refKey) = false
  | [], _ => rfl
  | e :: r, h => by
    rw [List.any_cons, Bool.or_eq_false_iff] at h
    have ih := putL_keys name hsh tk v r h.2
    unfold putL
    split
    · rw [List.any_cons, Bool.or_eq_false_iff]; exact ⟨h.1, h.2⟩
    · rw [List.any_cons, Bool.or_eq_false_iff]; exact ⟨h.1, ih⟩
/-- a name is laid in a dict of the ledger -/
theorem xset_in {d : Addr} {name : Str} {tk : Tok} {v : Value} {es : List DictEntry} {n : Nat} {Q : PySem.Fin → Shared → Prop} (F : Fr h₀ L s.heap m) (N : News h₀ L s.heap ((d, dictOf es n) :: rest)) (hr : ∀ p ∈ rest, p.1 ≠ d)
    (hkey : (es.any (·.refKey)) = false) (hz : es.length < 1000)
    (h : ∀ h' es' n', es'.length ≤ es.length + 1 → es'.any (·.refKey) = false → Fr h₀ L h' m → News h₀ L h' ((d, dictOf es' n') :: rest) → Q (.done (.ret .none)) { s with heap := h', toks := s.toks + 1 }) :
    wpAny (model prog w) A (storeInDict d (.str name tk) name v) Q E s := by
  have D := (N _ (.head _)).1
  obtain ⟨U1, U2⟩ := news_upd (pre := []) (f := Obj.putName name (PyData.keyHash w.params name) (.str name s.toks) v) F N (fun _ q => nomatch q) hr (putName_dict ..) rfl
  have D' := (U2 _ (.head _)).1
  refine wpAny_bind (wpAny_pure (wpAny_bind ?_))
  unfold nsSet
  refine wpAny_bind (wpAny_bind (wpAny_askSetting (wpAny_pure (wpAny_bind (wpAny_mkText (wpAny_bind (wpAny_loadPart D ?_)))))))
  dsimp only
  have c : (!(es.toArray).any (·.key.isStr name) && (es.toArray).any (·.refKey)) = false := by
    rw [← Array.any_toList (as := es.toArray) (p := (·.refKey)), hkey, Bool.and_false]
  rw [aRefKeyMayBeTheName_at, c]
  refine wpAny_updatePart D ?_
  refine wpAny_bind (wpAny_lookBehind D' (pastItsLine_dict ?_) ?_)
  · rw [List.size_toArray, sizeLine_eq]
    have := putL_len name (PyData.keyHash w.params name) (.str name s.toks) v es
    omega
  · exact wpAny_pure (h _ _ _ (putL_len ..) (putL_keys _ _ _ _ _ hkey) U1 U2)

theorem xset_first {e t : Addr} {name : Str} {v : Value} {cd : ClassData} {Q : Unit → Shared → Prop} (F : Fr h₀ L s.heap m) (X₀ : K.In h₀) (N : News h₀ L s.heap ((e, excObj C t) :: rest)) (hr : ∀ p ∈ rest, p.1 ≠ e)
    (hs : findIn K (.ref C) "__setattr__" = some (some (.builtin "object.__setattr__"))) (hc : clsIn K C = some cd) (hd : cd.hasDict = true) (hro : refuseLoop (.ref e) "__setattr__" cd.mro = pure ())
    (hobj : mroIn K C (.type "object") = some true) (ht : takerIn K C name = some none)
    (h : ∀ dx h' tk' es n, es.length ≤ 1 → es.any (·.refKey) = false → Fr h₀ L h' m → News h₀ L h' ((dx, dictOf es n) :: (e, fltO C t dx) :: rest) → e ≠ dx → (∀ p ∈ rest, p.1 ≠ dx) → Q () { s with heap := h', toks := tk' }) :
    wpAny (model prog w) A (setAttr (.ref e) name v) Q E s := by
  have X := X₀.keeps F.keep
  have hx := (N _ (.head _)).1
  have I : InstAt s.heap e (excObj C t) C none := ⟨hx, rfl, rfl, trivial⟩
  have I' : InstAt ({ s with toks := s.toks + 1 } : Shared).heap e (excObj C t) C none := I
  have X' : K.In ({ s with toks := s.toks + 1 } : Shared).heap := X
  refine set_plain X I hs (xset_open (s := { s with toks := s.toks + 1 }) X' I' hc hro hobj ht fun b => ?_)
  have hx' : ({ s with toks := s.toks + 1 } : Shared).heap.get? e = some (excObj C t) := hx
  refine wpAny_bind (wpAny_pure (wpAny_bind (wpAny_bind (wpAny_loadPart hx' (wpAny_bind ((looks_clsIn X' hc).here ?_))))))
  rw [hd]
  have F1 := F.push (dictOf [] 0)
  have N1 := N.push F (dictOf [] 0)
  have hne : ∀ p ∈ (e, excObj C t) :: rest, p.1 ≠ s.heap.objs.size := fun p hp => Nat.ne_of_lt (Heap.lt_size (N p hp).1)
  have hne1 := hne _ (.head _)
  obtain ⟨F2, N2⟩ := news_upd (pre := [(s.heap.objs.size, dictOf [] 0)]) (f := fun o => { o with dict := some s.heap.objs.size }) F1 N1 (fun p hp => by rw [List.mem_singleton.mp hp]; exact Ne.symm hne1) hr rfl rfl
  show wpAny _ _ (alloc (dictOf [] 0) >>= fun d => update e (fun o => { o with dict := some d }) >>= fun _ => dictMade (.ref C) e d) _ _ _
  refine wpAny_bind (wpAny_alloc (wpAny_bind (wpAny_update (Heap.get?_push_of_some _ hx') (wpAny_pure (a := some s.heap.objs.size) ?_))))
  refine xset_in F2 N2 ?_ rfl (by decide) fun h' es' n' z1 z2 F' N' => ?_
  · intro p hp
    rcases List.mem_cons.mp hp with rfl | hp
    · exact hne1
    · exact hne _ (.tail _ hp)
  · exact h _ _ _ _ _ z1 z2 F' N' hne1 fun p hp => hne _ (.tail _ hp)

theorem xset_next {e t dx : Addr} {name : Str} {v : Value} {cd : ClassData} {es : List DictEntry} {n : Nat} {Q : Unit → Shared → Prop} (F : Fr h₀ L s.heap m) (X₀ : K.In h₀) (N : News h₀ L s.heap ((dx, dictOf es n) :: (e, fltO C t dx) :: rest)) (hr : ∀ p ∈ rest, p.1 ≠ dx) (hne : e ≠ dx)
    (hkey : (es.any (·.refKey)) = false) (hz : es.length < 1000)
    (hs : findIn K (.ref C) "__setattr__" = some (some (.builtin "object.__setattr__"))) (hc : clsIn K C = some cd) (hd : cd.hasDict = true) (hro : refuseLoop (.ref e) "__setattr__" cd.mro = pure ())
    (hobj : mroIn K C (.type "object") = some true) (ht : takerIn K C name = some none)
    (h : ∀ h' tk' es' n', Fr h₀ L h' m → News h₀ L h' ((dx, dictOf es' n') :: (e, fltO C t dx) :: rest) → Q () { s with heap := h', toks := tk' }) :
    wpAny (model prog w) A (setAttr (.ref e) name v) Q E s := by
  have X := X₀.keeps F.keep
  have hx := (N _ (.tail _ (.head _))).1
  have hdx := (N _ (.head _)).1
  have I : InstAt s.heap e (fltO C t dx) C (some (dictOf es n)) := ⟨hx, rfl, rfl, hdx⟩
  have I' : InstAt ({ s with toks := s.toks + 1 } : Shared).heap e (fltO C t dx) C (some (dictOf es n)) := I
  have X' : K.In ({ s with toks := s.toks + 1 } : Shared).heap := X
  refine set_plain X I hs (xset_open (s := { s with toks := s.toks + 1 }) X' I' hc hro hobj ht fun b => ?_)
  have hx' : ({ s with toks := s.toks + 1 } : Shared).heap.get? e = some (fltO C t dx) := hx
  refine wpAny_bind (wpAny_pure (wpAny_bind (wpAny_bind (wpAny_loadPart hx' (wpAny_bind ((looks_clsIn X' hc).here ?_))))))
  rw [hd]
  refine wpAny_pure (a := some dx) ?_
  refine xset_in (s := { s with toks := s.toks + 1 }) F N ?_ hkey hz fun h' es' n' _ _ F' N' => ?_
  · intro p hp
    rcases List.mem_cons.mp hp with rfl | hp
    · exact hne
    · exact hr _ hp
  · exact h _ _ _ _ F' N'

theorem xinit {t : Addr} {nm q : Str} {N : Addr} {bs bm bmB : List Value} {hdct : Bool} {sn : List Str} {sub : List Value} {ab : Bool} {col : Option Bool} {dd : Option Addr} {k0 k1 k2 k3 k5 : Option Value} {B newId nid initId : String}
    {e : Addr} {args : List Value} {Q : Value → Shared → Prop} (XF : ExcBaseFacts B nid initId bmB) (hcB : (Value.ref C :: bm).contains (.type B) = true)
    (hC : s.heap.get? C = some (excClassObj nm q C N bs bm hdct sn sub ab col dd k0 k1 k2 k3 k5 newId)) (hargs : args.length ≤ sizeLine)
    (F : Fr h₀ L s.heap m) (N : News h₀ L s.heap ((e, excObj C t) :: rest)) (hr : ∀ p ∈ rest, p.1 ≠ e)
    (h : ∀ h' t', Fr h₀ L h' m → News h₀ L h' ((e, excObj C t') :: rest) → Q .none { s with heap := h' }) :
    wpAny (model prog w) A (call (.builtin initId) (.ref e :: args)) Q E s := by
  have he := (N _ (.head _)).1
  have F1 := F.push (tupObj args)
  have N1 := N.push F (tupObj args)
  have hne : e ≠ s.heap.objs.size := Nat.ne_of_lt (Heap.lt_size he)
  obtain ⟨F2, N2⟩ := news_upd (pre := [(s.heap.objs.size, tupObj args)]) (f := Obj.mapFields (·.setIfInBounds 0 (.ref s.heap.objs.size))) (o' := excObj C s.heap.objs.size) F1 N1 (fun p hp => by rw [List.mem_singleton.mp hp]; exact Ne.symm hne) hr rfl rfl
  obtain ⟨hp, g, d, tk, os⟩ := s
  refine wpAny_call (codeAny_call_builtin XF.init.plain XF.initEntry ?_)
  have hshort := XF.noStar
  simp only [checkBuiltinCall, XF.initKind, XF.initSplit, XF.initRow]
  have kind : ∀ {M : Model} {A' : Around} {E' : Value → Shared → Prop} {Q' : Bool → Shared → Prop}, Q' true ⟨hp, g, d, tk, os⟩ → wpAny M A' (isInstance (.ref e) (.type B)) Q' E' ⟨hp, g, d, tk, os⟩ := fun hq' => by
    unfold isInstance
    refine wpAny_bind (wpAny_bind (wpAny_loadPart_at he (wpAny_pure ?_)))
    refine wpAny_isSubtype_exc hC ?_
    rw [hcB]
    exact hq'
  refine wpAny_bind (kind ?_)
  rw [if_neg (by decide)]
  repeat wp_step
  refine wpAny_onRaise ?_
  rw [show ∀ (a b : String) (n : Nat), Bind.check ⟨.positional, "*", B, .self, [⟨"args", .varPos, false⟩]⟩ a b n (List.map (fun x => x.fst) ({ pos := Value.ref e :: args } : Args).kw) = pure () from
    fun a b n => check_star_args _ _ _ _ _ _]
  refine wpAny_pure ?_
  unfold Builtin.«BaseException.__init__»
  dsimp only
  rw [if_neg (by simp)]
  unfold newTuple Builtin.BaseException.bexcPut
  have he₁ := Heap.get?_push_of_some (tupObj args) he
  refine wpAny_bind (wpAny_newObj_type (wpAny_bind (wpAny_bind (wpAny_field he₁ rfl (x := .ref t) rfl (wpAny_bind (wpAny_setField he₁ rfl (by show 0 < 6; decide) ?_))))) (by show args.toArray.size ≤ sizeLine; rw [List.size_toArray]; exact hargs))
  refine wpAny_letGo (wpAny_pure ?_)
  exact h _ _ F2 fun p hp => N2 p (.tail _ hp)
end
end Mine
end
section
open PySem PySem.W PyProof.Rows PySem.Calls PySem.Builtin PySem.Builtin.ObjectAttr
namespace Mine
local macro_rules | `(tactic| k_room) => `(tactic| ktr_room)
local macro_rules | `(tactic| k_units) => `(tactic| ktr_units)
local macro_rules | `(tactic| k_all) => `(tactic| assumption)
/-- a fault in hand: its words' tuple, its own dict -/
abbrev flt (t dx : Addr) : Obj := fltO 71 t dx
theorem meta_Exc : typeOf (.type "Exception") = pure (.type "type") := by kernel_rfl
theorem refuse_exc (self : Value) : refuseLoop self "__setattr__" [.type "Exception", .type "BaseException", .type "object"] = pure () := by kernel_rfl
theorem refuse_wf (self : Value) : refuseLoop self "__setattr__" [.ref 71, .ref 46, .type "Exception", .type "BaseException", .type "object"] = pure () := by
  rw [refuseLoop_ref, refuseLoop_ref, refuse_exc]

set_option maxHeartbeats 8000000 in
theorem wf_con (w : World) (mean : ExcName → Option Value) (mg mb : Str → Option Value) (news : List (Addr × Obj)) (what : Str) (tw : Tok) (i : Int) (ti : Tok) :
  Con w mean mg mb 3 71 [.str what tw, .int i ti] news (fun r n => ∃ e t dx, r = .ref e ∧ n = (e, flt t dx) :: news) False := by
  k_with_none
  w_top off
  unfold Con
  k_fill
  intro dp un gd cn cs a ccd cl outer A₀ base h₀ L m s Q E B F X N T hk hd hu hret herr
  obtain ⟨hh, g, d, tk, os⟩ := s
  have X' := Frag.In.keeps X F.keep
  refine' exc_make (C := 71) (rest := [.str what tw, .int i ti]) PySem.F.excBase_Exception ?hcB ?hcA ?hcN (X' 71 _ ?hC) ?hr ?hcall ?htyp (looks_findIn X' ?hi) (fun self => bind_fn X' self ?hb) ?_
  case hC => k_is
  case hcB => decide +kernel
  case hcA => decide +kernel
  case hcN => decide +kernel
  case hr => (show (2 : Nat) ≤ sizeLine; rw [sizeLine_eq]; decide)
  case hcall => exact looks_specialIn X' (by k_is)
  case htyp => exact looks_instIn X' (by k_is)
  case hi => k_is
  case hb => k_is
  have F1 := (F.push (tupObj [.str what tw, .int i ti])).push (excObj 71 hh.objs.size)
  have N1 := (N.push F (tupObj [.str what tw, .int i ti])).push (F.push _) (excObj 71 hh.objs.size)
  rw [Heap.size_push] at N1
  generalize ((hh.push (tupObj [.str what tw, .int i ti])).push (excObj 71 hh.objs.size)) = h1 at F1 N1 ⊢
  have hnl : ∀ p ∈ news, p.1 ≠ hh.objs.size + 1 := fun p hp => by have := Heap.lt_size (N p hp).1; exact Nat.ne_of_lt (Nat.lt_succ_of_lt this)
  generalize hh.objs.size + 1 = e1 at N1 hnl ⊢
  generalize hh.objs.size = t1 at N1 ⊢
  have N2 : News h₀ L h1 ((e1, excObj 71 t1) :: news) := fun p hp => N1 p (by rcases List.mem_cons.mp hp with rfl | hp; exact .head _; exact .tail _ (.tail _ hp))
  clear F N X' N1
  k_dflt (refine' code_def ?k1 ?k2 ?k3 ?k4 ?k5 ?kA ?kF ?kK ?k6 ?k7 ?k8 ?k9 ?kB ?_ ?c2 ?c3 ?c4 ?c5; (case kA => exact rfl); (case kF => exact rfl); (case kK => assumption); (case k1 => k_asm); (case k2 => k_asm); (case k3 => k_asm); (case k4 => k_asm); (case k5 => k_asm); (case k6 => k_is); (case k7 => k_is); (case k8 => ktr_room); (case k9 => exact binds_K (by k_in) rfl (by k_is) rfl rfl rfl); (case c5 => decide); (case kB => exact locs rfl); (case c2 => exact rfl); (case c3 => exact rfl); (case c4 => exact rfl); k_whole; intro g' L' h' FG' F' N' B' X' T'; (try dsimp only); (try k_lift B'); (try k_fold))
  k_with "getMethod type:Exception" => (k_here; refine' method_type ?F ?X ?m (by decide +kernel) ?e ?h ?_; (case F => k_asm); (case X => k_asm); (case m => exact meta_Exc); (case e => k_dflt k_is); (case h => k_handed))
  k_with "call builtin:Exception.__init__" => (k_here; k_dflt (refine' xinit (s := ⟨_, _, _, _, _⟩) PySem.F.excBase_Exception ?hcB (Frag.In.keeps (by k_asm) (Fr.keep (by k_asm)) 71 _ (by k_is)) (by show (1 : Nat) ≤ sizeLine; rw [sizeLine_eq]; decide) (by k_asm) (by k_asm) hnl ?_; (case hcB => decide +kernel); (intro h9 t9 F9 N9); (try dsimp only); (try k_fold)))
  k_with "setAttr ref" => (k_here; k_dflt (first
    | (refine' xset_first (by k_asm) (by k_asm) (by k_asm) hnl (by k_is) (by k_is) rfl (refuse_wf _) (by k_is) (by k_is) ?_; (intro dx9 h9 tk9 es9 n9 hz9 hk9 F9 N9 hd9 hr9); (try dsimp only); (try k_fold))
    | (refine' xset_next (by k_asm) (by k_asm) (by k_asm) hr9 hd9 hk9 (by omega) (by k_is) (by k_is) rfl (refuse_wf _) (by k_is) (by k_is) ?_; (intro h9 tk9 es9 n9 F9 N9); (try dsimp only); (try k_fold))))
  k_steps
  rename News _ _ _ _ => kN9
  exact hret _ _ _ _ ⟨_, _, _, rfl, rfl⟩ (by k_asm) (fun p hp => kN9 p (.tail _ hp))
end Mine
end
section
open PySem PySem.W PyProof.Rows PySem.Calls
namespace Mine

def RaisedOwn (K : Frag) (C : Addr) (E : Value → Shared → Prop) (v : Value) (s₁ : Shared) : Prop :=
  ∃ a ob vs, v = .ref a ∧ K.In s₁.heap ∧ s₁.heap.get? a = some ob ∧ ob.cls = .ref C ∧ ob.data = .fields vs ∧ vs[1]? = some .none ∧ E (.ref a) s₁

theorem Raise_own {M : Model} {A : Around} {E : Value → Shared → Prop} {s : Shared} {env : Env} {K : Frag} {C : Addr} {e : Expr} {pos : Pos} {Q : Flow → Shared → Prop} (hh : A.handled = none)
    (hb : mroIn K C (.type "BaseException") = some true) (ht : typeIn K (.ref C) = some (.type "type"))
    (h : wpAny M A (eval e env) (RaisedOwn K C E) E s) : wpAny M A (exec (.Raise (some e) none pos) env) Q E s := by
  show wpAny M A (do standAt pos; raiseStmt env (some (do let v ← eval e env; standAt pos; pure v)) none) Q E s
  refine wpAny_bind (wpAny_standAt ?_)
  unfold raiseStmt
  dsimp only
  refine wpAny_bind (wpAny_bind (wpAny_mono h (fun v s₁ h₁ => wpAny_bind (wpAny_standAt (wpAny_pure ?_))) fun _ _ x => x))
  obtain ⟨a, ob, vs, rfl, X, ha, hcls, hd, h1, hE⟩ := h₁
  have notCl : ∀ {Q' : Bool → Shared → Prop}, Q' false s₁ → wpAny M A (isType (.ref a)) Q' E s₁ := by
    intro Q' hq
    simp only [isType, loadHead]
    refine wpAny_bind (wpAny_loadPart ha ?_)
    rw [hd]; exact wpAny_pure hq
  have tp : Looks M s₁.heap (typeOf (.ref a)) (.ref C) := by
    refine (Looks.ld ha).andThen ?_
    rw [hcls]; exact .now
  have isB : Looks M s₁.heap (isInstance (.ref a) (.type "BaseException")) true := tp.andThen (looks_mroIn X hb)
  refine wpAny_bind (wpAny_pure ?_)
  dsimp only
  refine wpAny_bind (wpAny_holding ?_)
  unfold excFromValue isExcClass
  refine wpAny_bind (wpAny_bind (notCl ?_))
  simp only [Bool.false_eq_true, if_false]
  refine wpAny_pure ?_
  simp only [Bool.false_eq_true, if_false]
  refine wpAny_bind (isB.here ?_)
  simp only [if_true]
  refine wpAny_pure ?_
  refine wpAny_bind (notCl ?_)
  simp only [Bool.false_eq_true, if_false]
  unfold raisedInstance
  refine wpAny_bind (wpAny_bind (tp.here (wpAny_bind ((looks_typeIn X ht).here ?_))))
  rw [if_pos (by decide)]
  refine wpAny_pure ?_
  unfold setFlight raiseNew
  refine wpAny_bind (wpAny_bind (wpAny_field ha hd h1 ?_))
  rw [if_neg (by decide)]
  refine wpAny_pure (wpAny_bind (wpAny_handled ?_))
  rw [hh]
  first
    | exact wpAny_throw hE
    | exact wpAny_bind (wpAny_pure (wpAny_throw hE))

section
variable {M : Model} {A : Around} {E : Value → Shared → Prop} {s : Shared} {base g : Heap} {outer : List Env} {L a e : Addr} {m : Str → Option Value} {name : Str} {scope : Scope} {cd cls a0 : Value} {Q : Unit → Shared → Prop}
theorem none_of_stays {base g : Heap} (k : base.StaysIn g) {b : Addr} (e : g.get? b = none) : base.get? b = none := by
  cases q : base.get? b with
  | none => rfl
  | some o => have := k b o q; rw [e] at this; cases this
theorem flt_leaves {ob : Obj} {vs : Array Value} (B : Below A base outer g) (F : Fr g L s.heap m) (he : s.heap.get? e = some ob) (hen : g.get? e = none) (hcls : ob.cls = cls) (hd : ob.data = .fields vs) (h1 : vs[1]? = some .none) (h0 : vs[0]? = some a0)
    (hQ : ∀ h', Heap.FlyingW base outer e cls a0 h' → g.UpToSlots h' → Q () { s with heap := h' }) (hk : scope.kind = .function := by rfl) :
    wpAny M (A.deeper (envOf name scope L a cd)) (leaving (envOf name scope L a cd) (.ref e)) Q E s := by
  have B' := B.push (name := name) (a := a) (cd := cd) F hk
  subst hcls
  refine wpAny_leaving_firstW B'.stack B'.frames rfl he B'.stays (none_of_stays B.stays hen) hd h1 h0 fun h' hL => ?_
  obtain ⟨k1, ⟨_, _, k2⟩, k3, k4⟩ := hL
  exact hQ h' ⟨k1, none_of_stays B.stays hen, k2, k3⟩ ((Heap.UpToSlots.of_keeps F.keep).trans k4)
/-- a fault flies on through a frame that does not catch it -/
theorem flt_passes (B : Below A base outer g) (hfl : Heap.FlyingW base (envOf name scope L a cd :: outer) e cls a0 s.heap) (hu : g.UpToSlots s.heap)
    (hQ : ∀ h', Heap.FlyingW base outer e cls a0 h' → g.UpToSlots h' → Q () { s with heap := h' }) :
    wpAny M (A.deeper (envOf name scope L a cd)) (leaving (envOf name scope L a cd) (.ref e)) Q E s :=
  wpAny_leaves_onW (Around.frames_deeper B.stack) rfl hfl fun h' x1 x2 => hQ h' x1 (hu.trans x2)
end
end Mine
end
section
open PySem PySem.W PyProof.Rows PySem.Calls
namespace Mine
local macro_rules | `(tactic| k_room) => `(tactic| ktr_room)
local macro_rules | `(tactic| k_units) => `(tactic| ktr_units)
local macro_rules | `(tactic| k_all) => `(tactic| assumption)

theorem tw_len (ks : List Int) (i : Int) : ((ks.drop i.toNat).takeWhile fig).length ≤ ks.length := by
  have h1 := (List.takeWhile_sublist (l := ks.drop i.toNat) fig).length_le
  rw [List.length_drop] at h1
  omega
/-- what figures are worth -/
def worth (l : List Int) : Int := l.foldl (fun n c => n * 10 + c - 48) 0
set_option maxHeartbeats 8000000 in
theorem number_con (w : World) (mean : ExcName → Option Value) (mg mb : Str → Option Value) (x d : Addr) (rest : List (Addr × Obj)) (b : Array UInt8) (t k1 k2 k3 : Tok) (ks : List Int) (i : Int)
    (hks : KBw.bInts b = ks) (hsz : ks.length ≤ 16777216) (hxd : x ≠ d) (hrest : ∀ p ∈ rest, p.1 ≠ d) (hi0 : 0 ≤ i) (hi1 : i ≤ ks.length) :
  Con w mean mg mb 4 283 [.ref x] ((x, instObj 355 d) :: (d, wd w.params b t k1 k2 i k3) :: rest)
   (fun r n => ∃ t' k4, r = .int (worth ((ks.drop i.toNat).takeWhile fig)) t' ∧ 1 ≤ ((ks.drop i.toNat).takeWhile fig).length ∧ ((ks.drop i.toNat).takeWhile fig).length ≤ 19 ∧
      n = ((x, instObj 355 d) :: (d, wd w.params b t k1 k2 (i + ((ks.drop i.toNat).takeWhile fig).length) k4) :: rest))
   (¬ (1 ≤ ((ks.drop i.toNat).takeWhile fig).length ∧ ((ks.drop i.toNat).takeWhile fig).length ≤ 19)) := by
  k_with_none
  w_top off
  unfold Con
  k_fill
  intro dp un gd cn cs a ccd cl outer A₀ base h₀ L m s Q E B F X N T hk hd hu hret herr
  have hD9 := tw_len ks i
  k_dflt cell_enter
  k_with "call ref" => (k_here; k_dflt (first
    | (refine' Con.use (run_con w mean mg mb _ _ _ _ _ _ _ _ _ _ hks hsz hxd hrest hi0 hi1) (by k_asm) (by k_asm) (by k_asm) (by k_asm) (fun _ h => h) (by k_asm) (by first | exact rfl | assumption) (by ktr_room) (by ktr_units) ?_ (fun _ _ _ _ h => h.elim); (rintro _ _ h9 tk9 ⟨b9, t9, k9, rfl, hb9, rfl⟩ F9 N9); (try dsimp only); (try k_fold))
    | (refine' Con.use (nof_con w mean mg mb _ _ _) (by k_asm) (by k_asm) (by k_asm) (by k_asm) (fun _ h => h) (by k_asm) (by first | exact rfl | assumption) (by ktr_room) (by ktr_units) ?_ (fun _ _ _ _ h => h.elim); (rintro _ _ h9 tk9 ⟨t9, rfl, rfl⟩ F9 N9); (try dsimp only); (try k_fold))
    | (refine' Con.use (wf_con w mean mg mb _ _ _ _ _) (by k_asm) (by k_asm) (by k_asm) (by k_asm) (fun _ h => h) (by k_asm) (by first | exact rfl | assumption) (by ktr_room) (by ktr_units) ?_ (fun _ _ _ _ h => h.elim); (rintro _ _ h9 tk9 ⟨e9, t9, dx9, rfl, rfl⟩ F9 N9); (try dsimp only); (try k_fold))))
  k_with "exec Raise some none" => (k_here; refine Raise_own (K := Mine.hd.heap_39 w.params) (C := 71) rfl (by k_is) (by k_is) ?_; (try k_fold))
  k_steps
  iterate 2
    · refine ⟨e9, _, _, rfl, Frag.In.keeps (by k_asm) (Fr.keep F9), (N9 _ (.head _)).1, rfl, rfl, rfl, ?_⟩
      k_unfold
      refine flt_leaves (by k_asm) F9 (N9 _ (.head _)).1 (N9 _ (.head _)).2.2 rfl rfl rfl rfl fun h' hf hu => ?_
      exact herr _ _ _ _ (by omega) hf ((Heap.UpToSlots.of_keeps (Fr.keep (by k_asm))).trans hu) (hu.ns (Fr.ns (by k_asm)))
  · have hw : (b9.toList.map fun c => (c.toNat : Int)).foldl (fun n c => n * 10 + c - 48) 0 = worth ((ks.drop i.toNat).takeWhile fig) := by rw [← hb9]; rfl
    exact hret _ _ _ _ ⟨_, _, by rw [hw], by omega, by omega, rfl⟩ (by k_asm) (by k_asm)
end Mine
end
section
open PySem PySem.W PyProof.Rows PySem.Calls
namespace Mine
local macro_rules | `(tactic| k_room) => `(tactic| ktr_room)
local macro_rules | `(tactic| k_units) => `(tactic| ktr_units)
local macro_rules | `(tactic| k_all) => `(tactic| assumption)

set_option maxHeartbeats 8000000 in
theorem need_con (w : World) (mean : ExcName → Option Value) (mg mb : Str → Option Value) (x d : Addr) (rest : List (Addr × Obj)) (b : Array UInt8) (t k1 k2 k3 to tw : Tok) (what : Str) (ks : List Int) (c : UInt8) (i : Int)
    (hks : KBw.bInts b = ks) (hsz : ks.length ≤ 16777216) (hxd : x ≠ d) (hrest : ∀ p ∈ rest, p.1 ≠ d) (hi0 : 0 ≤ i) (hi1 : i ≤ ks.length) :
  Con w mean mg mb 5 213 [.ref x, .bytes #[c] to, .str what tw] ((x, instObj 355 d) :: (d, wd w.params b t k1 k2 i k3) :: rest)
   (fun r n => r = .none ∧ ks[i.toNat]? = some (c.toNat : Int) ∧ ∃ k4, n = ((x, instObj 355 d) :: (d, wd w.params b t k1 k2 (i + 1) k4) :: rest))
   (ks[i.toNat]? ≠ some (c.toNat : Int)) := by
  k_with_none
  w_top off
  unfold Con
  k_fill
  intro dp un gd cn cs a ccd cl outer A₀ base h₀ L m s Q E B F X N T hk hd hu hret herr
  k_dflt cell_enter
  k_with "call ref" => (k_here; k_dflt (first
    | (refine' Con.use (skip_con w mean mg mb _ _ _ _ _ _ _ _ _ _ _ _ hks hsz hxd hrest hi0 hi1) (by k_asm) (by k_asm) (by k_asm) (by k_asm) (fun _ h => h) (by k_asm) (by first | exact rfl | assumption) (by ktr_room) (by ktr_units) ?_ (fun _ _ _ _ h => h.elim); (rintro _ _ h9 tk9 (⟨rfl, hc9, k9, rfl⟩ | ⟨rfl, hc9, rfl⟩) F9 N9) <;> (try dsimp only) <;> (try k_fold))
    | (refine' Con.use (wf_con w mean mg mb _ _ _ _ _) (by k_asm) (by k_asm) (by k_asm) (by k_asm) (fun _ h => h) (by k_asm) (by first | exact rfl | assumption) (by ktr_room) (by ktr_units) ?_ (fun _ _ _ _ h => h.elim); (rintro _ _ h9 tk9 ⟨e9, t9, dx9, rfl, rfl⟩ F9 N9); (try dsimp only); (try k_fold))))
  k_with "exec Raise some none" => (k_here; refine Raise_own (K := Mine.hd.heap_39 w.params) (C := 71) rfl (by k_is) (by k_is) ?_; (try k_fold))
  k_steps
  · exact hret _ _ _ _ ⟨rfl, hc9, _, rfl⟩ (by k_asm) (by k_asm)
  · show RaisedOwn (Mine.hd.heap_39 w.params) 71 _ _ _
    rename Fr _ _ _ _ => kF9
    rename News _ _ _ _ => kN9
    refine ⟨e9, _, _, rfl, Frag.In.keeps (by k_asm) (Fr.keep kF9), (kN9 _ (.head _)).1, rfl, rfl, rfl, ?_⟩
    k_unfold
    refine flt_leaves (by k_asm) kF9 (kN9 _ (.head _)).1 (kN9 _ (.head _)).2.2 rfl rfl rfl rfl fun h' hf hu => ?_
    exact herr _ _ _ _ hc9 hf ((Heap.UpToSlots.of_keeps (Fr.keep (by k_asm))).trans hu) (hu.ns (Fr.ns (by k_asm)))

set_option maxHeartbeats 8000000 in
theorem space_con (w : World) (mean : ExcName → Option Value) (mg mb : Str → Option Value) (x d : Addr) (rest : List (Addr × Obj)) (b : Array UInt8) (t k1 k2 k3 : Tok) (ks : List Int) (i : Int)
    (hks : KBw.bInts b = ks) (hsz : ks.length ≤ 16777216) (hxd : x ≠ d) (hrest : ∀ p ∈ rest, p.1 ≠ d) (hi0 : 0 ≤ i) (hi1 : i ≤ ks.length) :
  Con w mean mg mb 6 220 [.ref x] ((x, instObj 355 d) :: (d, wd w.params b t k1 k2 i k3) :: rest)
   (fun r n => r = .none ∧ ks[i.toNat]? = some 32 ∧ ∃ k4, n = ((x, instObj 355 d) :: (d, wd w.params b t k1 k2 (i + 1) k4) :: rest))
   (ks[i.toNat]? ≠ some 32) := by
  k_with_none
  w_top off
  unfold Con
  k_fill
  intro dp un gd cn cs a ccd cl outer A₀ base h₀ L m s Q E B F X N T hk hd hu hret herr
  k_dflt cell_enter
  k_with "call ref" => (k_here; k_dflt (
    refine' Con.use (need_con w mean mg mb _ _ _ _ _ _ _ _ _ _ _ _ 32 _ hks hsz hxd hrest hi0 hi1) (by k_asm) (by k_asm) (by k_asm) (by k_asm) (fun _ h => h) (by k_asm) (by first | exact rfl | assumption) (by ktr_room) (by ktr_units) ?ret ?err
    case' err => (intro e9 a9 h9 tk9 hc9 hf9 hu9 _; (try dsimp only))
    case' ret => ((rintro _ _ h9 tk9 ⟨rfl, hc9, k9, rfl⟩ F9 N9); (try dsimp only); (try k_fold))))
  k_steps
  · exact hret _ _ _ _ ⟨rfl, hc9, _, rfl⟩ (by k_asm) (by k_asm)
  · refine flt_passes (by k_asm) hf9 hu9 fun h' hf hu => ?_
    exact herr _ _ _ _ hc9 hf ((Heap.UpToSlots.of_keeps (Fr.keep (by k_asm))).trans hu) (hu.ns (Fr.ns (by k_asm)))
end Mine
end
section
open PySem PySem.W PyProof.Rows PySem.Calls
namespace Mine
local macro_rules | `(tactic| k_room) => `(tactic| ktr_room)
local macro_rules | `(tactic| k_units) => `(tactic| ktr_units)
local macro_rules | `(tactic| k_all) => `(tactic| assumption)
local macro_rules | `(tactic| walk_at "newList") => `(tactic| k_extra "newList")
local macro_rules | `(tactic| walk_at "call ref") => `(tactic| k_extra "call ref")
local macro_rules | `(tactic| walk_at "exec While UnaryOp cons nil") => `(tactic| k_extra "exec While UnaryOp cons nil")
theorem ints_snoc {v : Int} {t : Tok} : ∀ {vs : List Value} {ns : List Int}, IntsAre vs ns → IntsAre (vs ++ [.int v t]) (ns ++ [v])
  | _, _, .nil => .cons _ _ .nil
  | _, _, .cons _ _ r => .cons _ _ (ints_snoc r)
theorem news_swap {h₀ h : Heap} {L : Addr} {a b c : Addr × Obj} {r : List (Addr × Obj)} (N : News h₀ L h (a :: b :: c :: r)) : News h₀ L h (b :: c :: a :: r) := fun p hp => N p (by
  simp only [List.mem_cons] at hp ⊢
  rcases hp with h | h | h | h
  · exact .inr (.inl h)
  · exact .inr (.inr (.inl h))
  · exact .inl h
  · exact .inr (.inr (.inr h)))

/-- the figures that stand at a place -/
abbrev dgl (ks : List Int) (i : Int) : List Int := (ks.drop i.toNat).takeWhile fig
theorem dgl_len (ks : List Int) {i : Int} (h0 : 0 ≤ i) (h : i ≤ ks.length) : i + (dgl ks i).length ≤ ks.length := by
  have h1 := (List.takeWhile_sublist (l := ks.drop i.toNat) fig).length_le
  rw [List.length_drop] at h1
  show i + ((ks.drop i.toNat).takeWhile fig).length ≤ ks.length
  omega
theorem at_lt {ks : List Int} {i : Int} {c : Int} (h0 : 0 ≤ i) (h : ks[i.toNat]? = some c) : i + 1 ≤ ks.length := by
  have := (List.getElem?_eq_some_iff.mp h).1
  omega
/-- what the list's reader has found when it stands at a place -/
inductive Got (ks : List Int) : Int → List Int → Prop
  | one : ks[0]? = some 40 → ks[1]? ≠ some 41 → 1 ≤ (dgl ks 1).length → (dgl ks 1).length ≤ 19 → Got ks (1 + (dgl ks 1).length) [worth (dgl ks 1)]
  | more {i : Int} {ns : List Int} : Got ks i ns → ks[i.toNat]? ≠ some 41 → ks[i.toNat]? = some 32 → 1 ≤ (dgl ks (i + 1)).length → (dgl ks (i + 1)).length ≤ 19 →
      Got ks (i + 1 + (dgl ks (i + 1)).length) (ns ++ [worth (dgl ks (i + 1))])
theorem Got.place {ks : List Int} {i : Int} {ns : List Int} (h : Got ks i ns) : 0 ≤ i ∧ i ≤ ks.length ∧ (ns.length : Int) ≤ i := by
  induction h with
  | one h0 _ h1 _ =>
    have := at_lt (i := 0) (by omega) h0
    have := dgl_len ks (i := 1) (by omega) (by omega)
    refine ⟨by omega, by omega, ?_⟩
    simp only [List.length_cons, List.length_nil]
    omega
  | more _ _ h2 h3 _ ih =>
    have := at_lt ih.1 h2
    have := dgl_len ks (i := _ + 1) (by omega) this
    refine ⟨by omega, by omega, ?_⟩
    simp only [List.length_append, List.length_cons, List.length_nil]
    omega

set_option maxHeartbeats 8000000 in
theorem list_con (w : World) (mean : ExcName → Option Value) (mg mb : Str → Option Value) (x d q : Addr) (rest : List (Addr × Obj)) (b : Array UInt8) (t k1 k2 k3 : Tok) (ks : List Int)
    (hks : KBw.bInts b = ks) (hsz : ks.length ≤ 1000000) (hxd : x ≠ d) (hqd : q ≠ d) (hrest : ∀ p ∈ rest, p.1 ≠ d) :
  Con w mean mg mb 9 339 [.ref x, .ref q] ((x, instObj 355 d) :: (d, wd w.params b t k1 k2 0 k3) :: (q, methodObj (.ref 283) (.ref x)) :: rest)
   (fun r n => ∃ l vs ns k i k4, r = .ref l ∧ IntsAre vs ns ∧
      n = ((x, instObj 355 d) :: (d, wd w.params b t k1 k2 i k4) :: (l, listOf vs.toArray k) :: (q, methodObj (.ref 283) (.ref x)) :: rest) ∧
      ((ks[0]? = some 40 ∧ ks[1]? = some 41 ∧ ns = [] ∧ i = 2) ∨ ∃ j, Got ks j ns ∧ ks[j.toNat]? = some 41 ∧ i = j + 1))
   (ks[0]? ≠ some 40 ∨ (ks[0]? = some 40 ∧ ks[1]? ≠ some 41 ∧ ¬ (1 ≤ (dgl ks 1).length ∧ (dgl ks 1).length ≤ 19)) ∨
     ∃ j ns, Got ks j ns ∧ ks[j.toNat]? ≠ some 41 ∧ (ks[j.toNat]? ≠ some 32 ∨ ¬ (1 ≤ (dgl ks (j + 1)).length ∧ (dgl ks (j + 1)).length ≤ 19))) := by
  k_with_none
  w_top off
  have hs2 : ks.length ≤ 16777216 := by omega
  unfold Con
  k_fill
  intro dp un gd cn cs a ccd cl outer A₀ base h₀ L m s Q E B F X N T hk hd hu hret herr
  have hr1 : ∀ p ∈ (q, methodObj (.ref 283) (.ref x)) :: rest, p.1 ≠ d := fun p hp => by
    rcases List.mem_cons.mp hp with rfl | hp
    · exact hqd
    · exact hrest p hp
  k_dflt cell_enter
  k_with "newList" => (
    k_here
    k_dflt (refine' newList_K (by k_asm) (by k_asm) ?_)
    intro l9 h9 F9 N9 hl9
    have N9' := news_swap N9
    clear N9
    have hxl : x ≠ l9 := by have hz := hl9 _ (List.Mem.head _); exact Nat.ne_of_lt hz
    have hdl : d ≠ l9 := by have hz := hl9 _ (List.Mem.tail _ (List.Mem.head _)); exact Nat.ne_of_lt hz
    have hql : ∀ p ∈ (q, methodObj (.ref 283) (.ref x)) :: rest, p.1 ≠ l9 := by
      intro p hp
      have hz := hl9 _ (List.Mem.tail _ (List.Mem.tail _ hp))
      exact Nat.ne_of_lt hz
    have hr2 : ∀ vs n, ∀ p ∈ (l9, listOf vs n) :: (q, methodObj (.ref 283) (.ref x)) :: rest, p.1 ≠ d := by
      intro vs n p hp
      rcases List.mem_cons.mp hp with rfl | hp
      · exact Ne.symm hdl
      · exact hr1 p hp
    clear hl9)
  k_with "call ref" => (k_here; k_dflt (first
    | (
      refine' Con.use (need_con w mean mg mb _ _ _ _ _ _ _ _ _ _ _ _ 40 0 hks hs2 hxd hr1 (by omega) (by omega)) (by k_asm) (by k_asm) (by k_asm) (by k_asm) (fun _ h => h) (by k_asm) (by first | exact rfl | assumption) (by ktr_room) (by ktr_units) ?_ ?_
      all_goals (first
        | ((rintro _ _ h9 tk9 ⟨rfl, hc9, k9, rfl⟩ F9 N9); (have hp9 := at_lt (i := 0) (by omega) hc9); (try dsimp only); (try k_fold))
        | (intro e9 a9 h9 tk9 hc9 hf9 hu9 _; (try dsimp only))))
    | (
      refine' Con.use (skip_con w mean mg mb _ _ _ _ _ _ _ _ _ _ 41 _ hks hs2 hxd (hr2 _ _) ?_ ?_) (by k_asm) (by k_asm) (by k_asm) (by k_asm) (fun _ h => h) (by k_asm) (by first | exact rfl | assumption) (by ktr_room) (by ktr_units) ?_ (fun _ _ _ _ h => h.elim)
      · omega
      · omega
      (rintro _ _ h9 tk9 (⟨rfl, hd9, k9, rfl⟩ | ⟨rfl, hd9, rfl⟩) F9 N9) <;> (try dsimp only) <;> (try k_fold))
    | (
      refine' Con.use (space_con w mean mg mb _ _ _ _ _ _ _ _ _ _ hks hs2 hxd (hr2 _ _) ?_ ?_) (by k_asm) (by k_asm) (by k_asm) (by k_asm) (fun _ h => h) (by k_asm) (by first | exact rfl | assumption) (by ktr_room) (by ktr_units) ?_ ?_
      · omega
      · omega
      all_goals (first
        | ((rintro _ _ h9 tk9 ⟨rfl, hb9, k9, rfl⟩ F9 N9); (have hp8 := at_lt (by assumption) hb9); (try dsimp only); (try k_fold))
        | (intro e9 a9 h9 tk9 hs9 hf9 hw9 _; (try dsimp only))))
    | (
      refine' Con.useM (number_con w mean mg mb _ _ _ _ _ _ _ _ _ _ hks hs2 hxd (hr2 _ _) ?_ ?_) (by k_asm) (by k_asm) (by k_asm) (by k_asm) (by k_mem) (fun _ h => h) (by k_asm) (by first | exact rfl | assumption) (by ktr_room) (by ktr_units) ?_ ?_
      · omega
      · omega
      all_goals (first
        | ((rintro _ _ h9 tk9 ⟨t9, k9, rfl, hn9, hm9, rfl⟩ F9 N9); (try dsimp only); (try k_fold))
        | (intro e9 a9 h9 tk9 hn9 hf9 hu9 _; (try dsimp only))))))
  k_with "exec While UnaryOp cons nil" => (
    k_here
    rename Fr _ _ _ _ => lF'
    rename News _ _ _ _ => lN'
    with_unfolding_all refine' ksw_while (σ := Int × Tok × List Value × Nat × List Int) (fun c => (x, instObj 355 d) :: (d, wd w.params b t k1 k2 c.1 c.2.1) :: (l9, listOf c.2.2.1.toArray c.2.2.2.1) :: (q, methodObj (.ref 283) (.ref x)) :: rest) (fun _ => []) (fun c => IntsAre c.2.2.1 c.2.2.2.2) [] (fun c => Got ks c.1 c.2.2.2.2) (fun c => ks.length - c.1.toNat) (1 + (dgl ks 1).length, k9, [.int (worth (dgl ks 1)) t9], 1, [worth (dgl ks 1)]) lF' lN' (IntsAre.cons _ _ IntsAre.nil) (fun _ h => nomatch h) (Got.one hc9 hd9 hn9 hm9) ?_
    clear lF' lN'
    rintro ⟨i9, k9, vs9, n9, ns9⟩ u9 h9 tk9 hI9 hG9 F9 N9
    (try dsimp only at hI9 hG9 F9 N9)
    have hP9 := Got.place hG9
    obtain ⟨hp9, hu9, hv9⟩ := hP9
    have hw9 : vs9.length = ns9.length := hI9.length
    (try k_fold))
  k_steps
  · exact hret _ _ _ _ ⟨l9, [], [], 0, 0 + 1 + 1, k9, rfl, .nil, rfl, .inl ⟨hc9, hd9, rfl, rfl⟩⟩ (by k_asm) (by k_asm)
  · exact hret _ _ _ _ ⟨l9, vs9, ns9, n9, i9 + 1, k9, rfl, hI9, rfl, .inr ⟨i9, hG9, hd9, rfl⟩⟩ (by k_asm) (by k_asm)
  · exact ksw_end (i9 + 1 + (dgl ks (i9 + 1)).length, _, (vs9.toArray.push (Value.int (worth (dgl ks (i9 + 1))) t9)).toList, n9 + 1, ns9 ++ [worth (dgl ks (i9 + 1))]) (by k_asm) (by k_asm) (fun p h => h)
      (by rw [Array.toList_push]; exact ints_snoc hI9) (fun _ h => nomatch h) (fun z _ _ => rfl) (Got.more hG9 hd9 hb9 hn9 hm9) (by dsimp only; omega)
  · refine flt_passes (by k_asm) hf9 hu9 fun h' hf hu => ?_
    exact herr _ _ _ _ (.inr (.inr ⟨i9, ns9, hG9, hd9, .inr hn9⟩)) hf ((Heap.UpToSlots.of_keeps (Fr.keep (by k_asm))).trans hu) (hu.ns (Fr.ns (by k_asm)))
  · refine flt_passes (by k_asm) hf9 hw9 fun h' hf hu => ?_
    exact herr _ _ _ _ (.inr (.inr ⟨i9, ns9, hG9, hd9, .inl hs9⟩)) hf ((Heap.UpToSlots.of_keeps (Fr.keep (by k_asm))).trans hu) (hu.ns (Fr.ns (by k_asm)))
  · refine flt_passes (by k_asm) hf9 hu9 fun h' hf hu => ?_
    exact herr _ _ _ _ (.inr (.inl ⟨hc9, hd9, hn9⟩)) hf ((Heap.UpToSlots.of_keeps (Fr.keep (by k_asm))).trans hu) (hu.ns (Fr.ns (by k_asm)))
  · refine flt_passes (by k_asm) hf9 hu9 fun h' hf hu => ?_
    exact herr _ _ _ _ (.inl hc9) hf ((Heap.UpToSlots.of_keeps (Fr.keep (by k_asm))).trans hu) (hu.ns (Fr.ns (by k_asm)))
end Mine
end
section
open PySem PySem.W PyProof.Rows PySem.Calls
namespace Mine
section
variable {prog : Program} {w : World} {A A₀ : Around} {E : Value → Shared → Prop} {s : Shared} {K : Frag} {L : Addr} {h₀ : Heap} {m mg mb : Str → Option Value} {news : List (Addr × Obj)} {p : Program} {loose : List Str} {mean : ExcName → Option Value}

/-- a def is entered from the law's own frame; the ground is the whole heap at the call; what stays below it is all but that frame -/
theorem code_defG {env : Env} {R : Result → Shared → Prop} {name qual : Str} {params : Arguments} {body : List Stmt} {scope : Scope} {dV kV doc pm cdv ct oc : Value} {an od : Option Addr} {osl : Array (Option Value)} {f : Addr} {args : Args} {binds : List (Str × Value)}
    (F : Fr h₀ L s.heap m) (X₀ : K.In h₀) (T : Top p loose mean mg mb h₀) (hA : A.frames = some [env]) (hf : env.frame = some L) (hke : env.scope.kind = .function)
    (ho : K.lookup f = some ⟨oc, od, .func (fnOf name qual params body scope dV kV doc pm an cdv ct), osl⟩) (hcd : codeIn K cdv qual = true) (hroom : A.depth < recursionLimit)
    (hbind : BindsTo s (fnOf name qual params body scope dV kV doc pm an cdv ct) args binds) (hloc : ∀ y ∈ binds, scope.names.lookup y.1 = some .local)
    (h : ∀ g L' h₁, g = s.heap → Fr g L' h₁ (fun y => binds.reverse.lookup y) → News g L' h₁ [] → Below A (g.hide L) [env] g → K.In g → Top p loose mean mg mb g →
      wpAny (model prog w) (A.deeper (envOf qual scope L' f cdv)) (execs body (envOf qual scope L' f cdv))
        (fun fl s' => R (.ok (.ret (match fl with | .ret v => v | _ => .none))) s')
        (fun e s' => wpAny (model prog w) (A.deeper (envOf qual scope L' f cdv)) (leaving (envOf qual scope L' f cdv) e) (fun _ s'' => R (.error e) s'') (fun e' s'' => R (.error e') s'') s')
        { s with heap := h₁, toks := s.toks + binds.length })
    (hco : scope.isCoroutine = false) (hgen : scope.isGenerator = false) (hk : scope.kind = .function)
    (hcell : ∀ x ∈ scope.names, x.2 ≠ .cell) : codeAny (model prog w) A (.call (.ref f) args) R s := by
  have X := X₀.keeps F.keep
  refine codeAny_call_def (fd := fnOf name qual params body scope dV kV doc pm an cdv ct) (body := body) (binds := binds) hroom (X _ _ ho) rfl (T.nolimit.keeps F.keep) (codeRec_of X hcd) rfl hbind hcell hloc (fun h₁ hns hk₁ => ?_) hco hgen hk
  refine h s.heap s.heap.objs.size h₁ rfl ⟨hns, hk₁, Nat.le_refl _⟩ (fun _ hp => nomatch hp) ⟨hA, fun b o e => Heap.of_hide e, ?_⟩ X (T.keeps F.keep)
  obtain ⟨oL, es, ep, hL, hLd, _⟩ := F.ns
  exact ⟨by rw [hke]; decide, ⟨L, oL, hf, Heap.hide_self _ _, hL, fun vs q => by rw [hLd] at q; cases q⟩, trivial⟩

/-- back in the law's frame, when the called def has come to its end by itself -/
theorem Fr.back {g h' : Heap} {L L' : Addr} {m' : Str → Option Value} (F : Fr h₀ L g m) (F' : Fr g L' h' m') : Fr h₀ L h' m := by
  obtain ⟨oL, es, ep, hL, r⟩ := F.ns
  exact ⟨⟨oL, es, ep, F'.keep _ _ hL, r⟩, fun b o e => F'.keep _ _ (F.keep b o e), F.above⟩
theorem News.back {g h' : Heap} {L L' : Addr} {m' : Str → Option Value} {more : List (Addr × Obj)} (F : Fr h₀ L g m) (F' : Fr g L' h' m') (N : News h₀ L g news) (N' : News g L' h' more) : News h₀ L h' (more ++ news) := by
  obtain ⟨oL, es, ep, hL, r⟩ := F.ns
  intro q hq
  rcases List.mem_append.mp hq with hq | hq
  · have z := N' q hq
    refine ⟨z.1, fun e => ?_, ?_⟩
    · have := z.2.2; rw [e, hL] at this; cases this
    · cases k : h₀.get? q.1 with
      | none => rfl
      | some o => have := F.keep _ _ k; rw [z.2.2] at this; cases this
  · exact ⟨F'.keep _ _ (N q hq).1, (N q hq).2⟩
/-- back in the law's frame, when a fault was caught on the way -/
theorem Fr.backW {g h' : Heap} {L : Addr} (F : Fr h₀ L g m) (k : (g.hide L).StaysIn h') (u : g.UpToSlots h') : Fr h₀ L h' m := by
  refine ⟨u.ns F.ns, fun b o e => k b o ?_, F.above⟩
  rw [Heap.hide_ne]
  · exact F.keep b o e
  · intro q
    subst q
    exact absurd (Heap.lt_size e) (Nat.not_lt.mpr F.above)
theorem News.backW {g h' : Heap} {L : Addr} (N : News h₀ L g news) (k : (g.hide L).StaysIn h') : News h₀ L h' news := fun q hq =>
  ⟨k _ _ ((Heap.hide_ne g (N q hq).2.1).trans (N q hq).1), (N q hq).2⟩

theorem stays_hide (F : Fr h₀ L s.heap m) : h₀.StaysIn (s.heap.hide L) := fun b o e => by
  rw [Heap.hide_ne]
  · exact F.keep b o e
  · intro q
    subst q
    exact absurd (Heap.lt_size e) (Nat.not_lt.mpr F.above)
theorem above_on {g h' : Heap} {L' : Addr} {m' : Str → Option Value} (F : Fr h₀ L g m) (F' : Fr g L' h' m') : h₀.objs.size ≤ L' := by
  obtain ⟨oL, es, ep, hL, r⟩ := F.ns
  exact Nat.le_trans F.above (Nat.le_trans (Nat.le_of_lt (Heap.lt_size hL)) F'.above)
/-- a fault in flight is caught by its own class's name -/
theorem caught_own {base g : Heap} {outer : List Env} {e a C L₁ : Addr} {m₁ : Str → Option Value} {name : Str} {scope : Scope} {cd a0 : Value} {b₀ : Stmt} {suite : List Stmt} {pos np : Pos} {rest : List ExceptHandler} {Q : Flow → Shared → Prop} {x : Str}
    {nm q : Str} {N : Addr} {bs bm : List Value} {hdct : Bool} {sn : List Str} {sub : List Value} {ab : Bool} {col : Option Bool} {dd : Option Addr} {k0 k1 k2 k3 k5 : Option Value} {newId : String}
    (B : Below A₀ base outer g) (hns : s.heap.Ns L₁ m₁) (hab : h₀.objs.size ≤ L₁) (hb : h₀.StaysIn base) (hfl : Heap.FlyingW base (envOf name scope L₁ a cd :: outer) e (.ref C) a0 s.heap)
    (X : K.In h₀) (T : TopRead p loose mg mb h₀) (ex : nsIn K mainGlobals x = some (some (.ref C))) (hC : h₀.get? C = some (excClassObj nm q C N bs bm hdct sn sub ab col dd k0 k1 k2 k3 k5 newId)) (hbase : bm.contains (.type "BaseException") = true)
    (k : ∀ h', base.StaysIn h' → s.heap.UpToSlots h' → Fr h₀ L₁ h' m₁ →
      wpAny (model prog w) ((A₀.deeper (envOf name scope L₁ a cd)).mark (some (.ref e))) (execs (b₀ :: suite) (envOf name scope L₁ a cd)) Q E { s with heap := h' })
    (hk : scope.kind = .function := by rfl) (hx : (envOf name scope L₁ a cd).kindOf x = some .globalImplicit := by rfl) (hd : (x == ("__debug__" : Str)) = false := by decide)
    (hE : PassesOwnAt (model prog w) ((A₀.deeper (envOf name scope L₁ a cd)).mark (some (.ref e))) (A₀.deeper (envOf name scope L₁ a cd)) (envOf name scope L₁ a cd) E := by passes_own) :
    wpAny (model prog w) (A₀.deeper (envOf name scope L₁ a cd)) (noteFrame (.ref e) (envOf name scope L₁ a cd))
      (fun _ s₂ => wpAny (model prog w) (A₀.deeper (envOf name scope L₁ a cd)) (setFlight (.ref e) none) (fun _ s₃ =>
        wpAny (model prog w) (A₀.deeper (envOf name scope L₁ a cd)) (handleBy (.ref e) (envOf name scope L₁ a cd) (.ExceptHandler (some (.Name x np)) none (b₀ :: suite) pos :: rest)) Q E s₃) E s₂) E s := by
  refine wpAny_looks_onW (Around.frames_deeper B.stack) rfl hfl fun h₄ held₄ u₄ => ?_
  refine wpAny_landsW held₄ fun h₅ held₅ u₅ => ?_
  have F₅ : Fr h₀ L₁ h₅ m₁ := ⟨(u₄.trans u₅).ns hns, fun b o e => held₅.1 _ _ (hb b o e), hab⟩
  obtain ⟨ob, hob, hobc⟩ := held₅.there
  refine wpAny_handleBy_cons (codeAny_handlers_test (name_K F₅ X T ex ?_ hk hx hd)) (by intro q; cases q)
  refine wpAny_excMatches_sub_self (F₅.keep _ _ hC) hob hobc hbase (codeAny_handlers_suite ?_)
  refine lands_againW held₅ fun h₆ fl₆ u₆ => ?_
  exact wpAny_passesOwnAt hE (k h₆ fl₆.1 (u₄.trans (u₅.trans u₆)) ⟨(u₄.trans (u₅.trans u₆)).ns hns, fun b o e => fl₆.1 _ _ (hb b o e), hab⟩)
end
end Mine
end
section
open PySem PySem.W PyProof.Rows PySem.Calls
namespace Mine
local macro_rules | `(tactic| k_room) => `(tactic| ktr_room)
local macro_rules | `(tactic| k_units) => `(tactic| ktr_units)
local macro_rules | `(tactic| k_all) => `(tactic| assumption)
local macro_rules | `(tactic| walk_at "call ref") => `(tactic| k_extra "call ref")

/-- the list's reader comes to its end -/
def Ends (ks ns : List Int) (i : Int) : Prop := (ks[0]? = some 40 ∧ ks[1]? = some 41 ∧ ns = [] ∧ i = 2) ∨ ∃ j, Got ks j ns ∧ ks[j.toNat]? = some 41 ∧ i = j + 1
/-- it raises -/
def Fails (ks : List Int) : Prop := ks[0]? ≠ some 40 ∨ (ks[0]? = some 40 ∧ ks[1]? ≠ some 41 ∧ ¬ (1 ≤ (dgl ks 1).length ∧ (dgl ks 1).length ≤ 19)) ∨
     ∃ j ns, Got ks j ns ∧ ks[j.toNat]? ≠ some 41 ∧ (ks[j.toNat]? ≠ some 32 ∨ ¬ (1 ≤ (dgl ks (j + 1)).length ∧ (dgl ks (j + 1)).length ≤ 19))

/-- a call of a def of the law's, from the law's own frame: what it makes stands ahead of the ledger -/
def ConL (w : World) (mean : ExcName → Option Value) (mg mb : Str → Option Value) (deep : Nat) (f : Addr) (vs : List Value) (Ok : Value → List (Addr × Obj) → Prop) : Prop :=
  ∀ (dp un : Nat) (gd : Option (List Code)) (cn : Str) (cs : Scope) (a : Addr) (ccd : Value) (cl : List (Str × Addr)) (h₀ : Heap) (L : Addr) (m : Str → Option Value) (s : Shared) (Q E : Value → Shared → Prop) (news : List (Addr × Obj)),
    Fr h₀ L s.heap m → (Mine.hd.heap_39 w.params).In h₀ → News h₀ L s.heap news → Top Mine.view (looseW Mine.view [Str.ofString "PostError"]) mean mg mb h₀ → cs.kind = .function →
    dp + deep < recursionLimit → un + 8 * deep < cLine →
    (∀ v more h' tk', Ok v more → Fr h₀ L h' m → News h₀ L h' (more ++ news) → Q v { s with heap := h', toks := tk' }) →
    codeAny (model PySem.Challenge.rw_or0053_01.row.prog w) (ktrTop dp un gd cn cs L a ccd cl []) (.call (.ref f) ⟨vs, []⟩) (fun r s' => match r with | .ok (.ret v) => Q v s' | .ok _ => False | .error e => E e s') s

set_option maxHeartbeats 8000000 in
theorem heard_con (w : World) (mean : ExcName → Option Value) (mg mb : Str → Option Value) (b : Array UInt8) (t : Tok) (ks : List Int) (hks : KBw.bInts b = ks) (hsz : ks.length ≤ 1000000) :
  ConL w mean mg mb 11 378 [.bytes b t]
   (fun r more => (∃ tp l vs ns k i ti, r = .ref tp ∧ IntsAre vs ns ∧ more = [(tp, tupObj [.ref l, .int i ti]), (l, listOf vs.toArray k)] ∧ Ends ks ns i) ∨ (r = .none ∧ more = [] ∧ Fails ks)) := by
  k_with_none
  w_top off
  unfold ConL
  k_fill
  intro dp un gd cn cs a ccd cl h₀ L m s Q E news F X N T hk hd hu hret
  k_dflt (refine' code_defG ?k2 ?k3 ?k5 ?kA ?kF ?kK ?k6 ?k7 ?k8 ?k9 ?kB ?_ ?c2 ?c3 ?c4 ?c5; (case kA => exact rfl); (case kF => exact rfl); (case kK => assumption); (case k2 => k_asm); (case k3 => k_asm); (case k5 => k_asm); (case k6 => k_is); (case k7 => k_is); (case k8 => ktr_room); (case k9 => exact BindsTo.of_eq rfl); (case c5 => decide); (case kB => exact locs rfl); (case c2 => exact rfl); (case c3 => exact rfl); (case c4 => exact rfl); k_whole; intro g L₁ h₁ hg F₁ N₁ B₁ X₁ T₁; (try dsimp only); (try k_lift B₁); (try k_fold))
  k_with "call ref" => (k_here; k_dflt (first
    | (
      refine' Con.use (list_con w mean mg mb _ _ _ [] _ _ _ _ _ ks hks hsz ?_ ?_ (fun _ h => nomatch h)) (by k_asm) (by k_asm) (by k_asm) (by k_asm) (by refine List.forall_mem_cons.mpr ⟨?_, List.forall_mem_cons.mpr ⟨?_, List.forall_mem_cons.mpr ⟨?_, List.forall_mem_nil _⟩⟩⟩ <;> k_mem) (by k_asm) (by first | exact rfl | assumption) (by ktr_room) (by ktr_units) ?_ ?_
      · k_ne
      · k_ne
      all_goals (first
        | ((rintro _ _ h9 tk9 ⟨l9, vs9, ns9, n9, i9, k9, rfl, hI9, rfl, hE9⟩ F9 N9); (try dsimp only); (try k_fold))
        | (intro e9 a9 h9 tk9 hb9 hf9 hu9 hm9; (try dsimp only))))))
  k_steps
  · rename Fr _ _ _ _ => F9
    rename News _ _ _ _ => N9
    subst hg
    refine hret _ _ _ _ (.inl ⟨_, l9, vs9, ns9, n9, i9, k9, rfl, hI9, rfl, hE9⟩) (Mine.Fr.back F F9) (Mine.News.back F F9 N fun p hp => N9 p ?_)
    simp only [List.mem_cons, List.not_mem_nil, or_false] at hp ⊢
    rcases hp with hp | hp
    · exact .inl hp
    · exact .inr (.inr (.inr (.inl hp)))
  · subst hg
    refine' caught_own (K := Mine.hd.heap_39 w.params) (C := 71) (h₀ := h₀) (by k_asm) hm9 (above_on F (by k_asm)) (stays_hide F) hf9 X (topRead_of T) ?ex (X 71 _ ?hC) ?hB ?_
    case hC => k_is
    case ex => k_is
    case hB => decide +kernel
    intro h' st u F9
    have N8 : News h₀ L₁ h' [] := fun _ hp => nomatch hp
    k_steps
    exact hret _ [] _ _ (.inr ⟨rfl, rfl, hb9⟩) (Mine.Fr.backW F st (hu9.trans u)) (Mine.News.backW N st)
end Mine
end
section
open PySem PySem.W PyProof.Rows PySem.Calls PyProof.V PySem.Spec
namespace Mine
open Builtin
theorem slot_find : Slot "bytes" "find" "bytes.find" :=
  .of (owner := "bytes") (n := "find") (by rw [typeLookup_type, builtinLookup_eq_fast]; kernel_rfl) (by decide +kernel) (by decide +kernel) (by decide +kernel)
    (by first | exact .inl (by decide +kernel) | exact .inr (by decide +kernel)) (by rw [isSubtype_type]; kernel_rfl)
theorem type_find : typeOf (.builtin "bytes.find") = pure (.type "method_descriptor") := by show builtinType _ = _; rw [builtinType_eq_fast]; kernel_rfl
theorem entry_find : entryFor table "bytes.find" = some Builtin.«bytes.find» := entryFor_of_tree (by kernel_rfl)
theorem args_find (a b : Value) : argsOk "bytes.find" ⟨[a, b], []⟩ := by
  unfold argsOk; rw [signature?_of (id := "bytes.find") (n := ['d', 'n', 'i', 'f']) (o := ['s', 'e', 't', 'y', 'b']) (by kernel_rfl) FB.owner_bytes]; kernel_rfl
theorem slot_split : Slot "bytes" "split" "bytes.split" :=
  .of (owner := "bytes") (n := "split") (by rw [typeLookup_type, builtinLookup_eq_fast]; kernel_rfl) (by decide +kernel) (by decide +kernel) (by decide +kernel)
    (by first | exact .inl (by decide +kernel) | exact .inr (by decide +kernel)) (by rw [isSubtype_type]; kernel_rfl)
theorem type_split : typeOf (.builtin "bytes.split") = pure (.type "method_descriptor") := by show builtinType _ = _; rw [builtinType_eq_fast]; kernel_rfl
theorem entry_split : entryFor table "bytes.split" = some Builtin.«bytes.split» := entryFor_of_tree (by kernel_rfl)
theorem args_split (a b : Value) : argsOk "bytes.split" ⟨[a, b], []⟩ := by
  unfold argsOk; rw [signature?_of (id := "bytes.split") (n := ['t', 'i', 'l', 'p', 's']) (o := ['s', 'e', 't', 'y', 'b']) (by kernel_rfl) FB.owner_bytes]; kernel_rfl
theorem slot_join : Slot "bytes" "join" "bytes.join" :=
  .of (owner := "bytes") (n := "join") (by rw [typeLookup_type, builtinLookup_eq_fast]; kernel_rfl) (by decide +kernel) (by decide +kernel) (by decide +kernel)
    (by first | exact .inl (by decide +kernel) | exact .inr (by decide +kernel)) (by rw [isSubtype_type]; kernel_rfl)
theorem type_join : typeOf (.builtin "bytes.join") = pure (.type "method_descriptor") := by show builtinType _ = _; rw [builtinType_eq_fast]; kernel_rfl
theorem entry_join : entryFor table "bytes.join" = some Builtin.«bytes.join» := entryFor_of_tree (by kernel_rfl)
theorem args_join (a b : Value) : argsOk "bytes.join" ⟨[a, b], []⟩ := by
  unfold argsOk; rw [signature?_of (id := "bytes.join") (n := ['n', 'i', 'o', 'j']) (o := ['s', 'e', 't', 'y', 'b']) (by kernel_rfl) FB.owner_bytes]; kernel_rfl

/-- where a byte stands first -/
def orNone : Option Nat → Int
  | some i => i
  | none => -1
def foundAt (b : Array UInt8) (c : UInt8) : Int := orNone (if (b.size : Int) < 1 then none else Bytes.find? b #[c] 0 b.size)
theorem meets_find (b : Array UInt8) (c : UInt8) (t u : Tok) :
    Meets («bytes.find» ⟨[.bytes b t, .bytes #[c] u], []⟩) (fun _ R s => ∀ t' k, R (.ok (.ret (.int (foundAt b c) t'))) { s with toks := k }) := by
  refine .of_wp fun prog w A R s h => ?_
  show wpAny _ _ (Bytes.searchM .bytes "find" false false ⟨[.bytes b t, .bytes #[c] u], []⟩) _ _ s
  unfold Bytes.searchM Bytes.searchArgs
  have hb : ∀ {id : String}, Looks (model prog w) s.heap (Bytes.buffer? id (.bytes #[c] u)) (some #[c]) := Looks.of_pure KBy.buffer_eq
  refine wpAny_bind (wpAny_bind (wpAny_of_eq (a := (.bytes b t, [.bytes #[c] u])) (by kernel_rfl) ?_))
  refine wpAny_bind (wpAny_of_eq (a := none) rfl (wpAny_bind (wpAny_of_eq (a := none) rfl ?_)))
  refine wpAny_bind (hb.here ?_)
  refine wpAny_bind (wpAny_pure (wpAny_bind (wpAny_of_eq (a := b) rfl ?_)))
  have hw : Bytes.window b.size none none = (0, (b.size : Int)) := by
    simp only [Bytes.window, Option.getD_none]
    congr 1
    rw [if_neg (by omega)]
    omega
  rw [hw]
  refine wpAny_pure ?_
  have e : ((if (b.size : Int) - 0 < ((#[c] : Array UInt8).size : Int) then none else some ((0 : Int).toNat, (b.size : Int).toNat)).bind fun x : Nat × Nat => if false = true then Bytes.rfind? b #[c] x.1 x.2 else Bytes.find? b #[c] x.1 x.2) =
      (if (b.size : Int) < 1 then none else Bytes.find? b #[c] 0 b.size) := by
    by_cases h1 : (b.size : Int) < 1
    · rw [if_pos h1, if_pos (by simpa using h1)]; rfl
    · rw [if_neg h1, if_neg (by simpa using h1)]; rfl
  have fin : ∀ {r : Option Nat}, (if (b.size : Int) < 1 then none else Bytes.find? b #[c] 0 b.size) = r → wpAny (model prog w) A.in1 (match r with
      | some i => retInt i
      | none => rule s!"{Bytes.Kind.name .bytes}.{"find"}.not-found" >>= fun _ => if false = true then raiseError "ValueError" "subsection not found" else retInt (-1)) (fun fin s' => ∃ v, fin = .done (.ret v) ∧ R (.ok (.ret v)) s') (fun e s' => R (.error e) s') s := by
    intro r hr
    have hf : foundAt b c = orNone r := by unfold foundAt; rw [hr]
    cases r with
    | some i =>
      rw [hf] at h
      exact wpAny_bind (wpAny_mkInt (wpAny_pure ⟨_, rfl, h _ _⟩))
    | none =>
      rw [hf] at h
      exact wpAny_bind (wpAny_rule (wpAny_bind (wpAny_mkInt (wpAny_pure ⟨_, rfl, h _ _⟩))))
  exact fin e.symm
end Mine
end
section
open PySem PySem.W PyProof.Rows PySem.Calls PyProof.V PySem.Spec
namespace Mine
open Builtin

/-- the parts between the blanks -/
def splitL : List Int → List (List Int)
  | [] => [[]]
  | c :: r => if c = 32 then [] :: splitL r else match splitL r with
    | p :: ps => (c :: p) :: ps
    | [] => [[c]]
theorem splitL_ne : ∀ ks, splitL ks ≠ []
  | [] => by simp [splitL]
  | c :: r => by
    unfold splitL
    split
    · simp
    · split <;> simp
/-- the places of the blanks, counted from a -/
def posL : List Int → Nat → List Nat
  | [], _ => []
  | c :: r, a => if c = 32 then a :: posL r (a + 1) else posL r (a + 1)
/-- the parts between places -/
def cutB (b : Array UInt8) (last : Nat) : List Nat → List (Array UInt8)
  | [] => [b.extract last b.size]
  | p :: ps => b.extract last p :: cutB b (p + 1) ps

theorem between_eq (b : Array UInt8) (ps : List Nat) : Bytes.between b 1 ps = cutB b 0 ps := by
  have gen : ∀ (ps : List Nat) (acc : Array (Array UInt8)) (last : Nat),
      (let r := ps.foldl (fun (x : Array (Array UInt8) × Nat) p => (x.1.push (b.extract x.2 p), p + 1)) (acc, last); (r.1.push (b.extract r.2 b.size)).toList) = acc.toList ++ cutB b last ps := by
    intro ps
    induction ps with
    | nil => intro acc last; simp [cutB]
    | cons p ps ih => intro acc last; simp only [List.foldl_cons]; rw [ih]; simp [cutB]
  have := gen ps #[] 0
  simpa [Bytes.between] using this

theorem bInts_extract (b : Array UInt8) (i j : Nat) : KBw.bInts (b.extract i j) = ((KBw.bInts b).drop i).take (j - i) := by
  unfold KBw.bInts
  rw [← List.map_drop, ← List.map_take]
  congr 1
  rw [Array.toList_extract, List.extract_eq_take_drop]

theorem cut_split (b : Array UInt8) : ∀ (rest : List Int) (a last : Nat), (KBw.bInts b).drop a = rest → last ≤ a → a ≤ b.size →
    (cutB b last (posL rest a)).map KBw.bInts = match splitL rest with
      | p :: ps => ((((KBw.bInts b).drop last).take (a - last)) ++ p) :: ps
      | [] => []
  | [], a, last, h, hl, ha => by
    have hlen : (KBw.bInts b).length ≤ a := by simpa using h
    rw [KBw.ints_length] at hlen
    have ha' : a = b.size := by omega
    subst ha'
    simp [posL, cutB, splitL, bInts_extract]
  | c :: r, a, last, h, hl, ha => by
    have hlt : a < (KBw.bInts b).length := by
      rcases Nat.lt_or_ge a (KBw.bInts b).length with h1 | h1
      · exact h1
      · rw [List.drop_eq_nil_of_le h1] at h; cases h
    have hc : (KBw.bInts b)[a] = c := by
      rw [List.drop_eq_getElem_cons hlt] at h
      exact (List.cons.inj h).1
    have hr : (KBw.bInts b).drop (a + 1) = r := by
      rw [List.drop_eq_getElem_cons hlt] at h
      exact (List.cons.inj h).2
    have hlt' := hlt
    rw [KBw.ints_length] at hlt'
    by_cases h32 : c = 32
    · simp only [posL, if_pos h32, cutB, List.map_cons, splitL]
      rw [cut_split b r (a + 1) (a + 1) hr (Nat.le_refl _) (by omega), bInts_extract]
      have hne := splitL_ne r
      revert hne
      cases splitL r with
      | nil => intro h; exact absurd rfl h
      | cons p ps => intro _; simp
    · simp only [posL, if_neg h32, splitL]
      rw [cut_split b r (a + 1) last hr (by omega) (by omega)]
      have hne := splitL_ne r
      revert hne
      cases splitL r with
      | nil => intro h; exact absurd rfl h
      | cons p ps =>
        intro _
        have e : ((KBw.bInts b).drop last).take (a + 1 - last) = ((KBw.bInts b).drop last).take (a - last) ++ [c] := by
          have e1 : a + 1 - last = (a - last) + 1 := by omega
          rw [e1, List.take_add_one]
          congr 1
          rw [List.getElem?_drop]
          have e2 : last + (a - last) = a := by omega
          rw [e2, List.getElem?_eq_getElem hlt, hc]
          rfl
        simp only [e, List.append_assoc, List.singleton_append]

theorem byte_at (b : Array UInt8) (i : Nat) : (b.extract i (i + 1) == #[(32 : UInt8)]) = decide ((KBw.bInts b)[i]? = some 32) := by
  rw [Bool.eq_iff_iff]
  simp only [beq_iff_eq, decide_eq_true_eq]
  constructor
  · intro h
    have h1 := congrArg KBw.bInts h
    rw [bInts_extract] at h1
    have h2 := congrArg (fun l => l[0]?) h1
    simp only [List.getElem?_take, List.getElem?_drop] at h2
    rw [if_pos (by omega)] at h2
    exact (by simpa using h2 : (KBw.bInts b)[i]? = (KBw.bInts #[(32 : UInt8)])[0]?).trans rfl
  · intro h
    unfold KBw.bInts at h
    rw [List.getElem?_map] at h
    cases hx : b.toList[i]? with
    | none => rw [hx] at h; cases h
    | some c =>
      rw [hx] at h
      have hc : c = 32 := by
        have := Option.some.inj h
        apply UInt8.toNat_inj.mp
        show c.toNat = 32
        have h2 : (c.toNat : Int) = 32 := this
        omega
      subst hc
      apply Array.toList_inj.mp
      rw [Array.toList_extract, List.extract_eq_take_drop]
      obtain ⟨hlt, hg⟩ := List.getElem?_eq_some_iff.mp hx
      rw [List.drop_eq_getElem_cons hlt, hg]
      simp

theorem fold_occ (p : Nat → Bool) : ∀ (n a : Nat) (acc : List Nat) (last : Nat), last ≤ a →
    ((List.range' a n).foldl (fun (acc : List Nat × Nat) i => if i ≥ acc.2 && p i then (i :: acc.1, i + 1) else acc) (acc, last)).1 = ((List.range' a n).filter p).reverse ++ acc
  | 0, a, acc, last, h => by simp
  | n + 1, a, acc, last, h => by
    rw [List.range'_succ, List.foldl_cons, List.filter_cons]
    by_cases hp : p a = true
    · simp only [hp, if_true, Bool.and_true, ge_iff_le, decide_eq_true h]
      rw [fold_occ p n (a + 1) (a :: acc) (a + 1) (Nat.le_refl _)]
      simp
    · simp only [hp, Bool.and_false, if_false]
      rw [if_neg (by simp), if_neg (by simp)]
      exact fold_occ p n (a + 1) acc last (by omega)

theorem pos_eq (ks : List Int) : ∀ (rest : List Int) (a : Nat), ks.drop a = rest → (List.range' a rest.length).filter (fun i => decide (ks[i]? = some 32)) = posL rest a
  | [], a, h => by simp [posL]
  | c :: r, a, h => by
    have hlt : a < ks.length := by
      rcases Nat.lt_or_ge a ks.length with h1 | h1
      · exact h1
      · rw [List.drop_eq_nil_of_le h1] at h; cases h
    rw [List.drop_eq_getElem_cons hlt] at h
    have hc := (List.cons.inj h).1
    have hr := (List.cons.inj h).2
    rw [List.length_cons, List.range'_succ, List.filter_cons, pos_eq ks r (a + 1) hr]
    have e : decide (ks[a]? = some 32) = decide (c = 32) := by
      rw [List.getElem?_eq_getElem hlt, hc]; simp
    rw [e]
    by_cases h32 : c = 32
    · simp [posL, h32]
    · simp [posL, h32]

theorem occ_eq (b : Array UInt8) : Bytes.occurrences b #[32] 0 b.size = posL (KBw.bInts b) 0 := by
  unfold Bytes.occurrences
  have hf : (fun (acc : List Nat × Nat) (i : Nat) => if i ≥ acc.2 && b.extract i (i + (#[(32 : UInt8)]).size) == #[32] then (i :: acc.1, i + (#[(32 : UInt8)]).size) else acc) =
      (fun (acc : List Nat × Nat) i => if i ≥ acc.2 && (fun i => decide ((KBw.bInts b)[i]? = some 32)) i then (i :: acc.1, i + 1) else acc) := by
    funext acc i
    show (if (decide (i ≥ acc.2) && (b.extract i (i + 1) == #[32])) = true then (i :: acc.1, i + 1) else acc) = _
    rw [byte_at]
  have hr : (List.range (b.size + 1 - (0 + (#[(32 : UInt8)]).size))).map (· + 0) = List.range' 0 b.size := by
    simp [List.range_eq_range']
  show (List.foldl (fun (acc : List Nat × Nat) (i : Nat) => if i ≥ acc.2 && b.extract i (i + (#[(32 : UInt8)]).size) == #[32] then (i :: acc.1, i + (#[(32 : UInt8)]).size) else acc) ([], 0) ((List.range (b.size + 1 - (0 + (#[(32 : UInt8)]).size))).map (· + 0))).1.reverse = _
  rw [hf, hr, fold_occ _ _ _ _ _ (Nat.le_refl _)]
  have := pos_eq (KBw.bInts b) (KBw.bInts b) 0 rfl
  rw [KBw.ints_length] at this
  simpa using this

theorem posL_len : ∀ (ks : List Int) (a : Nat), (posL ks a).length ≤ ks.length
  | [], _ => by simp [posL]
  | c :: r, a => by
    have := posL_len r (a + 1)
    unfold posL
    split <;> simp <;> omega

/-- values that are these runs of bytes -/
inductive BytesAre : List Value → List (List Int) → Prop
  | nil : BytesAre [] []
  | cons {b : Array UInt8} {t : Tok} {p : List Int} {vs : List Value} {ps : List (List Int)} (h : KBw.bInts b = p) (r : BytesAre vs ps) : BytesAre (.bytes b t :: vs) (p :: ps)
theorem BytesAre.length {vs : List Value} {ps : List (List Int)} (h : BytesAre vs ps) : vs.length = ps.length := by
  induction h with
  | nil => rfl
  | cons _ _ ih => simp [ih]

theorem splitL_nopos : ∀ (ks : List Int) (a : Nat), posL ks a = [] → splitL ks = [ks]
  | [], a, _ => rfl
  | c :: r, a, h => by
    unfold posL at h
    split at h
    · cases h
    · rename_i hc
      unfold splitL
      rw [if_neg hc, splitL_nopos r (a + 1) h]

theorem bytes_made {M : Model} {A : Around} {E : Value → Shared → Prop} : ∀ (xs : List (Array UInt8)) (s : Shared) (Q : List Value → Shared → Prop), (∀ x ∈ xs, x.size ≤ sizeLine) →
    (∀ vs k, BytesAre vs (xs.map KBw.bInts) → Q vs { s with toks := k }) → wpAny M A (xs.mapM (Bytes.Kind.new .bytes)) Q E s
  | [], s, Q, _, h => by rw [List.mapM_nil]; exact wpAny_pure (h _ s.toks .nil)
  | x :: r, s, Q, hx, h => by
    rw [List.mapM_cons]
    refine wpAny_bind (wpAny_mkBytes (wpAny_bind (bytes_made r _ _ (fun y hy => hx y (List.mem_cons_of_mem _ hy)) fun vs k hv => wpAny_pure ?_)) (hx x (List.mem_cons_self ..)))
    exact h _ k (.cons rfl hv)

theorem cutB_size (b : Array UInt8) : ∀ (ps : List Nat) (last : Nat), ∀ x ∈ cutB b last ps, x.size ≤ b.size
  | [], last, x, h => by rw [List.mem_singleton.mp h]; simp only [Array.size_extract]; omega
  | p :: ps, last, x, h => by
    rcases List.mem_cons.mp h with rfl | h
    · simp only [Array.size_extract]; omega
    · exact cutB_size b ps _ x h
theorem cutB_len (b : Array UInt8) : ∀ (ps : List Nat) (last : Nat), (cutB b last ps).length = ps.length + 1
  | [], last => rfl
  | p :: ps, last => by simp [cutB, cutB_len b ps]

theorem meets_split (b : Array UInt8) (t u : Tok) (hsz : b.size ≤ 1000000) :
    Meets («bytes.split» ⟨[.bytes b t, .bytes #[32] u], []⟩) (fun _ R s => ∀ vs k, BytesAre vs (splitL (KBw.bInts b)) →
      R (.ok (.ret (.ref s.heap.objs.size))) { s with toks := k, heap := s.heap.push (listOf vs.toArray 0) }) := by
  refine .of_wp fun prog w A R s h => ?_
  have hl := sizeLine_eq
  show wpAny _ _ (Bytes.splitM .bytes "split" false ⟨[.bytes b t, .bytes #[32] u], []⟩) _ _ s
  unfold Bytes.splitM
  refine wpAny_bind (wpAny_of_eq (a := [some (.bytes #[32] u), none]) rfl ?_)
  refine wpAny_bind (wpAny_pure ?_)
  refine wpAny_bind (wpAny_of_eq (a := b) rfl ?_)
  refine wpAny_bind (wpAny_of_eq (a := #[32]) KBd.like_eq ?_)
  have hp : (Bytes.occurrences b #[32] 0 b.size).take (if (-1 : Int) < 0 then b.size + 1 else (-1 : Int).toNat) = posL (KBw.bInts b) 0 := by
    rw [occ_eq, if_pos (by omega)]
    refine List.take_of_length_le ?_
    have := posL_len (KBw.bInts b) 0
    rw [KBw.ints_length] at this
    omega
  show wpAny _ _ (if ((Bytes.occurrences b #[32] 0 b.size).take (if (-1 : Int) < 0 then b.size + 1 else (-1 : Int).toNat)).isEmpty = true then (rule _ >>= fun _ => Bytes.Kind.same .bytes (.bytes b t) >>= fun v => newList [v] >>= fun r => ret r)
    else ((Bytes.between b 1 ((Bytes.occurrences b #[32] 0 b.size).take (if (-1 : Int) < 0 then b.size + 1 else (-1 : Int).toNat))).mapM (Bytes.Kind.new .bytes) >>= fun vs => newList vs >>= fun r => ret r)) _ _ s
  rw [hp]
  by_cases he : posL (KBw.bInts b) 0 = []
  · rw [he, List.isEmpty_nil, if_pos rfl]
    refine wpAny_bind (wpAny_rule (wpAny_bind (wpAny_of_eq (a := .bytes b t) rfl ?_)))
    refine wpAny_bind (wpAny_newList (wpAny_pure ⟨_, rfl, ?_⟩) (by simp [sizeLine]))
    refine h _ s.toks ?_
    rw [splitL_nopos _ _ he]
    exact .cons rfl .nil
  · rw [if_neg (by simpa using he), between_eq]
    refine wpAny_bind (bytes_made _ _ _ (fun x hx => ?_) fun vs k hv => ?_)
    · have := cutB_size b _ _ x hx
      omega
    · have h1 := hv.length
      rw [List.length_map, cutB_len] at h1
      have h2 := posL_len (KBw.bInts b) 0
      rw [KBw.ints_length] at h2
      refine wpAny_bind (wpAny_newList (wpAny_pure ⟨_, rfl, ?_⟩) (by omega))
      refine h _ _ ?_
      have h3 := cut_split b (KBw.bInts b) 0 0 rfl (Nat.le_refl _) (Nat.zero_le _)
      rw [h3] at hv
      have hne := splitL_ne (KBw.bInts b)
      revert hne hv
      cases splitL (KBw.bInts b) with
      | nil => intro _ h; exact absurd rfl h
      | cons p ps => intro hv _; simpa using hv
end Mine
end
section
open PySem PySem.W PyProof.Rows PySem.Calls PyProof.V PySem.Spec
namespace Mine
open Builtin
/-- where 41 stands first -/
def FoundIn (ks : List Int) (f : Int) : Prop := (f = -1 ∧ ∀ j : Nat, ks[j]? ≠ some 41) ∨ ∃ i : Nat, f = i ∧ ks[i]? = some 41 ∧ ∀ j, j < i → ks[j]? ≠ some 41

theorem byte_at' (b : Array UInt8) (i : Nat) : (b.extract i (i + (#[(41 : UInt8)]).size) == #[(41 : UInt8)]) = decide ((KBw.bInts b)[i]? = some 41) := by
  rw [Bool.eq_iff_iff]
  simp only [beq_iff_eq, decide_eq_true_eq]
  show b.extract i (i + 1) = _ ↔ _
  constructor
  · intro h
    have h1 := congrArg KBw.bInts h
    rw [bInts_extract] at h1
    have h2 := congrArg (fun l => l[0]?) h1
    simp only [List.getElem?_take, List.getElem?_drop] at h2
    rw [if_pos (by omega)] at h2
    exact (by simpa using h2 : (KBw.bInts b)[i]? = (KBw.bInts #[(41 : UInt8)])[0]?).trans rfl
  · intro h
    unfold KBw.bInts at h
    rw [List.getElem?_map] at h
    cases hx : b.toList[i]? with
    | none => rw [hx] at h; cases h
    | some c =>
      rw [hx] at h
      have hc : c = 41 := by
        have := Option.some.inj h
        apply UInt8.toNat_inj.mp
        show c.toNat = 41
        have h2 : (c.toNat : Int) = 41 := this
        omega
      subst hc
      apply Array.toList_inj.mp
      rw [Array.toList_extract, List.extract_eq_take_drop]
      obtain ⟨hlt, hg⟩ := List.getElem?_eq_some_iff.mp hx
      rw [List.drop_eq_getElem_cons hlt, hg]
      simp

theorem found_in (b : Array UInt8) : FoundIn (KBw.bInts b) (foundAt b 41) := by
  have hlen : (KBw.bInts b).length = b.size := KBw.ints_length b
  unfold foundAt
  by_cases h0 : (b.size : Int) < 1
  · rw [if_pos h0]
    refine .inl ⟨rfl, fun j h => ?_⟩
    have := (List.getElem?_eq_some_iff.mp h).1
    omega
  · rw [if_neg h0]
    have e : Bytes.find? b #[41] 0 b.size = (List.range b.size).find? fun i => decide ((KBw.bInts b)[i]? = some 41) := by
      unfold Bytes.find?
      have hr : (List.range (b.size + 1 - (0 + (#[(41 : UInt8)]).size))).map (· + 0) = List.range b.size := by simp
      rw [hr]
      congr 1
      funext i
      exact byte_at' b i
    rw [e]
    cases hf : (List.range b.size).find? fun i => decide ((KBw.bInts b)[i]? = some 41) with
    | none =>
      refine .inl ⟨rfl, fun j h => ?_⟩
      have h1 := List.find?_eq_none.mp hf j (List.mem_range.mpr (by have := (List.getElem?_eq_some_iff.mp h).1; omega))
      exact h1 (by simpa using h)
    | some i =>
      refine .inr ⟨i, rfl, ?_, ?_⟩
      · have := List.find?_some hf
        simpa using this
      · intro j hj h
        rw [List.range_eq_range', List.find?_range'_eq_some] at hf
        have := hf.2.2 j (by omega) hj
        simp [h] at this

section
variable {prog : Program} {w : World} {A : Around} {E : Value → Shared → Prop} {s : Shared} {h₀ : Heap} {L : Addr} {m : Str → Option Value} {news : List (Addr × Obj)} {Q : Value → Shared → Prop} {b : Array UInt8} {t u : Tok} {ks : List Int}
theorem find_K (hks : KBw.bInts b = ks) (h : ∀ f t' k, FoundIn ks f → Q (.int f t') { s with toks := k }) : wpAny (model prog w) A (call (.builtin "bytes.find") [.bytes b t, .bytes #[41] u]) Q E s := by
  subst hks
  exact call_meets slot_find (typeIs_bytes _ _ _) entry_find (args_find _ _) (meets_find b 41 t u) fun t' k => h _ t' k (found_in b)
theorem split_K (F : Fr h₀ L s.heap m) (N : News h₀ L s.heap news) (hks : KBw.bInts b = ks) (hsz : ks.length ≤ 1000000)
    (h : ∀ l vs h' k, BytesAre vs (splitL ks) → Fr h₀ L h' m → News h₀ L h' ((l, listOf vs.toArray 0) :: news) → (∀ p ∈ news, p.1 < l) → Q (.ref l) { s with heap := h', toks := k }) :
    wpAny (model prog w) A (call (.builtin "bytes.split") [.bytes b t, .bytes #[32] u]) Q E s := by
  subst hks
  rw [KBw.ints_length] at hsz
  exact call_meets slot_split (typeIs_bytes _ _ _) entry_split (args_split _ _) (meets_split b t u hsz) fun vs k hv => h _ vs _ k hv (Fr.pushS F _) (News.push F N _) fun p hp => Heap.lt_size (N p hp).1
theorem mfind {M : Model} {pl : Sem Bool} {Q : Value × List Value → Shared → Prop} (h : Q (.builtin "bytes.find", [.bytes b t]) s) : wpAny M A (getMethod (.bytes b t) "find" pl) Q E s := by
  with_reducible exact KBd.method_of (.bytes b t) (typeIs_bytes _ _ _) slot_find type_find KBd.noRef h
theorem msplit {M : Model} {pl : Sem Bool} {Q : Value × List Value → Shared → Prop} (h : Q (.builtin "bytes.split", [.bytes b t]) s) : wpAny M A (getMethod (.bytes b t) "split" pl) Q E s := by
  with_reducible exact KBd.method_of (.bytes b t) (typeIs_bytes _ _ _) slot_split type_split KBd.noRef h
theorem mjoin {M : Model} {pl : Sem Bool} {Q : Value × List Value → Shared → Prop} (h : Q (.builtin "bytes.join", [.bytes b t]) s) : wpAny M A (getMethod (.bytes b t) "join" pl) Q E s := by
  with_reducible exact KBd.method_of (.bytes b t) (typeIs_bytes _ _ _) slot_join type_join KBd.noRef h
end
end Mine
end
section
open PySem PySem.W PyProof.Rows PySem.Calls PyProof.V PySem.Spec
namespace Mine
set_option maxHeartbeats 8000000 in
theorem worth_con (w : World) (mean : ExcName → Option Value) (mg mb : Str → Option Value) (news : List (Addr × Obj)) (b : Array UInt8) (t : Tok) (ks : List Int) (hks : KBw.bInts b = ks) :
  Con w mean mg mb 1 366 [.bytes b t] news (fun r n => ∃ t', r = .int (worth ks) t' ∧ n = news) False := by
  k_with_none
  w_top off
  subst hks
  unfold Con
  k_fill
  intro dp un gd cn cs a ccd cl outer A₀ base h₀ L m s Q E B F X N T hk hd hu hret herr
  k_dflt cell_enter
  k_with "pyIter bytes" => k_state (fun pre total => total = pre.foldl (fun n c => n * 10 + c - 48) 0) "total"
  k_steps
  exact hret _ _ _ _ ⟨_, by rw [kInv]; first | rfl | (unfold worth; rfl), rfl⟩ (by k_asm) (by k_asm)

/-- the state of a loop over a made list -/
def MadeS {σ : Type} (Led : σ → List (Addr × Obj)) (ps : σ → List (Str × Value)) (Facts : σ → Prop) (x : Str) (stored : List Str) (m₀ : Str → Option Value) (P : Nat → σ → Prop) (i : Nat) (m : Str → Option Value) (nx : List (Addr × Obj)) : Prop :=
  ∃ c : σ, nx = Led c ∧ Facts c ∧ (∀ p ∈ ps c, m p.1 = some p.2) ∧ (∀ z, z ≠ x → (∀ p ∈ ps c, z ≠ p.1) → stored.contains z = false → m z = m₀ z) ∧ P i c

theorem BytesAre.at {vs : List Value} {ps : List (List Int)} (h : BytesAre vs ps) : ∀ {i : Nat} {v : Value}, vs[i]? = some v → ∃ b t p, v = .bytes b t ∧ ps[i]? = some p ∧ KBw.bInts b = p := by
  induction h with
  | nil => intro i v h; simp at h
  | cons hb _ ih =>
    intro i v h
    cases i with
    | zero => simp at h; exact ⟨_, _, _, h.symm, rfl, hb⟩
    | succ i => simp at h; simpa using ih h

section
variable {prog : Program} {w : World} {A : Around} {E : Value → Shared → Prop} {s : Shared} {env : Env} {h₀ : Heap} {x : Str} {body : List Stmt} {Q : Flow → Shared → Prop}
theorem made_bytes {σ : Type} {l : Addr} {vs : List Value} {parts : List (List Int)} {nn : Nat} {m₀ : Str → Option Value} {news : List (Addr × Obj)} (Led : σ → List (Addr × Obj)) (ps : σ → List (Str × Value)) (Facts : σ → Prop) (stored : List Str) (P : Nat → σ → Prop) (c₀ : σ)
    (hh : A.handled = none) (F : Fr h₀ env.locals s.heap m₀) (N : News h₀ env.locals s.heap news) (hl : (l, listOf vs.toArray nn) ∈ news) (hi : BytesAre vs parts) (hsub : ∀ p ∈ Led c₀, p ∈ news) (hoff : ∀ p ∈ Led c₀, p.1 ≠ l) (hf : Facts c₀) (hk : ∀ p ∈ ps c₀, m₀ p.1 = some p.2) (hp : P 0 c₀)
    (turn : ∀ (c : σ) i b t p (u : Str → Option Value) h tk own, parts[i]? = some p → KBw.bInts b = p → OwnOff own ((Led c₀).map (·.1)) → Facts c → P i c → (Led c).map (·.1) = (Led c₀).map (·.1) →
      Fr h₀ env.locals h (fun y => if y = x then some (.bytes b t) else kstB (fun z => if stored.contains z then u z else m₀ z) (ps c) y) → News h₀ env.locals h (Led c ++ own) →
      wpAny (model prog w) A (execs body env) (InvPostN h₀ env.locals (MadeS Led ps Facts x stored m₀ P (i + 1)) own ((Led c₀).map (·.1)) { s with heap := h, toks := tk } Q) E { s with heap := h, toks := tk })
    (done : ∀ (c : σ) (u : Str → Option Value) h tk, Facts c → P parts.length c → Fr h₀ env.locals h (fun y => if y = x then u y else kstB (fun z => if stored.contains z then u z else m₀ z) (ps c) y) → News h₀ env.locals h (Led c) → Q .next { s with heap := h, toks := tk }) :
    wpAny (model prog w) A (pyIter (.ref l)) (fun it s₂ => LoopAtV prog w A h₀ env x body Q E it s₂) E s := by
  have hol : s.heap.get? l = some (listOf vs.toArray nn) := (N _ hl).1
  have hls : s.heap.IsList l vs.toArray := ⟨_, hol, rfl, nn, rfl⟩
  have hne : l ≠ s.heap.objs.size := Nat.ne_of_lt (Heap.lt_size hol)
  have N₀ : News h₀ env.locals s.heap (Led c₀) := fun p hp => N p (hsub p hp)
  refine wpAny_pyIter_list hls ?_
  have W := Walks.list (prog := prog) (w := w) hh s.heap.objs.size l hne vs.toArray
  have hlen : vs.toArray.size = parts.length := by simp [hi.length]
  rw [hlen] at W
  refine loop_invN (fun i m nx => MadeS Led ps Facts x stored m₀ P i m nx) W ?_ ?_ ?_ ?_ ⟨⟨_, Heap.get?_push_size _ rfl, rfl, rfl⟩, hls.at fun o e => Heap.get?_push_of_some _ e⟩ (F.push _) (fun p hp => ⟨Heap.get?_push_of_some _ (N₀ p hp).1, (N₀ p hp).2⟩) ⟨c₀, rfl, hf, hk, fun _ _ _ _ => rfl, hp⟩ ?_ ?_
  · intro hm
    rcases List.mem_cons.mp hm with e | hm
    · exact absurd F.ns.lt (e ▸ Nat.lt_irrefl _)
    · exact (N _ hl).2.1 ((List.mem_singleton.mp hm).symm)
  · intro b hb
    rw [List.mem_singleton.mp hb]
    exact next_is_new F
  · intro p hp hI
    exact absurd (Heap.lt_size (N₀ p hp).1) ((List.mem_singleton.mp hI) ▸ Nat.lt_irrefl _)
  · intro p hp hm
    rcases List.mem_cons.mp hm with e | hm
    · exact absurd (Heap.lt_size (N₀ p hp).1) (e ▸ Nat.lt_irrefl _)
    · exact hoff p hp (List.mem_singleton.mp hm)
  · rintro i v m₁ nx h tk own hin hPv hadr hoff ⟨c, rfl, hf', h1, h2, hp'⟩ F₁ N₁
    obtain ⟨b, t, p, rfl, hpi, hb⟩ := hi.at (by simpa using hPv)
    exact turn c i b t p m₁ h tk own hpi hb hoff hf' hp' hadr (kst_fr h1 h2 F₁) N₁
  · rintro m₁ nx h tk ⟨c, rfl, hf', h1, h2, hp'⟩ F₁ N₁
    exact done c m₁ h tk hf' hp' (kst_frOut h1 h2 F₁) N₁
theorem made_end {σ : Type} {L : Addr} {Led : σ → List (Addr × Obj)} {ps : σ → List (Str × Value)} {Facts : σ → Prop} {stored : List Str} {m₀ m' : Str → Option Value} {P : Nat → σ → Prop} {i : Nat} {own news' : List (Addr × Obj)} {adr : List Addr} {s : Shared} {h' : Heap} {tk : Nat} (c' : σ)
    (F : Fr h₀ L h' m') (N : News h₀ L h' news') (ha : (Led c').map (·.1) = adr) (hn : ∀ p ∈ Led c', p ∈ news') (ho : ∀ p ∈ own, p ∈ news') (hf : Facts c') (hk : ∀ p ∈ ps c', m' p.1 = some p.2) (hr : ∀ z, z ≠ x → (∀ p ∈ ps c', z ≠ p.1) → stored.contains z = false → m' z = m₀ z) (hp : P i c') :
    InvEndN h₀ L (MadeS Led ps Facts x stored m₀ P i) own adr s { s with heap := h', toks := tk } :=
  InvEndN.intro F N ⟨c', rfl, hf, hk, hr, hp⟩ ha hn ho
end
end Mine
end
section
open PySem PySem.W PyProof.Rows PySem.Calls PyProof.V PySem.Spec
namespace Mine

section
variable {prog : Program} {w : World} {A : Around} {E : Value → Shared → Prop} {s₁ : Shared} {h₀ : Heap} {L : Addr} {m : Str → Option Value} {news : List (Addr × Obj)}
/-- a comprehension over bytes that keeps some of its numbers -/
theorem comp_bytes {env : Env} {elt : Expr} {x : Str} {ifs : List Expr} {scope : Scope} {Q : Value → Shared → Prop} {b : Array UInt8} {t : Tok} {ks : List Int} (pz : Int → Bool)
    (hh : A.handled = none) (F : Fr h₀ L s₁.heap m) (N : News h₀ L s₁.heap news) (hk : KBw.bInts b = ks) (hsz : ks.length ≤ sizeLine)
    (g1 : ∀ C n u s₂ m₂ E', s₂.heap.Ns (compEnv scope C env).locals m₂ → m₂ x = some (.int n u) →
        wpAny (model prog w) A (forIn ifs true fun c r => if r = true then do let ok ← isTrue c (compEnv scope C env) (eval c (compEnv scope C env)); pure (ForInStep.yield ok) else pure (ForInStep.yield r))
          (fun ok s₃ => ok = pz n ∧ Keeps s₂ s₃) E' s₂)
    (g2 : ∀ C n u s₂ m₂ E', s₂.heap.Ns (compEnv scope C env).locals m₂ → m₂ x = some (.int n u) → wpAny (model prog w) A (eval elt (compEnv scope C env)) (fun r s₃ => (∃ u', r = .int n u') ∧ Keeps s₂ s₃) E' s₂)
    (g3 : ∀ D (ys : List Value) k h' tk, Fr h₀ L h' m → News h₀ L h' ((D, listOf ys.toArray k) :: news) → (∀ p ∈ news, p.1 ≠ D) → IntsAre ys (ks.filter pz) → Q (.ref D) { s₁ with heap := h', toks := tk }) :
    wpAny (model prog w) A (pyIter (.bytes b t)) (CompPost prog w A env scope x ifs elt Q) E s₁ := by
  subst hk
  unfold CompPost
  refine KBw.pyIter_bytes ?_
  have up : ∀ (h' : Heap) (o : Obj), (∀ b o', b ∉ [s₁.heap.objs.size] → (s₁.heap.push o).get? b = some o' → h'.get? b = some o') → ∀ b o', s₁.heap.get? b = some o' → h'.get? b = some o' :=
    fun h' o hk b o' e => hk b o' (old_not_new e) (Heap.get?_push_of_some _ e)
  have W := KBw.walks (prog := prog) (w := w) hh s₁.heap.objs.size b t
  refine ⟨ItemKind.int.lift pz, fun v r => ∃ a, ItemKind.int.is a v ∧ Carried r (.int a), s₁.heap.objs.size, [s₁.heap.objs.size], [s₁.heap.objs.size], b.size, _, _, rfl, W, by rw [← KBw.ints_length]; exact hsz, ⟨_, Heap.get?_push_size _ rfl, rfl, rfl⟩, ?_, ⟨?_, ?_⟩, ?_⟩
  · intro b' hb
    show b' < (s₁.heap.push _).objs.size
    rw [Heap.size_push, List.mem_singleton.mp hb]
    exact Nat.lt_succ_self _
  · intro C i v s₃ m₃ E' hP hn hm _ htk
    obtain ⟨c, u, _, rfl⟩ := hP
    have ha : ItemKind.int.is (c.toNat : Int) (.int (c.toNat : Int) u) := ⟨u, rfl⟩
    rw [ItemKind.lift_is ha]
    exact g1 C _ _ s₃ m₃ E' hn hm
  · intro C i v s₃ m₃ E' hP hp hn hm _ htk
    obtain ⟨c, u, _, rfl⟩ := hP
    have ha : ItemKind.int.is (c.toNat : Int) (.int (c.toNat : Int) u) := ⟨u, rfl⟩
    exact wpAny_mono (g2 C _ _ s₃ m₃ E' hn hm) (fun r s₄ h₄ => ⟨⟨_, ha, by obtain ⟨u', rfl⟩ := h₄.1; constructor⟩, h₄.2⟩) fun _ _ e => e
  · intro D h' tk ys vs hnew hlD hplD hlen hP hF hk
    have ar : AreOf .int vs (KBw.bInts b) := areOf_of_get vs (KBw.bInts b) (by rw [hlen, KBw.ints_length]) fun j v hv => by
      obtain ⟨c, u, hc, rfl⟩ := hP j v hv
      exact ⟨_, KBw.ints_get hc, u, rfl⟩
    obtain ⟨k, hD⟩ := hplD
    have hi : IntsAre ys.toList ((KBw.bInts b).filter pz) := by
      have := CarriedAll.intsOf (f := fun a => a) (ar.paired pz (fun n => .int n) _ hF)
      rwa [List.map_id'] at this
    have F' := F.keeps (up h' _ hk)
    have hne : ∀ p ∈ news, p.1 ≠ D := fun p hp e => by rw [← e, Heap.get?_push_of_some _ (N p hp).1] at hnew; cases hnew
    refine g3 D ys.toList k h' tk F' ?_ hne hi
    intro p hp
    rcases List.mem_cons.mp hp with rfl | hp
    · refine ⟨by rw [Array.toArray_toList]; exact hD, ?_, ?_⟩
      · exact NewPlain.ne_locals (news := news) ⟨⟨k, hD⟩, hne⟩ F'
      · cases e : h₀.get? D with
        | none => rfl
        | some o' => rw [Heap.get?_push_of_some _ (F.keep _ _ e)] at hnew; cases hnew
    · exact N.grown (up h' _ hk) p hp
end
theorem bad_none {q : List Int} : (q.filter (fun n => !fig n) = []) ↔ ∀ c ∈ q, fig c = true := by
  rw [List.filter_eq_nil_iff]
  simp
end Mine
end
section
open PySem PySem.W PyProof.Rows PySem.Calls PyProof.V PySem.Spec
namespace Mine
local macro_rules | `(tactic| k_room) => `(tactic| ktr_room)
local macro_rules | `(tactic| k_units) => `(tactic| ktr_units)
local macro_rules | `(tactic| k_all) => `(tactic| assumption)
local macro_rules | `(tactic| walk_at "call ref") => `(tactic| k_extra "call ref")
local macro_rules | `(tactic| walk_at "getMethod bytes") => `(tactic| k_extra "getMethod bytes")
local macro_rules | `(tactic| walk_at "call builtin:bytes.find") => `(tactic| k_extra "call builtin:bytes.find")
local macro_rules | `(tactic| walk_at "call builtin:bytes.split") => `(tactic| k_extra "call builtin:bytes.split")
local macro_rules | `(tactic| walk_at "newList") => `(tactic| k_extra "newList")
local macro_rules | `(tactic| walk_at "pyIter bytes") => `(tactic| k_extra "pyIter bytes")
local macro_rules | `(tactic| walk_at "compareOp NotEq ref ref") => `(tactic| k_extra "compareOp NotEq ref ref")
local macro_rules | `(tactic| walk_at "call builtin:list.append") => `(tactic| k_extra "call builtin:list.append")
local macro_rules | `(tactic| walk_at "pyIter ref") => `(tactic| k_extra "pyIter ref")


/-- the part between the brackets -/
def inner (ks : List Int) (f : Int) : List Int := List.take (clipAt ks.length f - clipAt ks.length 1) (List.drop (clipAt ks.length 1) ks)
/-- a number's figures -/
abbrev Good (p : List Int) : Prop := 1 ≤ p.length ∧ p.length ≤ 19 ∧ ∀ c ∈ p, fig c = true
def DueOk (ks ns : List Int) (i : Int) : Prop := (ks.take 2 = [40, 41] ∧ ns = [] ∧ i = 2) ∨ (ks.take 2 ≠ [40, 41] ∧ ks.take 1 = [40] ∧ ∃ f, FoundIn ks f ∧ 0 ≤ f ∧ (∀ p ∈ splitL (inner ks f), Good p) ∧ ns = (splitL (inner ks f)).map worth ∧ i = f + 1)
def DueNo (ks : List Int) : Prop := ks.take 2 ≠ [40, 41] ∧ ∃ f, FoundIn ks f ∧ (ks.take 1 ≠ [40] ∨ f < 0 ∨ ∃ p ∈ splitL (inner ks f), ¬ Good p)

theorem splitL_len : ∀ ks, (splitL ks).length ≤ ks.length + 1
  | [] => by simp [splitL]
  | c :: r => by
    have := splitL_len r
    unfold splitL
    split
    · simp; omega
    · split
      · rename_i h; rw [h] at this; simp at this ⊢; omega
      · simp
theorem splitL_part : ∀ ks, ∀ p ∈ splitL ks, p.length ≤ ks.length
  | [], p, h => by simp [splitL] at h; simp [h]
  | c :: r, p, h => by
    have ih := splitL_part r
    unfold splitL at h
    split at h
    · rcases List.mem_cons.mp h with rfl | h
      · simp
      · have := ih p h; simp; omega
    · split at h
      · rename_i q qs hq
        rcases List.mem_cons.mp h with rfl | h
        · have := ih q (by rw [hq]; exact List.Mem.head _); simp; omega
        · have := ih p (by rw [hq]; exact List.Mem.tail _ h); simp; omega
      · rw [List.mem_singleton.mp h]; simp
theorem inner_len (ks : List Int) (f : Int) : (inner ks f).length ≤ ks.length := by
  unfold inner
  simp only [List.length_take, List.length_drop]
  omega

theorem take_clip (ks : List Int) (n : Nat) : List.take (clipAt ks.length n) ks = ks.take n := by
  rcases Nat.le_total n ks.length with h | h
  · rw [clip_in (by omega) (by omega)]; rfl
  · rw [clip_over (by omega), List.take_of_length_le (Nat.le_refl _), List.take_of_length_le h]
theorem lit_iff {p c : Array UInt8} : p.toList = c.toList ↔ KBw.bInts p = KBw.bInts c :=
  ⟨fun e => by unfold KBw.bInts; rw [e], fun e => bInts_inj e⟩
theorem take2_yes {p : Array UInt8} {ks : List Int} (h : (p.toList == (#[40, 41] : Array UInt8).toList) = true) (hk : KBw.bInts p = List.take (clipAt ks.length 2) ks) : ks.take 2 = [40, 41] := by
  have := lit_iff.mp (beq_iff_eq.mp h)
  rw [hk, show (2 : Int) = ((2 : Nat) : Int) from rfl, take_clip] at this
  exact this
theorem take2_no {p : Array UInt8} {ks : List Int} (h : (p.toList == (#[40, 41] : Array UInt8).toList) = false) (hk : KBw.bInts p = List.take (clipAt ks.length 2) ks) : ks.take 2 ≠ [40, 41] := by
  intro e
  rw [show (2 : Int) = ((2 : Nat) : Int) from rfl, take_clip] at hk
  have : p.toList = (#[40, 41] : Array UInt8).toList := lit_iff.mpr (hk.trans e)
  rw [beq_eq_false_iff_ne] at h
  exact h this
theorem take1_yes {p : Array UInt8} {ks : List Int} (h : (p.toList != (#[40] : Array UInt8).toList) = false) (hk : KBw.bInts p = List.take (clipAt ks.length 1) ks) : ks.take 1 = [40] := by
  have := lit_iff.mp (bne_eq_false_iff_eq.mp h)
  rw [hk, show (1 : Int) = ((1 : Nat) : Int) from rfl, take_clip] at this
  exact this
theorem take1_no {p : Array UInt8} {ks : List Int} (h : (p.toList != (#[40] : Array UInt8).toList) = true) (hk : KBw.bInts p = List.take (clipAt ks.length 1) ks) : ks.take 1 ≠ [40] := by
  intro e
  rw [show (1 : Int) = ((1 : Nat) : Int) from rfl, take_clip] at hk
  have : p.toList = (#[40] : Array UInt8).toList := lit_iff.mpr (hk.trans e)
  rw [bne_iff_ne] at h
  exact h this
theorem take_snoc {parts : List (List Int)} {i : Nat} {q : List Int} (h : parts[i]? = some q) : parts.take (i + 1) = parts.take i ++ [q] := by
  rw [List.take_add_one, h]; rfl

set_option maxHeartbeats 8000000 in
theorem due_con (w : World) (mean : ExcName → Option Value) (mg mb : Str → Option Value) (b : Array UInt8) (t : Tok) (ks : List Int) (hks : KBw.bInts b = ks) (hsz : ks.length ≤ 1000000) :
  ConL w mean mg mb 11 371 [.bytes b t]
   (fun r more => (∃ tp l vs ns k i ti, r = .ref tp ∧ IntsAre vs ns ∧ more = [(tp, tupObj [.ref l, .int i ti]), (l, listOf vs.toArray k)] ∧ DueOk ks ns i) ∨ (r = .none ∧ more = [] ∧ DueNo ks)) := by
  k_with_none
  w_top off
  unfold ConL
  k_fill
  intro dp un gd cn cs a ccd cl h₀ L m s Q E news F X N T hk hd hu hret
  k_dflt (refine' code_defG ?k2 ?k3 ?k5 ?kA ?kF ?kK ?k6 ?k7 ?k8 ?k9 ?kB ?_ ?c2 ?c3 ?c4 ?c5; (case kA => exact rfl); (case kF => exact rfl); (case kK => assumption); (case k2 => k_asm); (case k3 => k_asm); (case k5 => k_asm); (case k6 => k_is); (case k7 => k_is); (case k8 => ktr_room); (case k9 => exact BindsTo.of_eq rfl); (case c5 => decide); (case kB => exact locs rfl); (case c2 => exact rfl); (case c3 => exact rfl); (case c4 => exact rfl); k_whole; intro g L₁ h₁ hg F₁ N₁ B₁ X₁ T₁; (try dsimp only); (try k_lift B₁); (try k_fold))
  k_with "getMethod bytes" => (k_here; with_reducible (first | refine mfind ?_ | refine msplit ?_))
  k_with "call builtin:bytes.find" => (k_here; k_dflt (refine find_K (by k_asm) ?_; intro f9 t9 k9 hf9))
  k_with "call builtin:bytes.split" => (
    k_here
    with_reducible show wpAny _ _ (call (.builtin "bytes.split") [.bytes _ _, .bytes _ _]) _ _ _
    k_dflt (refine split_K (ks := inner ks f9) (by k_asm) (by k_asm) (by first | exact kbcK | assumption) ?_ ?_)
    · exact Nat.le_trans (inner_len ks f9) hsz
    intro q9 vs9 h9 k9 hv9 F9 N9 hq9
    have hql : q9 ≠ l9 := by have hz := hq9 _ (List.Mem.head _); exact Ne.symm (Nat.ne_of_lt hz))
  k_with "newList" => (
    k_here
    k_dflt (refine' newList_K (by k_asm) (by k_asm) ?_)
    intro l9 h9 F9 N9 hl9)
  k_with "pyIter ref" => (
    k_here
    rename Fr _ _ _ _ => lF'
    rename News _ _ _ _ => lN'
    with_unfolding_all refine' made_bytes (σ := List Value × Nat) (parts := splitL (inner ks f9)) (fun c => [(l9, listOf c.1.toArray c.2)]) (fun _ => []) (fun _ => True) [] (fun i c => IntsAre c.1 (((splitL (inner ks f9)).take i).map worth) ∧ ∀ p ∈ (splitL (inner ks f9)).take i, Good p) ([], 0) rfl lF' lN' (List.Mem.head _) hv9 ?_ ?_ trivial (fun _ h => nomatch h) ⟨IntsAre.nil, fun _ h => nomatch h⟩ ?_ ?_
    · exact fun p hp => .tail _ hp
    · intro p hp
      rw [List.mem_singleton.mp hp]
      exact Ne.symm hql
    all_goals (first
    | (
      rintro ⟨vs8, n8⟩ i8 p8 t8 q8 u8 h8 tk8 own8 hi8 hb8 ho8 _ ⟨hI8, hG8⟩ _ F8 N8
      have ho7 : ∀ p ∈ own8, p.1 ≠ l9 := fun p hp => ho8 p hp l9 (List.Mem.head _)
      have hz8 : q8.length ≤ 1000000 := Nat.le_trans (Nat.le_trans (splitL_part _ _ (List.mem_of_getElem? hi8)) (inner_len ks f9)) hsz
      have hv8 : vs8.length ≤ 1000001 := by
        have h1 := hI8.length
        have h2 := splitL_len (inner ks f9)
        have h3 := inner_len ks f9
        simp only [List.length_map, List.length_take] at h1
        omega
      have hc8 : vs8.toArray.size ≤ sizeLine := by
        rw [List.size_toArray]
        exact Nat.le_trans hv8 (by decide)
      (try dsimp only at hI8 hG8 F8 N8)
      simp only [List.cons_append, List.nil_append] at N8
      clear lF' lN'
      (try k_fold))
    | (
      rintro ⟨vs8, n8⟩ u8 h8 tk8 _ ⟨hI8, hG8⟩ F8 N8
      (try dsimp only at hI8 hG8 F8 N8)
      clear lF' lN'
      (try k_fold))))
  k_with "pyIter bytes" => (
    k_here
    k_dflt (refine' comp_bytes (fun n => !fig n) rfl (by k_asm) (by k_asm) hb8 ?_ ?_ ?_ ?_)
    · exact Nat.le_trans hz8 (by decide)
    all_goals (first
    | (intro D9 ys9 k9 h9 tk9 F9 N9 hD9 hI9; (try k_fold))
    | (intro C9 n9 u9 s9 m9 E9 hn9 hm9; (with_reducible refine wpAny_leafK ?_))))
  k_with "compareOp NotEq ref ref" => (
    k_here
    k_dflt (refine' ne_intsK (vs := ys9) (us := []) (ms := []) (News.isList (by k_asm) ?_) hI9 (News.isList (by k_asm) ?_) IntsAre.nil ?_ ?_)
    · k_mem
    · k_mem
    · ktr_units)
  k_with "call builtin:list.append" => (
    k_here
    rename News _ _ _ _ => N6
    rename Fr _ _ _ _ => F6
    k_dflt (refine' append_K (news := (_, listOf vs8.toArray n8) :: own8) F6 (fun p hp => N6 p (.tail _ (.tail _ hp))) (.head ho7) ?_ hc8)
    intro h7 F7 N7
    (try k_fold))
  k_with "call ref" => (k_here; k_dflt (
      refine' Con.use (worth_con w mean mg mb _ _ _ _ ?_) (by k_asm) (by k_asm) (by k_asm) (by k_asm) (fun _ h => h) (by k_asm) (by first | exact rfl | assumption) (by ktr_room) (by ktr_units) ?_ ?_
      · exact q8
      · exact hb8
      all_goals (first
        | ((rintro _ _ h9 tk9 ⟨t9, rfl, rfl⟩ F9 N9); (try dsimp only); (try k_fold))
        | (intro e9 a9 h9 tk9 hb9; exact hb9.elim))))
  k_steps
  · rename Fr _ _ _ _ => F9
    rename News _ _ _ _ => N9
    subst hg
    exact hret _ _ _ _ (.inl ⟨_, l9, [], [], 0, 2, _, rfl, .nil, rfl, .inl ⟨take2_yes (by assumption) (by assumption), rfl, rfl⟩⟩) (Mine.Fr.back F F9) (Mine.News.back F F9 N fun p hp => N9 p hp)
  · rename Fr _ _ _ _ => F9
    subst hg
    exact hret .none [] _ _ (.inr ⟨rfl, rfl, take2_no (by assumption) (by assumption), f9, hf9, .inl (take1_no (by assumption) (by assumption))⟩) (Mine.Fr.back F F9) (Mine.News.back F F9 N (fun _ h => nomatch h))
  · rename Fr _ _ _ _ => F9
    subst hg
    exact hret .none [] _ _ (.inr ⟨rfl, rfl, take2_no (by assumption) (by assumption), f9, hf9, .inr (.inl (by assumption))⟩) (Mine.Fr.back F F9) (Mine.News.back F F9 N (fun _ h => nomatch h))
  · refine SeqLeaf.intro ⟨?_, _, _, rfl, fun _ _ e => e⟩
    show (!decide _) = !decide _
    congr 1
    exact decide_eq_decide.mpr ⟨fun h => ⟨by assumption, h⟩, fun h => h.2⟩
  · refine SeqLeaf.intro ⟨?_, _, _, rfl, fun _ _ e => e⟩
    unfold fig
    simp_all
  · rename Fr _ _ _ _ => F9
    rename News _ _ _ _ => N9
    refine made_end ((vs8.toArray.push (Value.int (worth q8) t9)).toList, n8 + 1) F9 N9 rfl (fun p h => ?_) (fun p h => ?_) trivial (fun _ h => nomatch h) (fun z hz _ _ => (if_neg hz).trans rfl) ⟨?_, ?_⟩
    · rw [List.mem_singleton.mp h]; exact .head _
    · exact .tail _ h
    · rw [Array.toList_push, take_snoc hi8, List.map_append]
      exact ints_snoc hI8
    · rw [take_snoc hi8]
      intro p hp
      rcases List.mem_append.mp hp with hp | hp
      · exact hG8 p hp
      · rw [List.mem_singleton.mp hp]
        exact ⟨by omega, by omega, bad_none.mp (of_decide_eq_true (by assumption))⟩
  · rename Fr _ _ _ _ => F9
    subst hg
    exact hret .none [] _ _ (.inr ⟨rfl, rfl, take2_no (by assumption) (by assumption), f9, hf9, .inr (.inr ⟨q8, List.mem_of_getElem? hi8, fun h => absurd (bad_none.mpr h.2.2) (of_decide_eq_false (by assumption))⟩)⟩) (Mine.Fr.back F F9) (Mine.News.back F F9 N (fun _ h => nomatch h))
  · rename Fr _ _ _ _ => F9
    subst hg
    exact hret .none [] _ _ (.inr ⟨rfl, rfl, take2_no (by assumption) (by assumption), f9, hf9, .inr (.inr ⟨q8, List.mem_of_getElem? hi8, fun h => by have h1 := h.2.1; omega⟩)⟩) (Mine.Fr.back F F9) (Mine.News.back F F9 N (fun _ h => nomatch h))
  · rename Fr _ _ _ _ => F9
    subst hg
    exact hret .none [] _ _ (.inr ⟨rfl, rfl, take2_no (by assumption) (by assumption), f9, hf9, .inr (.inr ⟨q8, List.mem_of_getElem? hi8, fun h => by have h1 := h.1; omega⟩)⟩) (Mine.Fr.back F F9) (Mine.News.back F F9 N (fun _ h => nomatch h))
  · rename Fr _ _ _ _ => F9
    rename News _ _ _ _ => N9
    subst hg
    rw [List.take_length] at hI8 hG8
    exact hret _ _ _ _ (.inl ⟨_, l9, vs8, _, n8, f9 + 1, _, rfl, hI8, rfl, .inr ⟨take2_no (by assumption) (by assumption), take1_yes (by assumption) (by assumption), f9, hf9, by omega, hG8, rfl, rfl⟩⟩) (Mine.Fr.back F F9) (Mine.News.back F F9 N fun p hp => N9 p hp)
end Mine
end
section
open PySem PySem.W PyProof.Rows PySem.Calls PyProof.V PySem.Spec
namespace Mine
/-- what stands behind the opening bracket -/
def bodyF (r : List Int) : Option (List Int × Int) :=
  if (r.takeWhile (fun c => decide (c ≠ 41))).length < r.length then
    (if ∀ p ∈ splitL (r.takeWhile (fun c => decide (c ≠ 41))), Good p then some ((splitL (r.takeWhile (fun c => decide (c ≠ 41)))).map worth, (r.takeWhile (fun c => decide (c ≠ 41))).length + 2) else none)
  else none
def dueF (ks : List Int) : Option (List Int × Int) :=
  if ks.take 2 = [40, 41] then some ([], 2) else if ks.take 1 = [40] then bodyF (ks.drop 1) else none

theorem bodyF_at {u w : List Int} (h : ∀ c ∈ u, c ≠ 41) : bodyF (u ++ 41 :: w) = if ∀ p ∈ splitL u, Good p then some ((splitL u).map worth, (u.length : Int) + 2) else none := by
  have e : (u ++ 41 :: w).takeWhile (fun c => decide (c ≠ 41)) = u := by
    rw [List.takeWhile_append_of_pos (fun c hc => decide_eq_true (h c hc))]
    simp
  unfold bodyF
  rw [e, if_pos (by simp)]
theorem bodyF_none {r : List Int} (h : ∀ c ∈ r, c ≠ 41) : bodyF r = none := by
  have e : r.takeWhile (fun c => decide (c ≠ 41)) = r := by
    induction r with
    | nil => rfl
    | cons c r ih => rw [List.takeWhile_cons, if_pos (decide_eq_true (h c (.head _))), ih fun x hx => h x (.tail _ hx)]
  unfold bodyF
  rw [e, if_neg (Nat.lt_irrefl _)]
/-- with a closing bracket or without -/
theorem close_cases : ∀ (r : List Int), (∀ c ∈ r, c ≠ 41) ∨ ∃ u w, r = u ++ 41 :: w ∧ ∀ c ∈ u, c ≠ 41
  | [] => .inl fun _ h => nomatch h
  | c :: r => by
    by_cases hc : c = 41
    · exact .inr ⟨[], r, by rw [hc]; rfl, fun _ h => nomatch h⟩
    · rcases close_cases r with h | ⟨u, w, rfl, h⟩
      · exact .inl fun x hx => by
          rcases List.mem_cons.mp hx with rfl | hx
          · exact hc
          · exact h x hx
      · exact .inr ⟨c :: u, w, rfl, fun x hx => by
          rcases List.mem_cons.mp hx with rfl | hx
          · exact hc
          · exact h x hx⟩

theorem fig_ne {c : Int} (h : fig c = true) : c ≠ 32 ∧ c ≠ 41 := by
  have := of_decide_eq_true h
  constructor <;> omega
theorem split_blank : ∀ {d : List Int} (t : List Int), (∀ c ∈ d, c ≠ 32) → splitL (d ++ 32 :: t) = d :: splitL t
  | [], t, _ => by simp [splitL]
  | c :: d, t, h => by
    have ih := split_blank t fun x hx => h x (.tail _ hx)
    simp only [List.cons_append, splitL, if_neg (h c (.head _)), ih]
theorem split_one : ∀ {d : List Int}, (∀ c ∈ d, c ≠ 32) → splitL d = [d]
  | [], _ => rfl
  | c :: d, h => by
    unfold splitL
    rw [if_neg (h c (.head _)), split_one fun x hx => h x (.tail _ hx)]
theorem split_bad : ∀ {d : List Int} {c : Int} (t : List Int), (∀ c ∈ d, c ≠ 32) → c ≠ 32 → ∃ q ps, splitL (d ++ c :: t) = (d ++ c :: q) :: ps
  | [], c, t, _, hc => by
    rw [List.nil_append]
    unfold splitL
    rw [if_neg hc]
    have hne := splitL_ne t
    revert hne
    cases splitL t with
    | nil => intro h; exact absurd rfl h
    | cons q ps => intro _; exact ⟨q, ps, rfl⟩
  | x :: d, c, t, h, hc => by
    obtain ⟨q, ps, e⟩ := split_bad t (fun y hy => h y (.tail _ hy)) hc
    refine ⟨q, ps, ?_⟩
    rw [List.cons_append]
    unfold splitL
    rw [if_neg (h x (.head _)), e]
    rfl
/-- the first part, when it is all figures, is what the reader reads -/
theorem split_first : ∀ {u p : List Int} {ps : List (List Int)}, splitL u = p :: ps → (∀ c ∈ p, fig c = true) → u.takeWhile fig = p
  | [], p, ps, h, _ => by
    simp only [splitL] at h
    rw [← (List.cons.inj h).1]
    rfl
  | c :: r, p, ps, h, hp => by
    unfold splitL at h
    split at h
    · rename_i hc
      rw [← (List.cons.inj h).1, hc]
      rfl
    · have hne := splitL_ne r
      revert h hne
      cases hr : splitL r with
      | nil => intro _ h; exact absurd rfl h
      | cons q qs =>
        intro h _
        have e := (List.cons.inj h).1
        subst e
        rw [List.takeWhile_cons, if_pos (hp c (.head _)), split_first hr fun x hx => hp x (.tail _ hx)]
theorem first_bad {u : List Int} (h : ¬ (1 ≤ (u.takeWhile fig).length ∧ (u.takeWhile fig).length ≤ 19)) : ∃ p ∈ splitL u, ¬ Good p := by
  have hne := splitL_ne u
  revert hne
  cases hs : splitL u with
  | nil => intro h; exact absurd rfl h
  | cons p ps =>
    intro _
    refine ⟨p, .head _, fun hg => ?_⟩
    rw [split_first hs hg.2.2] at h
    exact h ⟨hg.1, hg.2.1⟩
theorem while_close {u w : List Int} (h : ∀ c ∈ u, c ≠ 41) : (u ++ 41 :: w).takeWhile fig = u.takeWhile fig := by
  induction u with
  | nil => rfl
  | cons c u ih =>
    rw [List.cons_append, List.takeWhile_cons, List.takeWhile_cons, ih fun x hx => h x (.tail _ hx)]
theorem bodyF_bad {u w : List Int} (h : ∀ c ∈ u, c ≠ 41) (hb : ∃ p ∈ splitL u, ¬ Good p) : bodyF (u ++ 41 :: w) = none := by
  rw [bodyF_at h, if_neg]
  obtain ⟨p, hp, hg⟩ := hb
  exact fun hall => hg (hall p hp)

/-- what the reader has read -/
structure Read (ks : List Int) (j : Int) (ns : List Int) (pre rest : List Int) (parts : List (List Int)) : Prop where
  all : ks = 40 :: (pre ++ rest)
  at_ : j = pre.length + 1
  noc : ∀ c ∈ pre, c ≠ 41
  some_ : pre ≠ []
  good : ∀ p ∈ parts, Good p
  worths : ns = parts.map worth
  split : splitL pre = parts
  blank : ∀ t, splitL (pre ++ 32 :: t) = parts ++ splitL t
  bad : ∀ c t, c ≠ 32 → fig c = false → ∃ p ∈ splitL (pre ++ c :: t), ¬ Good p
  next : ∀ c t, rest = c :: t → fig c = false

theorem takeWhile_mem {l : List Int} {c : Int} (h : c ∈ l.takeWhile fig) : fig c = true := by
  induction l with
  | nil => cases h
  | cons x l ih =>
    rw [List.takeWhile_cons] at h
    split at h
    · rcases List.mem_cons.mp h with rfl | h
      · assumption
      · exact ih h
    · cases h
theorem dropWhile_next {l : List Int} {c : Int} {t : List Int} (h : l.dropWhile fig = c :: t) : fig c = false := by
  induction l with
  | nil => cases h
  | cons x l ih =>
    rw [List.dropWhile_cons] at h
    split at h
    · exact ih h
    · rename_i hx
      rw [← (List.cons.inj h).1]
      exact Bool.eq_false_iff.mpr hx

theorem got_read {ks : List Int} {j : Int} {ns : List Int} (h : Got ks j ns) : ∃ pre rest parts, Read ks j ns pre rest parts := by
  induction h with
  | one h0 h1 h2 h3 =>
    obtain _ | ⟨a, r⟩ := ks
    · cases h0
    have ha : a = 40 := by simpa using h0
    subst ha
    have ed : dgl (40 :: r) 1 = r.takeWhile fig := rfl
    rw [ed] at h2 h3 ⊢
    have hf : ∀ c ∈ r.takeWhile fig, fig c = true := fun c hc => takeWhile_mem hc
    have hb : ∀ c ∈ r.takeWhile fig, c ≠ 32 := fun c hc => (fig_ne (hf c hc)).1
    refine ⟨r.takeWhile fig, r.dropWhile fig, [r.takeWhile fig], ⟨?_, ?_, ?_, ?_, ?_, rfl, split_one hb, fun t => split_blank t hb, ?_, fun c t h => dropWhile_next h⟩⟩
    · rw [List.takeWhile_append_dropWhile]
    · omega
    · exact fun c hc => (fig_ne (hf c hc)).2
    · intro e; rw [e] at h2; exact absurd h2 (by simp)
    · intro p hp
      rw [List.mem_singleton.mp hp]
      exact ⟨h2, h3, hf⟩
    · intro c t hc hfc
      obtain ⟨q, ps, e⟩ := split_bad t hb hc
      refine ⟨_, by rw [e]; exact .head _, fun hg => ?_⟩
      have := hg.2.2 c (by simp)
      rw [hfc] at this
      cases this
  | @more i ns g h1 h2 h3 h4 ih =>
    obtain ⟨pre, rest, parts, R⟩ := ih
    have hi : i.toNat = pre.length + 1 := by have := R.at_; omega
    have hr : rest[0]? = some 32 := by
      rw [hi, R.all, List.getElem?_cons_succ, List.getElem?_append_right (Nat.le_refl _), Nat.sub_self] at h2
      exact h2
    obtain _ | ⟨a, r⟩ := rest
    · cases hr
    have ha : a = 32 := by simpa using hr
    subst ha
    have ed : dgl ks (i + 1) = r.takeWhile fig := by
      show (ks.drop (i + 1).toNat).takeWhile fig = _
      rw [show (i + 1).toNat = pre.length + 2 from by omega, R.all]
      congr 1
      rw [show pre.length + 2 = (pre.length + 1) + 1 from rfl, List.drop_succ_cons, List.drop_append, List.drop_of_length_le (by omega), show pre.length + 1 - pre.length = 1 from by omega]
      rfl
    rw [ed] at h3 h4 ⊢
    have hf : ∀ c ∈ r.takeWhile fig, fig c = true := fun c hc => takeWhile_mem hc
    have hb : ∀ c ∈ r.takeWhile fig, c ≠ 32 := fun c hc => (fig_ne (hf c hc)).1
    have ea : ∀ t, (pre ++ 32 :: r.takeWhile fig) ++ t = pre ++ 32 :: (r.takeWhile fig ++ t) := fun t => by simp
    refine ⟨pre ++ 32 :: r.takeWhile fig, r.dropWhile fig, parts ++ [r.takeWhile fig], ⟨?_, ?_, ?_, ?_, ?_, ?_, ?_, ?_, ?_, fun c t h => dropWhile_next h⟩⟩
    · rw [ea, List.takeWhile_append_dropWhile]; exact R.all
    · rw [List.length_append, List.length_cons]
      have := R.at_
      omega
    · intro c hc
      rcases List.mem_append.mp hc with hc | hc
      · exact R.noc c hc
      · rcases List.mem_cons.mp hc with rfl | hc
        · decide
        · exact (fig_ne (hf c hc)).2
    · intro e; exact absurd e (by simp)
    · intro p hp
      rcases List.mem_append.mp hp with hp | hp
      · exact R.good p hp
      · rw [List.mem_singleton.mp hp]
        exact ⟨h3, h4, hf⟩
    · rw [List.map_append, ← R.worths]; rfl
    · rw [R.blank, split_one hb]
    · intro t
      rw [ea, R.blank, split_blank t hb, List.append_assoc]; rfl
    · intro c t hc hfc
      obtain ⟨q, ps, e⟩ := split_bad t hb hc
      rw [ea, R.blank, e]
      refine ⟨_, List.mem_append.mpr (.inr (.head _)), fun hg => ?_⟩
      have := hg.2.2 c (by simp)
      rw [hfc] at this
      cases this

theorem take2_ne {pre rest : List Int} (h : ∀ c ∈ pre, c ≠ 41) (hp : pre ≠ []) : (40 :: (pre ++ rest)).take 2 ≠ [40, 41] := by
  obtain _ | ⟨a, r⟩ := pre
  · exact absurd rfl hp
  intro e
  have : a = 41 := by simpa using e
  exact h a (.head _) this

theorem take1_cons (l : List Int) : List.take 1 (40 :: l) = [40] := rfl
theorem ends_due {ks ns : List Int} {i : Int} (h : Ends ks ns i) : dueF ks = some (ns, i) := by
  rcases h with ⟨h0, h1, rfl, rfl⟩ | ⟨j, hg, h1, rfl⟩
  · unfold dueF
    rw [if_pos]
    obtain _ | ⟨a, _ | ⟨b, r⟩⟩ := ks
    · cases h0
    · cases h1
    · have ha : a = 40 := by simpa using h0
      have hb : b = 41 := by simpa using h1
      rw [ha, hb]; rfl
  · obtain ⟨pre, rest, parts, R⟩ := got_read hg
    have hj : j.toNat = pre.length + 1 := by have := R.at_; omega
    rw [hj, R.all, List.getElem?_cons_succ, List.getElem?_append_right (Nat.le_refl _), Nat.sub_self] at h1
    obtain _ | ⟨a, r⟩ := rest
    · cases h1
    have ha : a = 41 := by simpa using h1
    subst ha
    unfold dueF
    rw [R.all, if_neg (take2_ne R.noc R.some_), if_pos (take1_cons _)]
    show bodyF (pre ++ 41 :: r) = _
    rw [bodyF_at R.noc, R.split, if_pos R.good, ← R.worths]
    have := R.at_
    congr 2
    omega

theorem fails_due {ks : List Int} (h : Fails ks) : dueF ks = none := by
  rcases h with h | ⟨h0, h1, h2⟩ | ⟨j, ns, hg, h1, h2⟩
  · have e1 : ks.take 1 ≠ [40] := by
      intro e
      obtain _ | ⟨a, r⟩ := ks
      · cases e
      · have : a = 40 := by simpa using e
        exact h (by rw [this]; rfl)
    have e2 : ks.take 2 ≠ [40, 41] := by
      intro e
      apply e1
      have := congrArg (List.take 1) e
      rw [List.take_take] at this
      exact this
    unfold dueF
    rw [if_neg e2, if_neg e1]
  · obtain _ | ⟨a, r⟩ := ks
    · cases h0
    have ha : a = 40 := by simpa using h0
    subst ha
    have e2 : (40 :: r).take 2 ≠ [40, 41] := by
      intro e
      apply h1
      obtain _ | ⟨b, r⟩ := r
      · cases e
      · have : b = 41 := by simpa using e
        rw [this]; rfl
    unfold dueF
    rw [if_neg e2, if_pos (take1_cons _)]
    show bodyF r = none
    have ed : dgl (40 :: r) 1 = r.takeWhile fig := rfl
    rw [ed] at h2
    rcases close_cases r with hn | ⟨u, w, rfl, hu⟩
    · exact bodyF_none hn
    · rw [while_close hu] at h2
      exact bodyF_bad hu (first_bad h2)
  · obtain ⟨pre, rest, parts, R⟩ := got_read hg
    have hj : j.toNat = pre.length + 1 := by have := R.at_; omega
    have hat : ks[j.toNat]? = rest[0]? := by rw [hj, R.all, List.getElem?_cons_succ, List.getElem?_append_right (Nat.le_refl _), Nat.sub_self]
    unfold dueF
    rw [R.all, if_neg (take2_ne R.noc R.some_), if_pos (take1_cons _)]
    show bodyF (pre ++ rest) = none
    rw [hat] at h1 h2
    rcases close_cases rest with hn | ⟨u, w, hr, hu⟩
    · refine bodyF_none fun c hc => ?_
      rcases List.mem_append.mp hc with hc | hc
      · exact R.noc c hc
      · exact hn c hc
    · obtain _ | ⟨a, u⟩ := u
      · rw [hr] at h1; exact absurd rfl h1
      have hall : ∀ c ∈ pre ++ a :: u, c ≠ 41 := fun c hc => by
        rcases List.mem_append.mp hc with hc | hc
        · exact R.noc c hc
        · exact hu c hc
      rw [hr, ← List.append_assoc]
      refine bodyF_bad hall ?_
      by_cases ha : a = 32
      · subst ha
        rw [R.blank]
        rcases h2 with h2 | h2
        · exact absurd (by rw [hr]; rfl) h2
        · have ed : dgl ks (j + 1) = (u ++ 41 :: w).takeWhile fig := by
            show (ks.drop (j + 1).toNat).takeWhile fig = _
            rw [show (j + 1).toNat = (pre.length + 1) + 1 from by omega, R.all, hr, List.drop_succ_cons]
            congr 1
            rw [List.drop_append, List.drop_of_length_le (by omega), show pre.length + 1 - pre.length = 1 from by omega]
            rfl
          rw [ed, while_close fun c hc => hu c (.tail _ hc)] at h2
          obtain ⟨p, hp, hg⟩ := first_bad h2
          exact ⟨p, List.mem_append.mpr (.inr hp), hg⟩
      · exact R.bad a u ha (R.next a (u ++ 41 :: w) hr)

theorem inner_eq {r : List Int} {k : Nat} (hk : k + 1 < (40 :: r).length) : inner (40 :: r) ((k : Int) + 1) = r.take k := by
  have hk' : k < r.length := by simpa using hk
  unfold inner
  have e1 : clipAt (40 :: r).length ((k : Int) + 1) = k + 1 := by rw [clip_in (by omega) (by rw [List.length_cons]; omega)]; omega
  have e2 : clipAt (40 :: r).length 1 = 1 := by rw [clip_in (by omega) (by rw [List.length_cons]; omega)]; rfl
  rw [e1, e2]
  rfl
/-- the body as the due reader sees it -/
theorem found_body {r : List Int} {f : Int} (h : FoundIn (40 :: r) f) (hf : 0 ≤ f) : ∃ u w, r = u ++ 41 :: w ∧ (∀ c ∈ u, c ≠ 41) ∧ f = u.length + 1 ∧ inner (40 :: r) f = u := by
  rcases h with ⟨rfl, _⟩ | ⟨i, rfl, h1, h2⟩
  · exact absurd hf (by decide)
  obtain _ | k := i
  · cases h1
  have hk : r[k]? = some 41 := h1
  obtain ⟨hlt, hg⟩ := List.getElem?_eq_some_iff.mp hk
  refine ⟨r.take k, r.drop (k + 1), ?_, ?_, ?_, ?_⟩
  · rw [← hg, List.getElem_cons_drop, List.take_append_drop]
  · intro c hc e
    subst e
    obtain ⟨m, hm, hmg⟩ := List.mem_take_iff_getElem.mp hc
    refine h2 (m + 1) (by omega) ?_
    rw [List.getElem?_cons_succ, List.getElem?_eq_getElem (by omega), hmg]
  · rw [List.length_take]; omega
  · exact inner_eq (by simpa using hlt)
theorem dueOk_due {ks ns : List Int} {i : Int} (h : DueOk ks ns i) : dueF ks = some (ns, i) := by
  rcases h with ⟨h0, rfl, rfl⟩ | ⟨h0, h1, f, hf, hp, hg, rfl, rfl⟩
  · unfold dueF; rw [if_pos h0]
  · obtain _ | ⟨a, r⟩ := ks
    · cases h1
    have ha : a = 40 := by simpa using h1
    subst ha
    obtain ⟨u, w, rfl, hu, rfl, hi⟩ := found_body hf hp
    unfold dueF
    rw [if_neg h0, if_pos h1]
    show bodyF (u ++ 41 :: w) = _
    rw [hi] at hg ⊢
    rw [bodyF_at hu, if_pos hg]
    exact congrArg some (Prod.ext rfl (by show (u.length : Int) + 2 = u.length + 1 + 1; omega))
theorem dueNo_due {ks : List Int} (h : DueNo ks) : dueF ks = none := by
  obtain ⟨h0, f, hf, h⟩ := h
  unfold dueF
  rw [if_neg h0]
  by_cases h1 : ks.take 1 = [40]
  · rw [if_pos h1]
    obtain _ | ⟨a, r⟩ := ks
    · cases h1
    have ha : a = 40 := by simpa using h1
    subst ha
    show bodyF r = none
    by_cases hp : 0 ≤ f
    · obtain ⟨u, w, rfl, hu, rfl, hi⟩ := found_body hf hp
      rcases h with h | h | h
      · exact absurd h1 h
      · omega
      · rw [hi] at h; exact bodyF_bad hu h
    · rcases hf with ⟨rfl, hn⟩ | ⟨i, rfl, _, _⟩
      · refine bodyF_none fun c hc e => ?_
        subst e
        obtain ⟨m, hm, hmg⟩ := List.mem_iff_getElem.mp hc
        exact hn (m + 1) (by rw [List.getElem?_cons_succ, List.getElem?_eq_getElem hm, hmg])
      · omega
  · rw [if_neg h1]
end Mine
end
section
open PySem PySem.W PyProof.Rows PySem.Calls PyProof.V PySem.Spec
namespace Mine
theorem worth_from : ∀ (p : List Int) (a : Int), 0 ≤ a → (∀ c ∈ p, fig c = true) → a * 10 ^ p.length ≤ p.foldl (fun n c => n * 10 + c - 48) a ∧ p.foldl (fun n c => n * 10 + c - 48) a < (a + 1) * 10 ^ p.length
  | [], a, h, _ => by simp only [List.length_nil, Int.pow_zero, List.foldl_nil]; omega
  | c :: r, a, h, hf => by
    have hc := of_decide_eq_true (hf c (.head _))
    have ih := worth_from r (a * 10 + c - 48) (by omega) fun x hx => hf x (.tail _ hx)
    rw [List.foldl_cons, List.length_cons]
    have hp : (0 : Int) ≤ 10 ^ r.length := Int.le_of_lt (Int.pow_pos (by decide))
    have e1 : a * 10 ^ (r.length + 1) = (a * 10) * 10 ^ r.length := by rw [Int.pow_succ, Int.mul_assoc, Int.mul_comm 10]
    have e2 : (a + 1) * 10 ^ (r.length + 1) = (a * 10 + 10) * 10 ^ r.length := by rw [Int.pow_succ, Int.mul_comm _ 10, ← Int.mul_assoc, Int.add_mul]; simp
    have h1 : (a * 10) * 10 ^ r.length ≤ (a * 10 + c - 48) * 10 ^ r.length := Int.mul_le_mul_of_nonneg_right (by omega) hp
    have h2 : (a * 10 + c - 48 + 1) * 10 ^ r.length ≤ (a * 10 + 10) * 10 ^ r.length := Int.mul_le_mul_of_nonneg_right (by omega) hp
    rw [e1, e2]
    omega
theorem worth_range {p : List Int} (h : Good p) : 0 ≤ worth p ∧ worth p < 10 ^ 19 := by
  have h1 := worth_from p 0 (by decide) h.2.2
  have h2 : (10 : Int) ^ p.length ≤ 10 ^ 19 := by
    have := Nat.pow_le_pow_right (n := 10) (by decide) h.2.1
    have h3 : ((10 ^ p.length : Nat) : Int) ≤ ((10 ^ 19 : Nat) : Int) := Int.ofNat_le.mpr this
    simpa using h3
  unfold worth
  constructor
  · have := h1.1; simpa using this
  · have := h1.2; rw [show (0 : Int) + 1 = 1 from rfl, Int.one_mul] at this; exact Int.lt_of_lt_of_le this h2
theorem due_range {ks ns : List Int} {i : Int} (h : dueF ks = some (ns, i)) : ∀ n ∈ ns, 0 ≤ n ∧ n < 10 ^ 19 := by
  unfold dueF at h
  split at h
  · cases h; exact fun _ h => nomatch h
  · split at h
    · unfold bodyF at h
      split at h
      · split at h
        · rename_i hg
          cases h
          intro n hn
          obtain ⟨p, hp, rfl⟩ := List.mem_map.mp hn
          exact worth_range (hg p hp)
        · cases h
      · cases h
    · cases h
theorem due_len {ks ns : List Int} {i : Int} (h : dueF ks = some (ns, i)) : ns.length ≤ ks.length + 1 := by
  unfold dueF at h
  split at h
  · cases h; simp
  · split at h
    · unfold bodyF at h
      split at h
      · split at h
        · cases h
          rw [List.length_map]
          have h1 := splitL_len ((ks.drop 1).takeWhile (fun c => decide (c ≠ 41)))
          have h2 := (List.takeWhile_sublist (l := ks.drop 1) (fun c => decide (c ≠ 41))).length_le
          rw [List.length_drop] at h2
          omega
        · cases h
      · cases h
    · cases h
/-- what either reader gives -/
def Res (ks : List Int) (r : Value) (more : List (Addr × Obj)) : Prop :=
  (∃ tp l vs ns k i ti, r = .ref tp ∧ IntsAre vs ns ∧ more = [(tp, tupObj [.ref l, .int i ti]), (l, listOf vs.toArray k)] ∧ dueF ks = some (ns, i)) ∨ (r = .none ∧ more = [] ∧ dueF ks = none)
theorem ConL.mono {w : World} {mean : ExcName → Option Value} {mg mb : Str → Option Value} {deep : Nat} {f : Addr} {vs : List Value} {Ok Ok' : Value → List (Addr × Obj) → Prop} (C : ConL w mean mg mb deep f vs Ok) (h : ∀ v more, Ok v more → Ok' v more) : ConL w mean mg mb deep f vs Ok' := by
  unfold ConL at C ⊢
  intro dp un gd cn cs a ccd cl h₀ L m s Q E news F X N T hk hd hu hret
  exact C dp un gd cn cs a ccd cl h₀ L m s Q E news F X N T hk hd hu fun v more h' tk' ho => hret v more h' tk' (h v more ho)
theorem heard_res (w : World) (mean : ExcName → Option Value) (mg mb : Str → Option Value) (b : Array UInt8) (t : Tok) (ks : List Int) (hks : KBw.bInts b = ks) (hsz : ks.length ≤ 1000000) : ConL w mean mg mb 11 378 [.bytes b t] (Res ks) :=
  (heard_con w mean mg mb b t ks hks hsz).mono fun v more h => by
    rcases h with ⟨tp, l, vs, ns, k, i, ti, h1, h2, h3, h4⟩ | ⟨h1, h2, h3⟩
    · exact .inl ⟨tp, l, vs, ns, k, i, ti, h1, h2, h3, ends_due h4⟩
    · exact .inr ⟨h1, h2, fails_due h3⟩
theorem due_res (w : World) (mean : ExcName → Option Value) (mg mb : Str → Option Value) (b : Array UInt8) (t : Tok) (ks : List Int) (hks : KBw.bInts b = ks) (hsz : ks.length ≤ 1000000) : ConL w mean mg mb 11 371 [.bytes b t] (Res ks) :=
  (due_con w mean mg mb b t ks hks hsz).mono fun v more h => by
    rcases h with ⟨tp, l, vs, ns, k, i, ti, h1, h2, h3, h4⟩ | ⟨h1, h2, h3⟩
    · exact .inl ⟨tp, l, vs, ns, k, i, ti, h1, h2, h3, dueOk_due h4⟩
    · exact .inr ⟨h1, h2, dueNo_due h3⟩
theorem ConL.use {w : World} {mean : ExcName → Option Value} {mg mb : Str → Option Value} {deep : Nat} {f : Addr} {vs : List Value} {Ok : Value → List (Addr × Obj) → Prop} (C : ConL w mean mg mb deep f vs Ok)
    {dp un : Nat} {gd : Option (List Code)} {cn : Str} {cs : Scope} {a : Addr} {ccd : Value} {cl : List (Str × Addr)} {h₀ : Heap} {L : Addr} {m : Str → Option Value} {s : Shared} {Q E : Value → Shared → Prop} {news : List (Addr × Obj)}
    (F : Fr h₀ L s.heap m) (X : (Mine.hd.heap_39 w.params).In h₀) (N : News h₀ L s.heap news) (T : Top Mine.view (looseW Mine.view [Str.ofString "PostError"]) mean mg mb h₀) (hk : cs.kind = .function)
    (hd : dp + deep < recursionLimit) (hu : un + 8 * deep < cLine)
    (ret : ∀ v more h' tk', Ok v more → Fr h₀ L h' m → News h₀ L h' (more ++ news) → Q v { s with heap := h', toks := tk' }) :
    wpAny (model PySem.Challenge.rw_or0053_01.row.prog w) (ktrTop dp un gd cn cs L a ccd cl []) (call (.ref f) vs) Q E s :=
  wpAny_call (C dp un gd cn cs a ccd cl h₀ L m s Q E news F X N T hk hd hu ret)
end Mine
end
section
open PySem PySem.W PyProof.Rows PySem.Calls PyProof.V PySem.Spec PySem.SeqAt
namespace Mine
def pairD (ns : List Int) (i : Int) : PyData := .tuple [.list (ns.map PyData.int), .int i]
theorem shaped_pair (ns : List Int) (i : Int) : shaped (pairD ns i) = true := by
  have h0 := PyProof.Rows.depthAll_ints ns
  have h1 : PyData.depth (pairD ns i) ≤ 64 := by
    simp only [pairD, PyData.depth, PyData.depthAll]
    omega
  show (PyData.canLay0 (pairD ns i) && decide (PyData.depth (pairD ns i) ≤ 64)) = true
  rw [Bool.and_eq_true]
  refine ⟨?_, decide_eq_true h1⟩
  simp [pairD, PyData.canLay0, PyData.canLayAll0, canLayAll0_ints ns]
section
variable {prog : Program} {w : World} {A : Around} {E : Value → Shared → Prop} {s : Shared} {h₀ : Heap} {L : Addr} {news : List (Addr × Obj)} {Q : Value → Shared → Prop}
theorem reads_pair {tp l : Addr} {vs : List Value} {ns : List Int} {i : Int} {ti : Tok} {k : Nat} (N : News h₀ L s.heap news) (h1 : (tp, tupObj [.ref l, .int i ti]) ∈ news) (h2 : (l, listOf vs.toArray k) ∈ news) (hI : IntsAre vs ns) :
    ∃ as, Reads s.heap (.ref tp) (pairD ns i) as :=
  ⟨_, .tuple (N _ h1).1 rfl rfl (.cons (reads_of_ints ⟨_, (N _ h2).1, rfl, k, rfl⟩ hI) (.cons (.int i ti) .nil))⟩
theorem ne_pair {tp l tq l' : Addr} {vs us : List Value} {ns ms : List Int} {i j : Int} {ti tj : Tok} {k k' : Nat} (N : News h₀ L s.heap news) (h1 : (tp, tupObj [.ref l, .int i ti]) ∈ news) (h2 : (l, listOf vs.toArray k) ∈ news) (hI : IntsAre vs ns)
    (h3 : (tq, tupObj [.ref l', .int j tj]) ∈ news) (h4 : (l', listOf us.toArray k') ∈ news) (hI' : IntsAre us ms) (hu : A.units + 64 < cLine) (e : some (ns, i) = some (ms, j)) (h : Q (.bool false) s) :
    wpAny (model prog w) A (compareOp .NotEq (.ref tp) (.ref tq)) Q E s := by
  cases e
  obtain ⟨as, ra⟩ := reads_pair N h1 h2 hI
  obtain ⟨bs, rb⟩ := reads_pair N h3 h4 hI'
  refine ne_dataH_same ra rb (shaped_pair _ _) (shaped_pair _ _) hu ?_ ?_
  · simp [pairD, noMix, noMixAll, noMix_ints]
  · have : PySem.Spec.same (pairD ns i) (pairD ns i) = true := by
      simp [pairD, PySem.Spec.same, PySem.Spec.sameAll, same_ints]
    rw [this]
    exact h
end
end Mine
end
section
open PySem PySem.W PyProof.Rows PySem.Calls PyProof.V PySem.Spec
namespace Mine
open Builtin
theorem take_eq {id : String} {b : Array UInt8} {t : Tok} : Bytes.takeBufferQuiet? id (.bytes b t) 0 = pure (some (b, none)) := by
  unfold Bytes.takeBufferQuiet? Bytes.takeBuffer?
  have hb : Bytes.buffer? id (.bytes b t) ((0 : Int) == Bytes.fullReadOnly) = pure (some b) := by
    rw [show ((0 : Int) == Bytes.fullReadOnly) = false from by decide +kernel]
    exact KBy.buffer_eq
  rw [KBy.special_eq KBy.look_buffer, KBy.own_buffer, hb]
  kernel_rfl
theorem join_size : ∀ (ps : List (Array UInt8)) (k : Nat) (out : Array UInt8), (∀ p ∈ ps, p.size ≤ 20) →
    ((ps.zipIdx k).foldl (fun (out : Array UInt8) (x : Array UInt8 × Nat) => (if x.2 > 0 then out ++ (#[] : Array UInt8) else out) ++ x.1) out).size ≤ out.size + 20 * ps.length
  | [], k, out, h => by simp
  | p :: r, k, out, h => by
    rw [List.zipIdx_cons, List.foldl_cons]
    refine Nat.le_trans (join_size r (k + 1) _ fun q hq => h q (.tail _ hq)) ?_
    have h1 := h p (.head _)
    have h2 : (if k > 0 then out ++ (#[] : Array UInt8) else out).size = out.size := by split <;> simp
    rw [Array.size_append, List.length_cons]
    show (if k > 0 then out ++ (#[] : Array UInt8) else out).size + p.size + _ ≤ _
    rw [h2]
    omega
theorem joined_size (ps : List (Array UInt8)) (h : ∀ p ∈ ps, p.size ≤ 20) : (Bytes.joined #[] ps).size ≤ 20 * ps.length := by
  have := join_size ps 0 #[] h
  unfold Bytes.joined
  simpa using this
theorem sum_size : ∀ (ps : List (Array UInt8)) (a : Nat), (∀ p ∈ ps, p.size ≤ 20) → ps.foldl (fun (a : Nat) (p : Array UInt8) => a + p.size) a ≤ a + 20 * ps.length
  | [], a, h => by simp
  | p :: r, a, h => by
    rw [List.foldl_cons]
    refine Nat.le_trans (sum_size r _ fun q hq => h q (.tail _ hq)) ?_
    have h1 := h p (.head _)
    rw [List.length_cons]
    omega

/-- some bytes, not many -/
def Small (y : Value) : Prop := ∃ b t, y = .bytes b t ∧ b.size ≤ 20

section
variable {M : Model} {A : Around} {E : Value → Shared → Prop}
theorem let_go : ∀ (taken : List (Value × Option Value)) (keep : List Value) (s : Shared) (Q : Unit → Shared → Prop), (∀ q ∈ taken, q.2 = none) → Q () s → wpAny M A (Bytes.joinLetGo taken keep) Q E s
  | [], keep, s, Q, h, hq => wpAny_pure hq
  | (x, w) :: r, keep, s, Q, h, hq => by
    have e : w = none := h _ (.head _)
    subst e
    unfold Bytes.joinLetGo
    refine wpAny_bind ?_
    refine wpAny_letGo ?_
    exact let_go r keep s Q (fun q hq => h q (.tail _ hq)) hq
end

theorem one_match {α : Type} (zs : List Value) (f : Value → α) (d : Array Value → α) : Bytes.joinM.match_1 (fun _ => α) zs.toArray f d = match zs with
    | [x] => f x
    | _ => d zs.toArray := by
  rcases zs with _ | ⟨x, _ | ⟨y, r⟩⟩ <;> rfl

theorem meets_join (l : Addr) (ys : List Value) (n : Nat) (t : Tok) (hy : ∀ y ∈ ys, Small y) (hn : ys.length ≤ 1000) :
    Meets («bytes.join» ⟨[.bytes #[] t, .ref l], []⟩) (fun _ R s => s.heap.get? l = some (listOf ys.toArray n) ∧ ∀ b t' k, b.size ≤ 20 * ys.length → R (.ok (.ret (.bytes b t'))) { s with toks := k }) := by
  refine .of_wp fun prog w A R s h => ?_
  obtain ⟨hl, h⟩ := h
  have hls : s.heap.IsList l ys.toArray := ⟨_, hl, rfl, n, rfl⟩
  show wpAny _ _ (Bytes.joinM .bytes ⟨[.bytes #[] t, .ref l], []⟩) _ _ s
  unfold Bytes.joinM
  refine wpAny_bind (wpAny_of_eq (a := (.bytes #[] t, .ref l)) rfl ?_)
  refine wpAny_bind ?_
  have hj : wpAny (model prog w) A.in1 (Bytes.joinItems (.ref l)) (fun v s' => v = .ref l ∧ s' = s) (fun e s' => R (.error e) s') s := by
    unfold Bytes.joinItems
    exact wpAny_bind (wpAny_typeOf hls.typeIs (wpAny_pure ⟨rfl, rfl⟩))
  refine wpAny_mono hj (fun v s' hv => ?_) fun _ _ e => e
  obtain ⟨rfl, rfl⟩ := hv
  refine wpAny_bind (wpAny_seqItems hl rfl ?_)
  dsimp only
  rw [if_pos (by decide)]
  rw [one_match]
  split
  · rename_i ys0 x
    obtain ⟨b, u, rfl, hb⟩ := hy x (.head _)
    refine wpAny_bind (wpAny_typeOf (typeIs_bytes _ _ _) ?_)
    refine wpAny_bind (wpAny_rule (wpAny_pure ⟨_, rfl, ?_⟩))
    exact h b u _ (by simpa using hb)
  · refine wpAny_bind ?_
    rw [Std.Legacy.Range.forIn_eq_forIn_range']
    refine wpAny_forIn_list _ (fun rest b s₂ => s₂ = s' ∧ ∃ i ps, rest = List.range' i (ys.length - i) ∧ i ≤ ys.length ∧ b.1 = ps.toArray ∧ ps.length = i ∧ (∀ p ∈ ps, p.size ≤ 20) ∧ (∀ q ∈ b.2, q.1.onHeap = false ∧ q.2 = none)) _ ?_ ?_ _ _ ⟨rfl, 0, [], ?_, Nat.zero_le _, rfl, rfl, (fun _ h => nomatch h), (fun _ h => nomatch h)⟩
    · rintro i rest ⟨pa, ta⟩ s₂ ⟨rfl, j, ps, hr, hj, hpa, hpl, hps, hta⟩
      dsimp only at hpa hta ⊢
      have hjl : j < ys.length := by
        rcases Nat.lt_or_ge j ys.length with h1 | h1
        · exact h1
        · rw [show ys.length - j = 0 from by omega] at hr; cases hr
      rw [show ys.length - j = (ys.length - (j + 1)) + 1 from by omega, List.range'_succ] at hr
      obtain ⟨hij, hrest⟩ := List.cons.inj hr
      subst hij
      refine wpAny_bind (wpAny_seqItems hl rfl ?_)
      dsimp only
      have hc : ¬ ((Bytes.Kind.bytes == Bytes.Kind.bytearray || ta.any fun x => x.fst.onHeap) = true) := by
        rw [show (Bytes.Kind.bytes == Bytes.Kind.bytearray) = false from by decide, Bool.false_or, List.any_eq_true]
        rintro ⟨q, hq, hq2⟩
        rw [(hta q hq).1] at hq2
        cases hq2
      rw [if_neg hc]
      have hx : ys.toArray.getD i Value.none = ys[i] := by simp [hjl]
      obtain ⟨b, u, e, hb⟩ := hy ys[i] (List.getElem_mem hjl)
      rw [hx, e]
      refine wpAny_bind (wpAny_holding (wpAny_of_eq take_eq ?_))
      dsimp only
      refine wpAny_bind (wpAny_seqItems hl rfl ?_)
      dsimp only
      rw [if_neg (by simp)]
      refine wpAny_pure ⟨rfl, i + 1, ps ++ [b], hrest, by omega, ?_, ?_, ?_, ?_⟩
      · show pa.push b = _
        rw [hpa]; simp
      · rw [List.length_append, List.length_singleton, hpl]
      · intro p hp
        rcases List.mem_append.mp hp with hp | hp
        · exact hps p hp
        · rw [List.mem_singleton.mp hp]; exact hb
      · intro q hq
        rcases List.mem_append.mp hq with hq | hq
        · exact hta q hq
        · rw [List.mem_singleton.mp hq]; exact ⟨rfl, rfl⟩
    · rintro ⟨pa, ta⟩ s₂ ⟨rfl, j, ps, hr, hj, hpa, hpl, hps, hta⟩
      dsimp only at hpa hta ⊢
      have hl1 : ps.length ≤ 1000 := by omega
      have hs1 := sum_size ps 0 hps
      have hs2 := joined_size ps hps
      have hz := sizeLine_eq
      refine wpAny_bind (wpAny_of_eq (a := #[]) rfl ?_)
      have ht : ¬ (Bytes.tooLong (pa.foldl (fun x1 x2 => x1 + x2.size) ((#[] : Array UInt8).size * (pa.size - 1))) = true) := by
        rw [hpa, List.foldl_toArray, show (#[] : Array UInt8).size * (ps.toArray.size - 1) = 0 from by simp, KBy.tooLong_not (by omega)]
        simp
      rw [if_neg ht]
      refine wpAny_bind (wpAny_mkBytes ?_ ?_)
      · refine wpAny_bind (wpAny_holding (wpAny_point ?_))
        refine wpAny_bind (let_go _ _ _ _ (fun q hq => (hta q hq).2) ?_)
        refine wpAny_pure ⟨_, rfl, h _ _ _ ?_⟩
        rw [hpa, List.toList_toArray]
        have : ps.length ≤ ys.length := by omega
        omega
      · rw [hpa, List.toList_toArray]
        omega
    · simp [Std.Legacy.Range.size]

section
variable {prog : Program} {w : World} {A : Around} {E : Value → Shared → Prop} {s : Shared} {h₀ : Heap} {L : Addr} {m : Str → Option Value} {news : List (Addr × Obj)} {Q : Value → Shared → Prop} {t : Tok}
theorem join_K {l : Addr} {ys : List Value} {n : Nat} (N : News h₀ L s.heap news) (hl : (l, listOf ys.toArray n) ∈ news) (hy : ∀ y ∈ ys, Small y) (hn : ys.length ≤ 1000)
    (h : ∀ b t' k, b.size ≤ 20 * ys.length → Q (.bytes b t') { s with toks := k }) : wpAny (model prog w) A (call (.builtin "bytes.join") [.bytes #[] t, .ref l]) Q E s :=
  call_meets slot_join (typeIs_bytes _ _ _) entry_join (args_join _ _) (meets_join l ys n t hy hn) ⟨(N _ hl).1, h⟩
/-- an item of a made list -/
theorem item_small {value slice : PySem.Expr} {l : Addr} {ys : List Value} {n : Nat} {k : Int} {u : Tok} (N : News h₀ L s.heap news) (hl : (l, listOf ys.toArray n) ∈ news) (hy : ∀ y ∈ ys, Small y)
    (h0 : 0 ≤ k) (h1 : k < ys.length) (hfit : k < 2 ^ 63) (h : ∀ y, Small y → Q y s)
    (hs : subscripted slice false (.ref l) (.int k u) = operate [.ref l, .int k u] (getItem (.ref l) (.int k u)) := by with_unfolding_all rfl) :
    wpAny (model prog w) A (subscriptTail value slice (.ref l) (.int k u)) Q E s := by
  have hls : s.heap.IsList l ys.toArray := ⟨_, (N _ hl).1, rfl, n, rfl⟩
  have hx : ys[k.toNat]? = some ys[k.toNat] := List.getElem?_eq_getElem (by omega)
  exact tail_any hls.typeIs slot_list_getitem.lookup (wpAny_getItem_list hls h0 hfit (by rw [List.getElem?_toArray]; exact hx) (h _ (hy _ (List.getElem_mem _)))) hs
end
/-- the rest of a comprehension over ints whose element is some bytes -/
theorem pick_rest {prog : Program} {w : World} {A : Around} {h₀ : Heap} {L : Addr} {m : Str → Option Value} {env : Env} {elt : Expr} {x : Str} {scope : Scope} {cl : List (Str × Addr)} {s : Shared} {S : List (Addr × Obj) → Prop} {Fin : List Value → List (Addr × Obj) → Prop} {news : List (Addr × Obj)}
    {vs : List Value} {ns : List Int} (hi : IntsAre vs ns) (hS : S news)
    (turn : ∀ k t I oI C oC D m₂ ys h tk (E' : Value → Shared → Prop), LCg.NsObj oC m₂ → m₂ x = some (.int k t) → Fr h₀ L h m → News h₀ L h ((I, oI) :: (C, oC) :: (D, LCg.lst ys) :: news) → LCg.Off3 I C D news → ((@Ne Nat I C) ∧ (@Ne Nat I D) ∧ (@Ne Nat C D)) →
      wpAny (model prog w) A (eval elt (compEnvC scope cl C env)) (fun y s₂ => Small y ∧ ∃ tk', s₂ = { s with heap := h, toks := tk' }) E' { s with heap := h, toks := tk })
    (fin : ∀ ys, (∀ y ∈ ys, Small y) → ys.length = ns.length → Fin ys news) : LCg.CompRest prog w A h₀ L m env elt x scope cl s S (fun i v => vs.toArray[i]? = some v) Fin vs.toArray.size 0 [] news := by
  have hn : vs.toArray.size = ns.length := by rw [List.size_toArray]; exact hi.length
  have key : ∀ (j i : Nat) (ys : List Value), i + j = vs.toArray.size → ys.length = i → (∀ y ∈ ys, Small y) → LCg.CompRest prog w A h₀ L m env elt x scope cl s S (fun i v => vs.toArray[i]? = some v) Fin j i ys news := by
    intro j
    induction j with
    | zero =>
      intro i ys hij hl hy
      exact LCg.CompRest.zero (fin ys hy (by omega))
    | succ j ih =>
      intro i ys hij hl hy
      refine LCg.CompRest.succ ?_
      intro v I oI C oC D m₂ h tk E' hv hC hx F N off ne
      obtain ⟨k, t, hv', hk⟩ := IntsAre.at hi i v (by simpa using hv)
      rw [hv'] at hx
      refine wpAny_mono (turn k t I oI C oC D m₂ ys h tk E' hC hx F N off ne) (fun y s₂ hq => ?_) fun _ _ e => e
      obtain ⟨hsm, tk', rfl⟩ := hq
      refine LCg.CompEnd.intro F N news (fun p hp => hp) off hS ?_
      refine ih (i + 1) _ (by omega) (by rw [List.length_append, List.length_singleton, hl]) ?_
      intro z hz
      rcases List.mem_append.mp hz with hz | hz
      · exact hy z hz
      · rw [List.mem_singleton.mp hz]; exact hsm
  exact key _ 0 [] (by omega) rfl (fun _ h => nomatch h)
end Mine
end
section
open PySem PySem.W PyProof.Rows PySem.Calls
namespace Mine
local macro_rules | `(tactic| k_room) => `(tactic| ktr_room)
local macro_rules | `(tactic| k_units) => `(tactic| ktr_units)
local macro_rules | `(tactic| k_all) => `(tactic| assumption)

section
open LCg
variable {prog : Program} {w : World} {A : Around} {E : Value → Shared → Prop} {s : Shared} {h₀ : Heap} {L : Addr} {m : Str → Option Value} {env : Env}
/-- the source of a comprehension over a text of ASCII -/
def SrcS (prog : Program) (w : World) (A : Around) (h₀ : Heap) (L : Addr) (m : Str → Option Value) (env : Env) (elt : Expr) (x : Str) (scope : Scope) (cl : List (Str × Addr)) (Fin : Shared → List Value → List (Addr × Obj) → Prop) (xv : Value) (s₁ : Shared) : Prop :=
  ∃ y t news, xv = .str y t ∧ A.handled = none ∧ Fr h₀ L s₁.heap m ∧ News h₀ L s₁.heap news ∧ y.cps.all (· < 128) = true ∧ y.cps.size ≤ sizeLine ∧
    ∀ s₂ : Shared, (∃ h, s₂ = { s₁ with heap := h }) → CompRest prog w A h₀ L m env elt x scope cl s₂ (fun _ => True) (SignAt y) (Fin s₂) y.cps.size 0 [] news
theorem ListComp_S {elt iter : Expr} {x : Str} {px : Pos} {scope : Scope} {cl : List (Str × Addr)} {pos : Pos} {Q : Value → Shared → Prop} (F₀ : Fr h₀ L s.heap m)
    (hclos : closureFor scope env = pure cl) (hcell : ∀ y ∈ scope.names, y.2 ≠ .cell) (hkind : scope.kind = .function)
    (hnames : ∀ y ∈ scope.names, y.2 = .local → scope.names.lookup y.1 = some .local) (hx : scope.names.lookup x = some .local)
    (h : wpAny (model prog w) A (eval iter env) (SrcS prog w A h₀ L m env elt x scope cl (fun s₂ => FinE h₀ L m s₂ Q)) E s)
    (hs : ∀ x, foldedSetIterable iter env x = pure x := by intro _; rfl) :
    wpAny (model prog w) A (eval (.ListComp elt [⟨.Name x px, iter, [], 0⟩] scope pos) env) Q E s := by
  rw [eval_ListComp]
  refine wpAny_comprehension_free (use := none) rfl hs hclos hkind hnames (wpAny_mono h (fun xv s₁ h₁ => ?_) fun _ _ e => e)
  obtain ⟨y, t, news, rfl, hh, F, N, ha, hsz, R⟩ := h₁
  refine wpAny_pyIter_ascii ha ?_
  refine block_U (Walks.strAscii hh s₁.heap.objs.size y t) hsz (fun i h st => by obtain ⟨o, e, _⟩ := st; exact ⟨o, e⟩) ?_ hcell hkind hx ⟨_, Heap.get?_push_size _ rfl, rfl, rfl⟩ (fun b hb => ?_)
      (F.keeps fun _ _ e => Heap.get?_push_of_some _ e) (N.grown fun _ _ e => Heap.get?_push_of_some _ e) (Nat.ne_of_lt F.ns.lt) (next_is_new F) (fun p hp => Nat.ne_of_lt (Heap.lt_size (N p hp).1)) trivial (R _ ⟨_, rfl⟩) ?_
  · intro i h h' o nw st e e' _ _ _
    obtain ⟨o', q, r⟩ := st
    rw [e] at q
    cases q
    exact ⟨o, e', r⟩
  · rw [List.mem_singleton.mp hb]
    show s₁.heap.objs.size < (s₁.heap.push _).objs.size
    rw [Heap.size_push]; exact Nat.lt_succ_self _
  · intro D C h tk m' ys news' F' N' o1 hn hC₀ hD₀ hCL hDL hCD offC fin
    refine ⟨m', hn, fun h'' hs'' => fin D h'' tk (F'.change hs'' hCL hC₀) (fun p hp => ?_) o1⟩
    refine ⟨hs''.extBut _ _ ?_ (N' p hp).1, (N' p hp).2⟩
    rcases List.mem_cons.mp hp with rfl | hp
    · exact Ne.symm hCD
    · exact offC p hp
theorem ints_snoc' {v : Int} {t : Tok} : ∀ {vs : List Value} {ns : List Int}, IntsAre vs ns → IntsAre (vs ++ [.int v t]) (ns ++ [v])
  | _, _, .nil => .cons _ _ .nil
  | _, _, .cons _ _ r => .cons _ _ (ints_snoc' r)
/-- its rest, where the element is the sign's own number -/
theorem ord_rest {elt : Expr} {x : Str} {scope : Scope} {cl : List (Str × Addr)} {Fin : List Value → List (Addr × Obj) → Prop} {news : List (Addr × Obj)} {y : PySem.Str}
    (turn : ∀ (c : Nat) t I oI C oC D m₂ ys h tk (E' : Value → Shared → Prop), NsObj oC m₂ → m₂ x = some (.str ⟨#[c]⟩ t) → Fr h₀ L h m → News h₀ L h ((I, oI) :: (C, oC) :: (D, lst ys) :: news) → Off3 I C D news → ((@Ne Nat I C) ∧ (@Ne Nat I D) ∧ (@Ne Nat C D)) →
      wpAny (model prog w) A (eval elt (compEnvC scope cl C env)) (fun v s₂ => (∃ t', v = .int (c : Nat) t') ∧ ∃ tk', s₂ = { s with heap := h, toks := tk' }) E' { s with heap := h, toks := tk })
    (fin : ∀ ys, IntsAre ys (y.cps.toList.map fun c : Nat => (c : Int)) → Fin ys news) : CompRest prog w A h₀ L m env elt x scope cl s (fun _ => True) (SignAt y) Fin y.cps.size 0 [] news := by
  have key : ∀ (j i : Nat) (ys : List Value), i + j = y.cps.size → IntsAre ys ((y.cps.toList.take i).map fun c : Nat => (c : Int)) → CompRest prog w A h₀ L m env elt x scope cl s (fun _ => True) (SignAt y) Fin j i ys news := by
    intro j
    induction j with
    | zero =>
      intro i ys hij hl
      rw [List.take_of_length_le (by rw [Array.length_toList]; omega)] at hl
      exact CompRest.zero (fin ys hl)
    | succ j ih =>
      intro i ys hij hl
      refine CompRest.succ ?_
      intro v I oI C oC D m₂ h tk E' hv hC hx F N off ne
      obtain ⟨c, t, hc, hv'⟩ := hv
      rw [hv'] at hx
      refine wpAny_mono (turn c t I oI C oC D m₂ ys h tk E' hC hx F N off ne) (fun v' s₂ hq => ?_) fun _ _ e => e
      obtain ⟨⟨t', rfl⟩, tk', rfl⟩ := hq
      refine CompEnd.intro F N news (fun p hp => hp) off trivial ?_
      refine ih (i + 1) _ (by omega) ?_
      have hc' : y.cps.toList[i]? = some c := by rw [Array.getElem?_toList]; exact hc
      rw [List.take_add_one, hc', List.map_append]
      exact ints_snoc' hl
  exact key _ 0 [] (by omega) .nil
end
theorem item_le {x : PySem.Str} (hx : ∀ c ∈ x.cps.toList, c ≤ 127) {i : Int} : (((Txt.item x i).cps.getD 0 0 : Nat) : Int) ≤ 127 := by
  show (((Txt.charAt x i).getD 0 : Nat) : Int) ≤ 127
  cases h : Txt.charAt x i with
  | none => decide
  | some c =>
    show (c : Int) ≤ 127
    unfold Txt.charAt at h
    obtain ⟨j, _, hj⟩ := Option.bind_eq_some_iff.mp h
    have : c ∈ x.cps.toList := by
      rw [← Array.getElem?_toList] at hj
      exact List.mem_of_getElem? hj
    have := hx c this
    omega
set_option maxHeartbeats 8000000 in
theorem oct_con (w : World) (mean : ExcName → Option Value) (mg mb : Str → Option Value) (news : List (Addr × Obj)) (x : PySem.Str) (t : Tok) (hlen : x.length ≤ 1000) (hx : ∀ c ∈ x.cps.toList, c ≤ 127) :
  Con w mean mg mb 1 100 [.str x t] news (fun r n => ∃ b t', r = .bytes b t' ∧ KBw.bInts b = x.cps.toList.map (fun c : Nat => (c : Int)) ∧ n = news) False := by
  k_with_none
  w_top off
  unfold Con
  k_fill
  intro dp un gd cn cs a ccd cl outer A₀ base h₀ L m s Q E B F X N T hk hd hu hret herr
  k_dflt cell_enter
  k_with "exec Raise some none" => (
    exfalso
    rename 127 < (((Txt.item x kN).cps.getD 0 0 : Nat) : Int) => h127
    exact absurd (item_le (i := kN) hx) (by omega))
  k_with "pyIter ref" => k_search (fun _ => True)
  k_with "eval ListComp" => (k_here; k_dflt (refine ListComp_S (F₀ := by k_asm) (by with_unfolding_all rfl) (by decide) (by rfl) (by decide) (by rfl) ?_))
  k_steps
  rename Fr _ _ _ _ => kF9
  rename News _ _ _ _ => kN9
  refine ⟨x, t, news, rfl, rfl, kF9, kN9, ?_, ?_, ?_⟩
  · rw [Array.all_eq_true']
    intro c hc
    have := hx c (Array.mem_toList_iff.mpr hc)
    exact decide_eq_true (by omega)
  · exact Nat.le_trans hlen (by decide)
  rintro _ ⟨g9, rfl⟩
  refine ord_rest ?_ ?_
  · intro c9 t9 I9 oI9 C9 oC9 D9 m9 ys9 h9 tk9 E9 hC9 hx9 F9 N9 off9 ne9
    (try (simp only [LCg.Off3, and_true] at off9))
    k_steps
  intro ys9 hy9 D9 h9 tk9 F9 N9 o9
  (try k_fold)
  k_steps
  have hlen9 : ys9.length ≤ 1000 := by
    have h1 := hy9.length
    simp only [List.length_map, Array.length_toList] at h1
    have h2 : x.cps.size ≤ 1000 := hlen
    omega
  have hx9 : ∀ n ∈ (x.cps.toList.map fun c : Nat => (c : Int)), 0 ≤ n ∧ n < 256 := by
    intro n hn
    obtain ⟨c, hc, rfl⟩ := List.mem_map.mp hn
    have := hx c hc
    omega
  refine bytes_K F9 N9 (News.isList N9 (.head _)) hy9 hx9 ?_ rfl ?_
  · exact Nat.le_trans hlen9 (by decide)
  intro h8 t8 k8 F8 N8 hB8
  k_steps
  rename News _ _ _ _ => kN7
  refine hret _ news _ _ ⟨_, _, rfl, ?_, rfl⟩ (by k_asm) (fun p hp => kN7 p (.tail _ hp))
  unfold KBw.bInts
  rw [List.toList_toArray, List.map_map]
  refine (List.map_congr_left (g := _root_.id) fun n hn => ?_).trans (List.map_id _)
  exact byte_back (hx9 n hn).1 (hx9 n hn).2
end Mine
end
section
open PySem PySem.W PyProof.Rows PySem.Calls
namespace Mine
local macro_rules | `(tactic| k_room) => `(tactic| ktr_room)
local macro_rules | `(tactic| k_units) => `(tactic| ktr_units)
local macro_rules | `(tactic| k_all) => `(tactic| assumption)
local macro_rules | `(tactic| walk_at "call ref") => `(tactic| k_extra "call ref")

/-- a number's figures, in ints -/
def figs (n : Int) : List Int := (PySem.Str.ofString (toString n)).cps.toList.map fun c : Nat => (c : Int)
theorem num_codes {n : Int} (h0 : 0 ≤ n) : (PySem.Str.ofString (toString n)).cps.toList = (Nat.toDigits 10 n.toNat).map Char.toNat := by
  obtain ⟨m, rfl⟩ := Int.eq_ofNat_of_zero_le h0
  exact KIN.signs_num m
theorem num_small {n : Int} (h0 : 0 ≤ n) : ∀ c ∈ (PySem.Str.ofString (toString n)).cps.toList, c ≤ 127 := by
  intro c hc
  rw [num_codes h0] at hc
  obtain ⟨ch, hch, e⟩ := List.mem_map.mp hc
  have r := digit_range (Nat.isDigit_of_mem_toDigits (by decide) (by decide) hch)
  omega
theorem num_len {n : Int} (h0 : 0 ≤ n) (h1 : n < 10 ^ 19) : (PySem.Str.ofString (toString n)).length ≤ 19 := toString_length_le h0 (by decide) h1
theorem worth_val : ∀ (l : List Nat) (a : Nat), (∀ c ∈ l, 48 ≤ c) → (l.map fun c : Nat => (c : Int)).foldl (fun n c => n * 10 + c - 48) (a : Int) = ((l.foldl (fun a c => a * 10 + (c - 48)) a : Nat) : Int)
  | [], a, _ => rfl
  | c :: r, a, h => by
    have hc := h c (.head _)
    rw [List.map_cons, List.foldl_cons, List.foldl_cons, ← worth_val r _ fun x hx => h x (.tail _ hx)]
    congr 1
    omega
theorem worth_figs {n : Int} (h0 : 0 ≤ n) : worth (figs n) = n := by
  unfold worth figs
  rw [num_codes h0]
  have h := worth_val ((Nat.toDigits 10 n.toNat).map Char.toNat) 0 (by
    intro c hc
    obtain ⟨ch, hch, e⟩ := List.mem_map.mp hc
    have r := digit_range (Nat.isDigit_of_mem_toDigits (by decide) (by decide) hch)
    omega)
  refine h.trans ?_
  have e : (((Nat.toDigits 10 n.toNat).map Char.toNat).foldl (fun a c => a * 10 + (c - 48)) 0) = n.toNat := KIN.val_back n.toNat
  rw [e]
  omega

set_option maxHeartbeats 8000000 in
theorem nofL (w : World) (mean : ExcName → Option Value) (mg mb : Str → Option Value) (b : Array UInt8) (t : Tok) (ks : List Int) (hks : KBw.bInts b = ks) :
  ConL w mean mg mb 2 163 [.bytes b t] (fun r more => (∃ t', r = .int (worth ks) t') ∧ more = []) := by
  k_with_none
  w_top off
  subst hks
  unfold ConL
  k_fill
  intro dp un gd cn cs a ccd cl h₀ L m s Q E news F X N T hk hd hu hret
  k_dflt (refine' code_defG ?k2 ?k3 ?k5 ?kA ?kF ?kK ?k6 ?k7 ?k8 ?k9 ?kB ?_ ?c2 ?c3 ?c4 ?c5; (case kA => exact rfl); (case kF => exact rfl); (case kK => assumption); (case k2 => k_asm); (case k3 => k_asm); (case k5 => k_asm); (case k6 => k_is); (case k7 => k_is); (case k8 => ktr_room); (case k9 => exact BindsTo.of_eq rfl); (case c5 => decide); (case kB => exact locs rfl); (case c2 => exact rfl); (case c3 => exact rfl); (case c4 => exact rfl); k_whole; intro g L₁ h₁ hg F₁ N₁ B₁ X₁ T₁; (try dsimp only); (try k_lift B₁); (try k_fold))
  k_with "pyIter bytes" => k_state (fun pre number => number = pre.foldl (fun n c => n * 10 + c - 48) 0) "number"
  k_steps
  rename Fr _ _ _ _ => F9
  subst hg
  exact hret _ [] _ _ ⟨⟨_, by rw [kInv]; first | rfl | (unfold worth; rfl)⟩, rfl⟩ (Mine.Fr.back F F9) (Mine.News.back F F9 N (fun _ h => nomatch h))

set_option maxHeartbeats 8000000 in
theorem figL (w : World) (mean : ExcName → Option Value) (mg mb : Str → Option Value) (n : Int) (t : Tok) (h0 : 0 ≤ n) (h1 : n < 10 ^ 19) :
  ConL w mean mg mb 3 170 [.int n t] (fun r more => (∃ b t', r = .bytes b t' ∧ KBw.bInts b = figs n) ∧ more = []) := by
  k_with_none
  w_top off
  unfold ConL
  k_fill
  intro dp un gd cn cs a ccd cl h₀ L m s Q E news F X N T hk hd hu hret
  k_dflt (refine' code_defG ?k2 ?k3 ?k5 ?kA ?kF ?kK ?k6 ?k7 ?k8 ?k9 ?kB ?_ ?c2 ?c3 ?c4 ?c5; (case kA => exact rfl); (case kF => exact rfl); (case kK => assumption); (case k2 => k_asm); (case k3 => k_asm); (case k5 => k_asm); (case k6 => k_is); (case k7 => k_is); (case k8 => ktr_room); (case k9 => exact BindsTo.of_eq rfl); (case c5 => decide); (case kB => exact locs rfl); (case c2 => exact rfl); (case c3 => exact rfl); (case c4 => exact rfl); k_whole; intro g L₁ h₁ hg F₁ N₁ B₁ X₁ T₁; (try dsimp only); (try k_lift B₁); (try k_fold))
  k_with "call ref" => (k_here; k_dflt (
      refine' Con.use (oct_con w mean mg mb [] _ _ (Nat.le_trans (num_len h0 h1) (by decide)) (num_small h0)) (by k_asm) (by k_asm) (by k_asm) (by k_asm) (fun _ h => nomatch h) (by k_asm) (by first | exact rfl | assumption) (by ktr_room) (by ktr_units) ?_ (fun _ _ _ _ h => h.elim)
      (rintro _ _ h9 tk9 ⟨b9, t9, rfl, hb9, rfl⟩ F9 N9); (try dsimp only); (try k_fold)))
  k_steps
  rename Fr _ _ _ _ => F8
  subst hg
  exact hret _ [] _ _ ⟨⟨_, _, rfl, hb9⟩, rfl⟩ (Mine.Fr.back F F8) (Mine.News.back F F8 N (fun _ h => nomatch h))
end Mine
end
section
open PySem PySem.W PyProof.Rows PySem.Calls PyProof.V PySem.Spec
namespace Mine
open Builtin Builtin._codecs
theorem ascii_name : (normalName (Str.ofString "ascii")).toString = "ascii" := by decide +kernel
theorem road_ascii (id : String) (self : Value) (x : PySem.Str) (errors : Option PySem.Str) : encodeRoad id self x (Str.ofString "ascii") errors = (do mkBytes (← encodeNarrow id asciiCodec errors self x)) := by
  unfold encodeRoad
  rw [ascii_name]
  rfl
theorem ascii_fold : ∀ (l : List Nat) (out : Array UInt8), (∀ c ∈ l, c ≤ 127) → KBw.bInts (l.foldl (fun acc y => acc ++ (asciiCodec.bytesOf y).toArray) out) = KBw.bInts out ++ l.map (fun c : Nat => (c : Int))
  | [], out, _ => by simp
  | c :: r, out, h => by
    have hc := h c (.head _)
    rw [List.foldl_cons, ascii_fold r _ fun x hx => h x (.tail _ hx)]
    have e : KBw.bInts (out ++ (asciiCodec.bytesOf c).toArray) = KBw.bInts out ++ [(c : Int)] := by
      unfold KBw.bInts
      rw [Array.toList_append, List.map_append]
      congr 1
      show [((c.toUInt8.toNat : Nat) : Int)] = _
      have : c.toUInt8.toNat = c := by show c % 256 = c; omega
      rw [this]
    rw [e, List.map_cons, List.append_assoc]
    rfl
theorem narrow_ascii {M : Model} {A : Around} {E : Value → Shared → Prop} {s : Shared} {Q : Array UInt8 → Shared → Prop} (id : String) (self : Value) (x : PySem.Str) (hx : ∀ c ∈ x.cps.toList, c ≤ 127) (hn : 1 ≤ x.cps.size) (hz : x.cps.size ≤ 1000)
   (h : ∀ b, b.size = x.cps.size → KBw.bInts b = x.cps.toList.map (fun c : Nat => (c : Int)) → Q b s) : wpAny M A (encodeNarrow id asciiCodec none self x) Q E s := by
  have hbad : ∀ c, c ∈ x.cps → asciiCodec.bad c = false := fun c hc => by
    have := hx c (Array.mem_toList_iff.mpr hc)
    show decide (c ≥ 128) = false
    exact decide_eq_false (by omega)
  unfold encodeNarrow
  dsimp only
  rw [Std.Legacy.Range.forIn_eq_forIn_range']
  refine wpAny_bind ?_
  refine wpAny_forIn_list _ (fun rest b s₂ => s₂ = s ∧ ((rest ≠ [] ∧ b.1 = 0 ∧ b.2.1 = #[]) ∨ (b.1 = x.cps.size ∧ b.2.1.size = x.cps.size ∧ KBw.bInts b.2.1 = x.cps.toList.map (fun c : Nat => (c : Int))))) _ ?_ ?_ _ _ ⟨rfl, .inl ⟨?_, rfl, rfl⟩⟩
  · rintro j rest ⟨i, out, st⟩ s₂ ⟨rfl, hI⟩
    dsimp only at hI ⊢
    have hout : out.size ≤ sizeLine := by
      rcases hI with ⟨_, _, rfl⟩ | ⟨_, hs, _⟩
      · exact Nat.zero_le _
      · rw [hs]; exact Nat.le_trans hz (by decide)
    rw [if_neg (by omega)]
    rcases hI with ⟨_, rfl, rfl⟩ | ⟨rfl, hs, hb⟩
    · have h0 : x.cps[0]? = some x.cps[0] := Array.getElem?_eq_getElem (by omega)
      rw [h0]
      dsimp only
      rw [if_pos (by rw [hbad _ (Array.getElem_mem _)]; rfl)]
      have hex : x.cps.extract = x.cps := by simp
      have hfi : Array.findIdx? asciiCodec.bad x.cps.extract = none := by
        rw [hex, Array.findIdx?_eq_none_iff]
        exact hbad
      rw [hfi, Option.getD_none, hex, hex]
      refine wpAny_pure ⟨rfl, .inr ?_⟩
      have hf := ascii_fold x.cps.toList #[] hx
      rw [Array.foldl_toList] at hf
      have hf' : KBw.bInts (Array.foldl (fun acc y => acc ++ (asciiCodec.bytesOf y).toArray) #[] x.cps) = List.map (fun c : Nat => (c : Int)) x.cps.toList := hf
      refine ⟨Nat.zero_add _, ?_, hf'⟩
      have h1 := congrArg List.length hf'
      rw [KBw.ints_length, List.length_map, Array.length_toList] at h1
      exact h1
    · rw [Array.getElem?_eq_none (Nat.le_refl _)]
      dsimp only
      exact wpAny_pure (wpAny_pure (h out hs hb))
  · rintro ⟨i, out, st⟩ s₂ ⟨rfl, hI⟩
    rcases hI with ⟨h1, _⟩ | ⟨_, hs, hb⟩
    · exact absurd rfl h1
    · exact wpAny_pure (h out hs hb)
  · intro e
    have h1 := congrArg List.length e
    rw [List.length_range'] at h1
    have h2 : x.cps.size = 0 := by simpa [Std.Legacy.Range.size, PySem.Str.length] using h1
    omega
theorem meets_encode (x : PySem.Str) (t u : Tok) (hx : ∀ c ∈ x.cps.toList, c ≤ 127) (hn : 1 ≤ x.cps.size) (hz : x.cps.size ≤ 1000) :
    Meets («str.encode» ⟨[.str x t, .str (Str.ofString "ascii") u], []⟩) (fun _ R s => ∀ b t' k, KBw.bInts b = x.cps.toList.map (fun c : Nat => (c : Int)) → R (.ok (.ret (.bytes b t'))) { s with toks := k }) := by
  refine .of_wp fun prog w A R s h => ?_
  unfold «str.encode»
  refine wpAny_bind (wpAny_of_eq (a := (.str x t, x, [.str (Str.ofString "ascii") u])) (by kernel_rfl) ?_)
  dsimp only
  refine wpAny_bind (wpAny_of_eq (a := [some (.str (Str.ofString "ascii") u), none]) (by kernel_rfl) ?_)
  dsimp only
  refine wpAny_bind (wpAny_of_eq (a := some (Str.ofString "ascii")) (by kernel_rfl) ?_)
  refine wpAny_bind (wpAny_of_eq (a := none) (by kernel_rfl) ?_)
  show wpAny _ _ (do ret (← encodeRoad "str.encode" (.str x t) x (Str.ofString "ascii") none)) _ _ _
  rw [road_ascii]
  refine wpAny_bind (wpAny_bind (narrow_ascii _ _ x hx hn hz fun b hs hb => ?_))
  refine wpAny_mkBytes ?_ ?_
  · exact wpAny_pure ⟨_, rfl, h _ _ _ hb⟩
  · rw [hs]; exact Nat.le_trans hz (by decide)
section
variable {prog : Program} {w : World} {A : Around} {E : Value → Shared → Prop} {s : Shared} {Q : Value → Shared → Prop} {t u : Tok}
theorem encode_K {n : Int} (h0 : 0 ≤ n) (h1 : n < 10 ^ 19) (h : ∀ b t' k, KBw.bInts b = figs n → Q (.bytes b t') { s with toks := k }) :
    wpAny (model prog w) A (call (.builtin "str.encode") [.str (PySem.Str.ofString (toString n)) t, .str (PySem.Str.ofString "ascii") u]) Q E s := by
  refine call_meets F.slot_str_encode (typeIs_str _ _ _) F.entry_str_encode (F.args_str_encode_2 _ _) (meets_encode _ t u (num_small h0) ?_ (Nat.le_trans (num_len h0 h1) (by decide))) h
  rw [← Array.length_toList, num_codes h0, List.length_map]
  exact toDigits_len_ge 10 n.toNat
theorem mencode {M : Model} {x : PySem.Str} {pl : Sem Bool} {Q : Value × List Value → Shared → Prop} (h : Q (.builtin "str.encode", [.str x t]) s) : wpAny M A (getMethod (.str x t) "encode" pl) Q E s := by
  with_reducible exact GM.of (.str x t) (typeIs_str _ _ _) F.slot_str_encode F.type_str_encode GM.noRef h
end
end Mine
end
section
open PySem PySem.W PyProof.Rows PySem.Calls PyProof.V PySem.Spec
namespace Mine
theorem src_ledger {h₀ : Heap} {ax : Addr} {its : Array Value} {n : Nat} {news : List (Addr × Obj)} (hm : (ax, listOf its n) ∈ news) : LCg.SrcAt h₀ ax its news := .inr ⟨_, hm, rfl, _, rfl⟩
theorem Fr.congr {h₀ g : Heap} {L : Addr} {m m' : Str → Option Value} (F : Fr h₀ L g m) (e : ∀ y, m y = m' y) : Fr h₀ L g m' := by
  have : m = m' := funext e
  subst this
  exact F
/-- a statement that ends by itself and leaves some bytes in one name -/
def JoinB (h₀ : Heap) (L : Addr) (m : Str → Option Value) (x : Str) (news : List (Addr × Obj)) (K : Nat) (s : Shared) (fl : Flow) (s' : Shared) : Prop :=
  fl = .next ∧ ∃ b t h' tk, s' = { s with heap := h', toks := tk } ∧ b.size ≤ K ∧ Fr h₀ L h' (fun y => if y = x then some (.bytes b t) else m y) ∧ News h₀ L h' news
theorem cut_bytes {M : Model} {A : Around} {E : Value → Shared → Prop} {s : Shared} {Q : Flow → Shared → Prop} {t : Sem Flow} {h₀ : Heap} {L : Addr} {m : Str → Option Value} {x : Str} {v : Value} {all : List (Addr × Obj)} (news : List (Addr × Obj)) (K : Nat)
    (_ : Fr h₀ L s.heap (fun y => if y = x then some v else m y)) (_ : News h₀ L s.heap all)
    (first : wpAny M A t (JoinB h₀ L m x news K s) E s)
    (next : ∀ b t h' tk, b.size ≤ K → Fr h₀ L h' (fun y => if y = x then some (.bytes b t) else m y) → News h₀ L h' news → Q .next { s with heap := h', toks := tk }) : wpAny M A t Q E s :=
  wpAny_mono first (fun fl s' h => by obtain ⟨rfl, b, t, h', tk, rfl, h1, h2, h3⟩ := h; exact next b t h' tk h1 h2 h3) fun _ _ e => e
/-- a statement that ends by itself and leaves two names with any values -/
def JoinV (h₀ : Heap) (L : Addr) (m : Str → Option Value) (x y : Str) (news : List (Addr × Obj)) (s : Shared) (fl : Flow) (s' : Shared) : Prop :=
  fl = .next ∧ ∃ u v h' tk, s' = { s with heap := h', toks := tk } ∧ Fr h₀ L h' (fun z => if z = x then some u else if z = y then some v else m z) ∧ News h₀ L h' news
theorem cut_two {M : Model} {A : Around} {E : Value → Shared → Prop} {s : Shared} {Q : Flow → Shared → Prop} {t : Sem Flow} {h₀ : Heap} {L : Addr} {m : Str → Option Value} {D : Addr} {o : Obj} (x y c : Str) {all : List (Addr × Obj)}
    (_ : Fr h₀ L s.heap m) (_ : News h₀ L s.heap all) (_ : m c = some (.ref D)) (_ : (D, o) ∈ all)
    (first : wpAny M A t (JoinV h₀ L m x y [(D, o)] s) E s)
    (next : ∀ u v h' tk, Fr h₀ L h' (fun z => if z = x then some u else if z = y then some v else m z) → News h₀ L h' [(D, o)] → Q .next { s with heap := h', toks := tk }) : wpAny M A t Q E s :=
  wpAny_mono first (fun fl s' h => by obtain ⟨rfl, u, v, h', tk, rfl, h2, h3⟩ := h; exact next u v h' tk h2 h3) fun _ _ e => e
theorem JoinB.intro {h₀ h' : Heap} {L : Addr} {m m' : Str → Option Value} {x : Str} {news all : List (Addr × Obj)} {K : Nat} {s : Shared} {b : Array UInt8} {t : Tok} {tk : Nat} (F : Fr h₀ L h' m') (N : News h₀ L h' all) (hb : m' x = some (.bytes b t)) (hs : b.size ≤ K) (hm : ∀ y, y ≠ x → m' y = m y) (hn : ∀ p ∈ news, p ∈ all) :
    JoinB h₀ L m x news K s .next { s with heap := h', toks := tk } :=
  ⟨rfl, b, t, h', tk, rfl, hs, Mine.Fr.congr F (fun y => by
    by_cases hy : y = x
    · subst hy; rw [if_pos rfl, hb]
    · rw [if_neg hy, hm y hy]), fun p hp => N p (hn p hp)⟩
theorem JoinV.intro {h₀ h' : Heap} {L : Addr} {m m' : Str → Option Value} {x y : Str} {news all : List (Addr × Obj)} {s : Shared} {u v : Value} {tk : Nat} (F : Fr h₀ L h' m') (N : News h₀ L h' all) (hu : m' x = some u) (hv : m' y = some v) (hm : ∀ z, z ≠ x → z ≠ y → m' z = m z) (hn : ∀ p ∈ news, p ∈ all) :
    JoinV h₀ L m x y news s .next { s with heap := h', toks := tk } :=
  ⟨rfl, u, v, h', tk, rfl, Mine.Fr.congr F (fun z => by
    by_cases hz : z = x
    · subst hz; rw [if_pos rfl, hu]
    · rw [if_neg hz]
      by_cases hw : z = y
      · subst hw; rw [if_pos rfl, hv]
      · rw [if_neg hw, hm z hz hw]), fun p hp => N p (hn p hp)⟩
theorem cut_bytes4 {M : Model} {A : Around} {E : Value → Shared → Prop} {s : Shared} {Q : Flow → Shared → Prop} {t : Sem Flow} {h₀ : Heap} {L : Addr} {m : Str → Option Value} {x : Str} {v : Value} {p1 p2 p3 p4 : Addr × Obj} {rest : List (Addr × Obj)} (K : Nat)
    (F : Fr h₀ L s.heap (fun y => if y = x then some v else m y)) (N : News h₀ L s.heap (p1 :: p2 :: p3 :: p4 :: rest))
    (first : wpAny M A t (JoinB h₀ L m x [p4] K s) E s)
    (next : ∀ b t h' tk, b.size ≤ K → Fr h₀ L h' (fun y => if y = x then some (.bytes b t) else m y) → News h₀ L h' [p4] → Q .next { s with heap := h', toks := tk }) : wpAny M A t Q E s :=
  cut_bytes [p4] K F N first next
theorem size_wrap {b : Array UInt8} : (#[(40 : UInt8)] ++ b ++ #[(41 : UInt8)]).size = b.size + 2 := by simp; omega
theorem mem_one {α : Type} {p : α} {l : List α} (h : p ∈ l) : ∀ q ∈ [p], q ∈ l := by
  intro q hq
  rw [List.mem_singleton.mp hq]
  exact h
end Mine
end
section
open PySem PySem.W PyProof.Rows PySem.Calls PyProof.V PySem.Spec
namespace Mine
/-- a loop that keeps nothing but its own name -/
def LoopJ (x : Str) (m₀ : Str → Option Value) (m : Str → Option Value) (nx : List (Addr × Obj)) : Prop := nx = [] ∧ ∀ z, z ≠ x → m z = m₀ z
section
variable {prog : Program} {w : World} {A : Around} {E : Value → Shared → Prop} {s : Shared} {env : Env} {h₀ : Heap} {x : Str} {body : List Stmt} {Q : Flow → Shared → Prop}
theorem loop_ints {l : Addr} {vs : List Value} {ns : List Int} {nn : Nat} {m₀ : Str → Option Value} {news : List (Addr × Obj)} (P : Int → Prop)
    (hh : A.handled = none) (F : Fr h₀ env.locals s.heap m₀) (N : News h₀ env.locals s.heap news) (hl : (l, listOf vs.toArray nn) ∈ news) (hi : IntsAre vs ns) (hP : ∀ n ∈ ns, P n)
    (turn : ∀ n t h tk own, P n → OwnOff own [] → Fr h₀ env.locals h (fun y => if y = x then some (.int n t) else m₀ y) → News h₀ env.locals h own →
      wpAny (model prog w) A (execs body env) (InvPostN h₀ env.locals (LoopJ x m₀) own [] { s with heap := h, toks := tk } Q) E { s with heap := h, toks := tk })
    (done : ∀ (u : Option Value) h tk, Fr h₀ env.locals h (fun y => if y = x then u else m₀ y) → News h₀ env.locals h [] → Q .next { s with heap := h, toks := tk }) :
    wpAny (model prog w) A (pyIter (.ref l)) (fun it s₂ => LoopAtV prog w A h₀ env x body Q E it s₂) E s := by
  have hol : s.heap.get? l = some (listOf vs.toArray nn) := (N _ hl).1
  have hls : s.heap.IsList l vs.toArray := ⟨_, hol, rfl, nn, rfl⟩
  have hne : l ≠ s.heap.objs.size := Nat.ne_of_lt (Heap.lt_size hol)
  have N₀ : News h₀ env.locals s.heap ([] : List (Addr × Obj)) := fun p hp => nomatch hp
  refine wpAny_pyIter_list hls ?_
  have W := Walks.list (prog := prog) (w := w) hh s.heap.objs.size l hne vs.toArray
  have hlen : vs.toArray.size = ns.length := by simp [hi.length]
  rw [hlen] at W
  have same : ∀ {m : Str → Option Value} {v : Option Value} {y : Str}, (∀ z, z ≠ x → m z = m₀ z) → (if y = x then v else m y) = if y = x then v else m₀ y := by
    intro m v y hm
    by_cases hy : y = x
    · rw [if_pos hy, if_pos hy]
    · rw [if_neg hy, if_neg hy, hm y hy]
  refine loop_invN (fun i m nx => LoopJ x m₀ m nx) W ?_ ?_ ?_ ?_ ⟨⟨_, Heap.get?_push_size _ rfl, rfl, rfl⟩, hls.at fun o e => Heap.get?_push_of_some _ e⟩ (F.push _) (by intro p hp; cases hp) ⟨rfl, fun _ _ => rfl⟩ ?_ ?_
  · intro hm
    rcases List.mem_cons.mp hm with e | hm
    · exact absurd F.ns.lt (e ▸ Nat.lt_irrefl _)
    · exact (N _ hl).2.1 ((List.mem_singleton.mp hm).symm)
  · intro b hb
    rw [List.mem_singleton.mp hb]
    exact next_is_new F
  · intro p hp
    cases hp
  · intro p hp
    cases hp
  · rintro i v m₁ nx h tk own hin hPv hadr hoff ⟨rfl, hm⟩ F₁ N₁
    obtain ⟨n, t, rfl, hn⟩ := IntsAre.at hi i v (by simpa using hPv)
    exact turn n t h tk own (hP n (List.mem_of_getElem? hn)) hoff (Mine.Fr.congr F₁ fun y => same hm) N₁
  · rintro m₁ nx h tk ⟨rfl, hm⟩ F₁ N₁
    exact done (m₁ x) h tk (Mine.Fr.congr F₁ fun y => by
      by_cases hy : y = x
      · rw [if_pos hy, hy]
      · rw [if_neg hy, hm y hy]) N₁
theorem loop_end {L : Addr} {m₀ m' : Str → Option Value} {own news' : List (Addr × Obj)} {s : Shared} {h' : Heap} {tk : Nat}
    (F : Fr h₀ L h' m') (N : News h₀ L h' news') (ho : ∀ p ∈ own, p ∈ news') (hr : ∀ z, z ≠ x → m' z = m₀ z) :
    InvEndN h₀ L (LoopJ x m₀) own [] s { s with heap := h', toks := tk } :=
  InvEndN.intro F N ⟨rfl, hr⟩ rfl (fun _ hp => nomatch hp) ho
theorem ne_bytes_same {b c : Array UInt8} {t u : Tok} {Q : Value → Shared → Prop} (e : KBw.bInts b = KBw.bInts c) (h : Q (.bool false) s) : wpAny (model prog w) A (compareOp .NotEq (.bytes b t) (.bytes c u)) Q E s := by
  refine ne_bytes ?_
  rw [bInts_inj e, bne_self_eq_false]
  exact h
end
theorem nofN (w : World) (mean : ExcName → Option Value) (mg mb : Str → Option Value) (b : Array UInt8) (t : Tok) (n : Int) (h0 : 0 ≤ n) (hb : KBw.bInts b = figs n) :
  ConL w mean mg mb 2 163 [.bytes b t] (fun r more => (∃ t', r = .int n t') ∧ more = []) :=
  (nofL w mean mg mb b t _ hb).mono fun v more h => by rwa [worth_figs h0] at h
/-- a number that the law may show -/
def Num (n : Int) : Prop := 0 ≤ n ∧ n < 10 ^ 19
theorem num_fmod (c : Int) : Num (c.fmod (10 ^ Int.toNat 19)) := ⟨Int.fmod_nonneg_of_pos _ (by decide), Int.fmod_lt_of_pos _ (by decide)⟩
theorem num_three {ns : List Int} (h : ∀ n ∈ ns, Num n) (c : Int) : ∀ n ∈ ns ++ [0, 10 ^ Int.toNat 18, c.fmod (10 ^ Int.toNat 19)], Num n := by
  intro n hn
  rcases List.mem_append.mp hn with hn | hn
  · exact h n hn
  · simp only [List.mem_cons, List.not_mem_nil, or_false] at hn
    rcases hn with rfl | rfl | rfl
    · exact ⟨by decide, by decide⟩
    · exact ⟨by decide, by decide⟩
    · exact num_fmod c
end Mine
end
section
open PySem PySem.W PyProof.Rows PySem.Calls PyProof.V PySem.Spec
namespace Mine
/-- a row of the law's: a tuple of some bytes and of what is due -/
inductive RowAt (news : List (Addr × Obj)) : Value → Prop
  | no {tp : Addr} {b : Array UInt8} {t : Tok} : (tp, tupObj [.bytes b t, .none]) ∈ news → b.size ≤ 1000 → dueF (KBw.bInts b) = none → RowAt news (.ref tp)
  | yes {tp tq l : Addr} {b : Array UInt8} {t ti : Tok} {vs : List Value} {ns : List Int} {k : Nat} {i : Int} : (tp, tupObj [.bytes b t, .ref tq]) ∈ news → (tq, tupObj [.ref l, .int i ti]) ∈ news → (l, listOf vs.toArray k) ∈ news →
      IntsAre vs ns → b.size ≤ 1000 → dueF (KBw.bInts b) = some (ns, i) → RowAt news (.ref tp)
/-- a turn's end: two names may have changed, what there was stands -/
def RowEnd (h₀ : Heap) (L : Addr) (m : Str → Option Value) (x y : Str) (own : List (Addr × Obj)) (s₁ : Shared) (fl : Flow) (s₂ : Shared) : Prop :=
  fl = .next ∧ ∃ h' tk m' all, s₂ = { s₁ with heap := h', toks := tk } ∧ Fr h₀ L h' m' ∧ News h₀ L h' all ∧ (∀ p ∈ own, p ∈ all) ∧ ∀ z, z ≠ x → z ≠ y → m' z = m z
theorem RowEnd.intro {h₀ h' : Heap} {L : Addr} {m m' : Str → Option Value} {x y : Str} {own all : List (Addr × Obj)} {s₁ : Shared} {tk : Nat} (F : Fr h₀ L h' m') (N : News h₀ L h' all) (ho : ∀ p ∈ own, p ∈ all) (hm : ∀ z, z ≠ x → z ≠ y → m' z = m z) :
    RowEnd h₀ L m x y own s₁ .next { s₁ with heap := h', toks := tk } := ⟨rfl, h', tk, m', all, rfl, F, N, ho, hm⟩
section
variable {prog : Program} {w : World} {A : Around} {E : Value → Shared → Prop} {s : Shared} {env : Env} {h₀ : Heap} {body : List Stmt} {Q : Flow → Shared → Prop}
theorem loop_rows {l D : Addr} {o : Obj} {ys : List Value} {nn : Nat} {m₀ : Str → Option Value} {news : List (Addr × Obj)} {elts : List Expr} {x1 : Nat} {tpos : Pos} (x y c : Str)
    (hh : A.handled = none) (F : Fr h₀ env.locals s.heap m₀) (N : News h₀ env.locals s.heap news) (_ : m₀ c = some (.ref D)) (hm : (D, o) ∈ news) (hl : (l, listOf ys.toArray nn) ∈ news) (hr : ∀ v ∈ ys, RowAt news v)
    (no : ∀ tp b t m s₁ own, b.size ≤ 1000 → dueF (KBw.bInts b) = none → Fr h₀ env.locals s₁.heap m → News h₀ env.locals s₁.heap ((tp, tupObj [.bytes b t, .none]) :: own) →
      wpAny (model prog w) A (assign (.Tuple elts x1 tpos) env (.ref tp)) (fun _ s₃ => wpAny (model prog w) A (execs body env) (RowEnd h₀ env.locals m x y own s₁) E s₃) E s₁)
    (yes : ∀ tp tq lq b t ti vs ns k i m s₁ own, b.size ≤ 1000 → dueF (KBw.bInts b) = some (ns, i) → IntsAre vs ns → Fr h₀ env.locals s₁.heap m →
      News h₀ env.locals s₁.heap ((tp, tupObj [.bytes b t, .ref tq]) :: (tq, tupObj [.ref lq, .int i ti]) :: (lq, listOf vs.toArray k) :: own) →
      wpAny (model prog w) A (assign (.Tuple elts x1 tpos) env (.ref tp)) (fun _ s₃ => wpAny (model prog w) A (execs body env) (RowEnd h₀ env.locals m x y own s₁) E s₃) E s₁)
    (done : ∀ (u v : Option Value) h tk, Fr h₀ env.locals h (fun z => if z = x then u else if z = y then v else m₀ z) → News h₀ env.locals h [(D, o)] → Q .next { s with heap := h, toks := tk }) :
    wpAny (model prog w) A (pyIter (.ref l)) (fun it s₂ => LoopAtT prog w A h₀ env (.Tuple elts x1 tpos) body Q E it s₂) E s := by
  have hol : s.heap.get? l = some (listOf ys.toArray nn) := (N _ hl).1
  have hls : s.heap.IsList l ys.toArray := ⟨_, hol, rfl, nn, rfl⟩
  have hne : l ≠ s.heap.objs.size := Nat.ne_of_lt (Heap.lt_size hol)
  refine wpAny_pyIter_list hls ?_
  have W := Walks.list (prog := prog) (w := w) hh s.heap.objs.size l hne ys.toArray
  refine ⟨_, _, _, _, _, _, m₀, news, fun i m nx => nx = news ∧ ∀ z, z ≠ x → z ≠ y → m z = m₀ z, rfl, W, ?_, ?_, ?_, ⟨⟨_, Heap.get?_push_size _ rfl, rfl, rfl⟩, hls.at fun o e => Heap.get?_push_of_some _ e⟩, F.push _, fun p hp => ⟨Heap.get?_push_of_some _ (N p hp).1, (N p hp).2⟩, ?_, ⟨rfl, fun _ _ _ => rfl⟩, ?_, ?_⟩
  · intro hm
    rcases List.mem_cons.mp hm with e | hm
    · exact absurd F.ns.lt (e ▸ Nat.lt_irrefl _)
    · exact (N _ hl).2.1 ((List.mem_singleton.mp hm).symm)
  · intro b hb
    rw [List.mem_singleton.mp hb]
    exact next_is_new F
  · intro p hp hI
    exact absurd (Heap.lt_size (N p hp).1) ((List.mem_singleton.mp hI) ▸ Nat.lt_irrefl _)
  · intro i s' v Q' hst hQ
    cases v with
    | ref T => exact wpAny_letOwnedTupleGo_listiter hst.1 hQ
    | _ => exact wpAny_pure hQ
  · rintro i v m₁ nx s₁ own hin hPv ⟨rfl, hm'⟩ hnw hof hog hoo hst F₁ N₁
    have fin : ∀ {m : Str → Option Value} {own' : List (Addr × Obj)} {fl : Flow} {s₂ : Shared}, (∀ p ∈ own ++ nx, p ∈ own') → (∀ z, z ≠ x → z ≠ y → m z = m₀ z) → RowEnd h₀ env.locals m x y own' s₁ fl s₂ →
        LoopStepU h₀ env.locals [s.heap.objs.size] own (fun (m : Str → Option Value) (nx' : List (Addr × Obj)) => nx' = nx ∧ ∀ z, z ≠ x → z ≠ y → m z = m₀ z) s₁ fl s₂ := by
      rintro m own' fl s₂ hs hmm ⟨rfl, h', tk, m', all, rfl, F', N', ho, hm2⟩
      exact LoopStepU.intro F' (fun p hp => N' p (ho p (hs p hp))) hnw ⟨rfl, fun z h1 h2 => (hm2 z h1 h2).trans (hmm z h1 h2)⟩
    have hv : v ∈ ys := List.mem_of_getElem? (by simpa using hPv)
    rcases hr v hv with @⟨tp, b, t, h1, h2, h3⟩ | @⟨tp, tq, lq, b, t, ti, vs, ns, k, j, h1, h2, h3, h4, h5, h6⟩
    · refine wpAny_mono (no tp b t m₁ s₁ (own ++ nx) h2 h3 F₁ fun p hp => ?_) (fun _ s₃ hq => wpAny_mono hq (fun fl s₂ hz => fin (fun p hp => hp) hm' hz) fun _ _ e => e) fun _ _ e => e
      rcases List.mem_cons.mp hp with rfl | hp
      · exact N₁ _ (List.mem_append_right _ h1)
      · exact N₁ _ hp
    · refine wpAny_mono (yes tp tq lq b t ti vs ns k j m₁ s₁ (own ++ nx) h5 h6 h4 F₁ fun p hp => ?_) (fun _ s₃ hq => wpAny_mono hq (fun fl s₂ hz => fin (fun p hp => hp) hm' hz) fun _ _ e => e) fun _ _ e => e
      rcases List.mem_cons.mp hp with rfl | hp
      · exact N₁ _ (List.mem_append_right _ h1)
      rcases List.mem_cons.mp hp with rfl | hp
      · exact N₁ _ (List.mem_append_right _ h2)
      rcases List.mem_cons.mp hp with rfl | hp
      · exact N₁ _ (List.mem_append_right _ h3)
      · exact N₁ _ hp
  · rintro h' tk m' nx F' N' hnw ⟨rfl, hm'⟩
    refine done (m' x) (m' y) h' tk (Mine.Fr.congr F' fun z => ?_) (fun p hp => by rw [List.mem_singleton.mp hp]; exact N' _ hm)
    by_cases h1 : z = x
    · rw [if_pos h1, h1]
    · rw [if_neg h1]
      by_cases h2 : z = y
      · rw [if_pos h2, h2]
      · rw [if_neg h2, hm' z h1 h2]
end
section
variable (w : World) (mean : ExcName → Option Value) (mg mb : Str → Option Value) (b : Array UInt8) (t : Tok)
theorem res_none {ks : List Int} (hd : dueF ks = none) {v : Value} {more : List (Addr × Obj)} (h : Res ks v more) : v = .none ∧ more = [] := by
  rcases h with ⟨_, _, _, _, _, _, _, _, _, _, h⟩ | ⟨h1, h2, _⟩
  · rw [hd] at h; cases h
  · exact ⟨h1, h2⟩
theorem res_some {ks ns : List Int} {i : Int} (hd : dueF ks = some (ns, i)) {v : Value} {more : List (Addr × Obj)} (h : Res ks v more) :
    ∃ tp l vs k ti, v = .ref tp ∧ IntsAre vs ns ∧ more = [(tp, tupObj [.ref l, .int i ti]), (l, listOf vs.toArray k)] := by
  rcases h with ⟨tp, l, vs, ns', k, i', ti, h1, h2, h3, h4⟩ | ⟨_, _, h⟩
  · rw [hd] at h4
    cases h4
    exact ⟨tp, l, vs, k, ti, h1, h2, h3⟩
  · rw [hd] at h; cases h
theorem small_ints {b : Array UInt8} (hb : b.size ≤ 1000) : (KBw.bInts b).length ≤ 1000000 := by
  rw [KBw.ints_length]; omega
theorem heard_no (hb : b.size ≤ 1000) (hd : dueF (KBw.bInts b) = none) : ConL w mean mg mb 11 378 [.bytes b t] (fun r more => r = .none ∧ more = []) :=
  (heard_res w mean mg mb b t _ rfl (small_ints hb)).mono fun _ _ h => res_none hd h
theorem due_no (hb : b.size ≤ 1000) (hd : dueF (KBw.bInts b) = none) : ConL w mean mg mb 11 371 [.bytes b t] (fun r more => r = .none ∧ more = []) :=
  (due_res w mean mg mb b t _ rfl (small_ints hb)).mono fun _ _ h => res_none hd h
theorem heard_yes {ns : List Int} {i : Int} (hb : b.size ≤ 1000) (hd : dueF (KBw.bInts b) = some (ns, i)) : ConL w mean mg mb 11 378 [.bytes b t]
    (fun r more => ∃ tp l vs k ti, r = .ref tp ∧ IntsAre vs ns ∧ more = [(tp, tupObj [.ref l, .int i ti]), (l, listOf vs.toArray k)]) :=
  (heard_res w mean mg mb b t _ rfl (small_ints hb)).mono fun _ _ h => res_some hd h
theorem due_yes {ns : List Int} {i : Int} (hb : b.size ≤ 1000) (hd : dueF (KBw.bInts b) = some (ns, i)) : ConL w mean mg mb 11 371 [.bytes b t]
    (fun r more => ∃ tp l vs k ti, r = .ref tp ∧ IntsAre vs ns ∧ more = [(tp, tupObj [.ref l, .int i ti]), (l, listOf vs.toArray k)]) :=
  (due_res w mean mg mb b t _ rfl (small_ints hb)).mono fun _ _ h => res_some hd h
end
end Mine
end
section
open PySem PySem.W PyProof.Rows PySem.Calls PyProof.V PySem.Spec
namespace Mine
local macro_rules | `(tactic| walk_at "exec Assign") => `(tactic| k_extra "exec Assign")
local macro_rules | `(tactic| walk_at "exec If") => `(tactic| k_extra "exec If")
local macro_rules | `(tactic| walk_at "JoinB") => `(tactic| k_extra "JoinB")
local macro_rules | `(tactic| walk_at "RowEnd") => `(tactic| k_extra "RowEnd")
local macro_rules | `(tactic| walk_at "exec For Tuple Name cons nil") => `(tactic| k_extra "exec For Tuple Name cons nil")
local macro_rules | `(tactic| walk_at "call builtin:str.encode") => `(tactic| k_extra "call builtin:str.encode")
local macro_rules | `(tactic| walk_at "compareOp NotEq bytes bytes") => `(tactic| k_extra "compareOp NotEq bytes bytes")
local macro_rules | `(tactic| walk_at "binaryOp Add ref ref") => `(tactic| k_extra "binaryOp Add ref ref")
local macro_rules | `(tactic| walk_at "pyIter ref") => `(tactic| k_extra "pyIter ref")
local macro_rules | `(tactic| walk_at "InvEndN") => `(tactic| k_extra "InvEndN")
local macro_rules | `(tactic| walk_at "exec For Name BinOp cons nil") => `(tactic| k_extra "exec For Name BinOp cons nil")
local macro_rules | `(tactic| walk_at "getMethod str") => `(tactic| k_extra "getMethod str")
local macro_rules | `(tactic| walk_at "getMethod bytes") => `(tactic| k_extra "getMethod bytes")
local macro_rules | `(tactic| walk_at "CompSrc Subscript cons") => `(tactic| k_extra "CompSrc Subscript cons")
local macro_rules | `(tactic| walk_at "subscriptTail Name BinOp") => `(tactic| k_extra "subscriptTail Name BinOp")
local macro_rules | `(tactic| walk_at "call builtin:bytes.join") => `(tactic| k_extra "call builtin:bytes.join")
local macro_rules | `(tactic| walk_at "call ref") => `(tactic| k_extra "call ref")
local macro_rules | `(tactic| walk_at "compareOp NotEq ref ref") => `(tactic| k_extra "compareOp NotEq ref ref")
local macro_rules | `(tactic| walk_at "compareOp NotEq none ref") => `(tactic| k_extra "compareOp NotEq none ref")
local macro_rules | `(tactic| walk_at "compareOp NotEq ref none") => `(tactic| k_extra "compareOp NotEq ref none")
theorem num_lo {n : Int} (h : Num n) : 0 ≤ n := h.1
theorem num_hi {n : Int} (h : Num n) : n < 10 ^ 19 := h.2
set_option maxHeartbeats 8000000 in
theorem law_holds : PySem.Challenge.rw_or0053_01.Holds := Mine.hd (by
  k_with_none
  k_go0
  k_with "getMethod bytes" => (k_here; with_reducible (refine mjoin ?_))
  k_with "CompSrc Subscript cons" => (
    k_here
    k_dflt (refine LCg.CompSrc.ledger (by rfl) (by k_asm) (by k_asm) (by k_mem) ?_ ?_)
    · size_fits
    intro g'
    k_dflt (refine' pick_rest (by assumption) ?_ ?_ ?_)
    · refine src_ledger (n := 0) ?_
      k_dflt k_mem
    all_goals (first
    | (intro k9 t9 I9 oI9 C9 oC9 D9 m9 ys9 h9 tk9 E9 hC9 hx9 F9 N9 off9 ne9; (try (simp only [LCg.Off3, and_true] at off9)))
    | (intro ys9 hy9 hl9)))
  k_with "subscriptTail Name BinOp" => (
    k_here
    have e7 := Int.fmod_nonneg_of_pos k9 (show (0 : Int) < 16 by decide)
    have e8 := Int.fmod_lt_of_pos k9 (show (0 : Int) < 16 by decide)
    k_dflt (refine item_small (by k_asm) (by k_mem) ?_ e7 ?_ ?_ ?_)
    · k_dflt (repeat' (first | exact List.forall_mem_nil _ | refine List.forall_mem_cons.mpr ⟨⟨_, _, rfl, by decide⟩, ?_⟩))
    · simp only [List.length_cons, List.length_nil]
      omega
    · omega
    intro y9 hy9
    exact ⟨hy9, _, rfl⟩)
  k_with "call builtin:bytes.join" => (
    k_here
    k_dflt (refine join_K (by k_asm) (by k_mem) hy9 ?_ ?_)
    · omega
    intro b8 t8 k8 hb8
    obtain ⟨ks8, hk8⟩ : ∃ ks, KBw.bInts b8 = ks := ⟨_, rfl⟩
    have hz8 : ks8.length ≤ 20000 := by
      rw [← hk8, KBw.ints_length]
      omega)
  k_with "exec If" => (
    k_here
    (with_reducible show wpAny _ _ (exec (Stmt.If (Expr.Compare (Expr.BinOp _ _ _ _) _ _ _) _ _ _) _) _ _ _)
    (fail_if_success (with_reducible show wpAny _ _ _ (JoinB _ _ _ _ _ _ _) _ _))
    rename Fr _ _ _ _ => F5
    rename News _ _ _ _ => N5
    k_dflt (refine' cut_bytes4 20010 F5 N5 ?_ ?_)
    all_goals (first
    | (
      (repeat ((with_reducible rename ((_ : Nat) < _) => kz); clear kz))
      (repeat ((with_reducible rename ((_ : Nat) < _ ∧ _) => kz); clear kz))
      (repeat ((with_reducible rename ((_ : Nat) ≠ _) => kz); clear kz))
      (repeat ((with_reducible rename ((_ : Nat) ≠ _ ∧ _) => kz); clear kz))
      clear F5 N5
      (repeat ((with_reducible rename Fr _ _ _ _ => kz); clear kz))
      (repeat ((with_reducible rename News _ _ _ _ => kz); clear kz))
      intro b5 t5 h5 tk5 hb5 F5 N5
      dsimp only
      (try k_fold))
    | skip))
  k_with "JoinB" => (
    rename Fr _ _ _ _ => F6
    rename News _ _ _ _ => N6
    have hz7 : b8.size ≤ 20000 := by
      rw [← KBw.ints_length, hk8]
      exact hz8
    k_dflt (refine' JoinB.intro F6 N6 rfl ?_ ?_ (mem_one ?_))
    · (try rw [size_wrap]); omega
    · intro y hy
      simp only [if_neg hy]
    · k_dflt k_mem)
  k_with "exec For Tuple Name cons nil" => (
    k_here
    rename Fr _ _ _ _ => F4
    with_unfolding_all refine' For_invTF F4 ?_ (by intro _; rfl)
    k_whole)
  k_with "pyIter ref" => (
    k_here
    (with_reducible show wpAny _ _ (pyIter (Value.ref _)) (fun it s₂ => LoopAtT _ _ _ _ _ _ _ _ _ it s₂) _ _)
    rename Fr _ _ _ _ => F4
    rename News _ _ _ _ => N4
    k_dflt (refine' loop_rows (Str.ofString "text") (Str.ofString "due") (Str.ofString "cells") rfl F4 N4 rfl ?hm ?hl ?hr ?hno ?hyes ?hdone)
    (case hm => k_dflt k_mem)
    (case hl => k_dflt k_mem)
    (case hr => k_dflt (repeat' (first
      | exact List.forall_mem_nil _
      | refine List.forall_mem_cons.mpr ⟨?_, ?_⟩
      | exact RowAt.no (by k_mem) (by decide +kernel) (by decide +kernel)
      | exact RowAt.yes (by k_mem) (by k_mem) (by k_mem) (by first | exact IntsAre.nil | exact IntsAre.cons _ _ IntsAre.nil | exact IntsAre.cons _ _ (IntsAre.cons _ _ (IntsAre.cons _ _ IntsAre.nil))) (by decide +kernel) (by decide +kernel))))
    (case' hno =>
      clear F4 N4
      intro tpR bR tR mR sR ownR hbR hdR FR NR
      (try dsimp only)
      (try k_fold))
    (case' hyes =>
      clear F4 N4
      intro tpR tqR lR bR tR tiR vsR nsR kR iR mR sR ownR hbR hdR hIR FR NR
      (try dsimp only)
      (try k_fold))
    (case' hdone =>
      (repeat ((with_reducible rename ((_ : Nat) < _) => kz); clear kz))
      (repeat ((with_reducible rename ((_ : Nat) < _ ∧ _) => kz); clear kz))
      (repeat ((with_reducible rename ((_ : Nat) ≠ _) => kz); clear kz))
      (repeat ((with_reducible rename ((_ : Nat) ≠ _ ∧ _) => kz); clear kz))
      clear F4 N4
      intro u4 v4 h4 tk4 F4 N4
      (try dsimp only)
      (try k_fold)))
  k_with "RowEnd" => (
    rename Fr _ _ _ _ => F6
    rename News _ _ _ _ => N6
    k_dflt (refine' RowEnd.intro F6 N6 ?_ ?_)
    · intro p hp
      k_dflt (repeat (first | exact hp | apply List.Mem.tail))
    · intro z hz hw
      simp only [if_neg hz, if_neg hw])
  k_with "call ref" => (k_here; k_dflt (first
    | (
      refine' ConL.use (figL _ _ _ _ nN _ h0N h1N) (by k_asm) (by k_asm) (by k_asm) (by k_asm) rfl (by ktr_room) (by ktr_units) ?_
      rintro _ moreF hF tkF ⟨⟨bF, tF, rfl, hbF⟩, rfl⟩ FF NF; (try simp only [List.nil_append] at NF); (try dsimp only); (try k_fold))
    | (
      refine' ConL.use (nofN _ _ _ _ _ _ nN h0N hbF) (by k_asm) (by k_asm) (by k_asm) (by k_asm) rfl (by ktr_room) (by ktr_units) ?_
      rintro _ moreF hF tkF ⟨⟨tF, rfl⟩, rfl⟩ FF NF; (try simp only [List.nil_append] at NF); (try dsimp only); (try k_fold))
    | (
      refine' ConL.use (due_res _ _ _ _ b5 _ _ rfl (by rw [KBw.ints_length]; omega)) (by k_asm) (by k_asm) (by k_asm) (by k_asm) rfl (by ktr_room) (by ktr_units) ?_
      rintro _ moreD hD tkD (⟨tpD, lD, vsD, nsD, kD, iD, tiD, rfl, hID, rfl, hdD⟩ | ⟨rfl, rfl, hnD⟩) FD ND <;> (try simp only [List.nil_append, List.cons_append] at ND) <;> (try dsimp only) <;> (try k_fold))
    | (
      refine' ConL.use (heard_res _ _ _ _ b5 _ _ rfl (by rw [KBw.ints_length]; omega)) (by k_asm) (by k_asm) (by k_asm) (by k_asm) rfl (by ktr_room) (by ktr_units) ?_
      rintro _ moreH hH tkH (⟨tpH, lH, vsH, nsH, kH, iH, tiH, rfl, hIH, rfl, hdH⟩ | ⟨rfl, rfl, hnH⟩) FH NH <;> (try simp only [List.nil_append, List.cons_append] at NH) <;> (try dsimp only) <;> (try k_fold))
    | (
      refine' ConL.use (heard_no _ _ _ _ bR _ hbR hdR) (by k_asm) (by k_asm) (by k_asm) (by k_asm) rfl (by ktr_room) (by ktr_units) ?_
      rintro _ more9 h9 tk9 ⟨rfl, rfl⟩ F9 N9; (try simp only [List.nil_append, List.cons_append] at N9); (try dsimp only); (try k_fold))
    | (
      refine' ConL.use (due_no _ _ _ _ bR _ hbR hdR) (by k_asm) (by k_asm) (by k_asm) (by k_asm) rfl (by ktr_room) (by ktr_units) ?_
      rintro _ more9 h9 tk9 ⟨rfl, rfl⟩ F9 N9; (try simp only [List.nil_append, List.cons_append] at N9); (try dsimp only); (try k_fold))
    | (
      refine' ConL.use (heard_yes _ _ _ _ bR _ hbR hdR) (by k_asm) (by k_asm) (by k_asm) (by k_asm) rfl (by ktr_room) (by ktr_units) ?_
      rintro _ more9 h9 tk9 ⟨tp9, l9, vs9, k9, ti9, rfl, hI9, rfl⟩ F9 N9; (try simp only [List.nil_append, List.cons_append] at N9); (try dsimp only); (try k_fold))
    | (
      refine' ConL.use (due_yes _ _ _ _ bR _ hbR hdR) (by k_asm) (by k_asm) (by k_asm) (by k_asm) rfl (by ktr_room) (by ktr_units) ?_
      rintro _ more9 h9 tk9 ⟨tp9, l9, vs9, k9, ti9, rfl, hI9, rfl⟩ F9 N9; (try simp only [List.nil_append, List.cons_append] at N9); (try dsimp only); (try k_fold))))
  k_with "compareOp NotEq none ref" => (exfalso; exact nomatch hdD.symm.trans hnH)
  k_with "compareOp NotEq ref none" => (exfalso; exact nomatch hdH.symm.trans hnD)
  k_with "compareOp NotEq ref ref" => (
    k_here
    k_dflt (first
    | (refine' ne_pair (by k_asm) ?h1 ?h2 hIH ?h3 ?h4 hID ?hu (hdH.symm.trans hdD) ?hq
       (case h1 => k_mem)
       (case h2 => k_mem)
       (case h3 => k_mem)
       (case h4 => k_mem)
       (case hu => ktr_units))
    | refine ne_pair (by k_asm) (by k_mem) (by k_mem) hI9 (by k_mem) (by k_mem) hIR (by ktr_units) rfl ?_))
  k_with "getMethod str" => (k_here; with_reducible (refine mencode ?_))
  k_with "call builtin:str.encode" => (k_here; k_dflt (refine encode_K h0N h1N ?_); intro bE tE kE hbE)
  k_with "compareOp NotEq bytes bytes" => (k_here; k_dflt (refine ne_bytes_same (hbF.trans hbE.symm) ?_))
  k_with "binaryOp Add ref ref" => (
    k_here
    k_dflt (
      refine' kmk_add_ints ?kF ?kN ?ka ?kb hID ?kj ?kgo ?kz
      (case kF => k_asm)
      (case kN => k_asm)
      (case ka => exact News.isList (by k_asm) (by k_mem))
      (case kb => exact News.isList (by k_asm) (by k_mem))
      (case kj => exact IntsAre.cons _ _ (IntsAre.cons _ _ (IntsAre.cons _ _ IntsAre.nil)))
      (case kz =>
        have hz8 := due_len hdD
        rw [KBw.ints_length] at hz8
        refine Nat.le_trans (m := 30000) ?_ (by decide)
        simp only [List.length_cons, List.length_nil]
        omega))
    intro D8 us8 h8 F8 N8 l8 hI8)
  k_with "exec For Name BinOp cons nil" => (
    k_here
    rename Fr _ _ _ _ => lF'
    with_unfolding_all refine' For_invVF lF' ?k1 ?k2 ?_
    (case k1 => k_dflt (exact rfl))
    (case k2 => k_dflt (exact rfl))
    k_whole)
  k_with "pyIter ref" => (
    k_here
    (with_reducible show wpAny _ _ (pyIter (Value.ref _)) (fun it s₂ => LoopAtV _ _ _ _ _ _ _ _ _ it s₂) _ _)
    rename Fr _ _ _ _ => F3
    rename News _ _ _ _ => N3
    k_dflt (first
    | (
      refine' loop_ints Num rfl F3 N3 ?hl hI8 (num_three (due_range hdD) _) ?turn ?done
      (case hl => k_mem))
    | (
      refine' loop_ints Num rfl F3 N3 ?hl2 (IntsAre.cons _ _ (IntsAre.cons _ _ (IntsAre.cons _ _ IntsAre.nil))) (num_three (ns := []) (fun _ h => nomatch h) _) ?turn2 ?done2
      (case hl2 => k_mem)))
    all_goals (first
    | (
      intro nN tN hN tkN ownN hPN offN FN NN
      have h0N := num_lo hPN
      have h1N := num_hi hPN
      clear F3 N3 hPN
      (try dsimp only)
      (try k_fold))
    | (
      intro uN hN tkN FN NN
      clear F3 N3
      (try dsimp only)
      (try k_fold))))
  k_with "InvEndN" => (
    rename Fr _ _ _ _ => F2
    rename News _ _ _ _ => N2
    k_dflt (refine loop_end F2 N2 ?_ ?_)
    · intro p hp
      exact hp
    · intro z hz
      simp only [if_neg hz])
  k_steps)
end Mine
end
set_option maxRecDepth 100000 in
set_option maxHeartbeats 8000000 in
theorem PySem.Challenge.cw_or0053_01_holds : PySem.Challenge.rw_or0053_01.Holds := by
  exact Mine.law_holds
