import PyProof.Rows.All
import Wide.All
import OpenK.AllK
import Wide.FinOn
import PySem.Challenge.RW_pq1317_01
open PySem PySem.W PyProof.Rows
set_option Elab.async false
set_option maxRecDepth 100000
set_option rowWalk.seconds 0

section Hd
open PySem PySem.W PyProof.Rows PySem.Spec PySem.Calls
namespace Mine
/-- the text without the lines that rebind a name -/
noncomputable def view : Program :=
  let p := PySem.Challenge.rw_pq1317_01.row.prog
  { p with main := { p.main with body := match p.main.body with
    | [a0, _, a2, a3, a4, a5, a6, _, a8, a9, a10, a11, a12, a13, a14, a15, a16, _, a18, a19, a20, a21, a22] => [a0, a2, a3, a4, a5, a6, a8, a9, a10, a11, a12, a13, a14, a15, a16, a18, a19, a20, a21, a22]
    | _ => [] } }
/-- the text's run on a tree of objects, by the library's quick twins -/
noncomputable def runT (p : Program) (w : World) (n₀ : Nat) (ann : Option Value) : Nat → SharedT → Thread → Option SharedT
  | 0, _, _ => none
  | n + 1, s, t => match through t with
    | true => some s
    | false => match PySem.W.Fast.tw6613529449190102663 n₀ ann t with
      | false => none
      | true => match PySem.W.Fast.tw10156331382660048174 (PySem.W.Fast.tw11892475500146522536 PySem.W.Fast.tw14364793385576792824) p w s t with
        | some r => runT p w n₀ ann n r.1 r.2
        | none => none
theorem runT_run {p : Program} {w : World} {n₀ : Nat} {ann : Option Value} : ∀ (n : Nat) (s : SharedT) (t : Thread) (s' : SharedT), runT p w n₀ ann n s t = some s' → topRun treeTable p w n₀ ann n s.abs t = some s'.abs
  | 0, _, _, _, h => by cases h
  | n + 1, s, t, s', h => by
    unfold runT at h
    rw [← PySem.W.Fast.te6613529449190102663, ← PySem.W.Fast.te10156331382660048174, ← PySem.W.Fast.te11892475500146522536, ← PySem.W.Fast.te14364793385576792824] at h
    unfold topRun
    cases e : through t with
    | true => rw [e] at h; cases h; rfl
    | false =>
      rw [e] at h
      cases k : stepOk n₀ ann t with
      | false => rw [k] at h; cases h
      | true =>
        rw [k] at h
        cases q : stepT (denote treeTable) p w s t with
        | none => rw [q] at h; cases h
        | some r => rw [q] at h; rw [stepT_spec (show stepT (denote treeTable) p w s t = some (r.1, r.2) from q)]; exact runT_run n r.1 r.2 s' h
noncomputable def bush : List Obj → Nat → BT → BT
  | [], _, t => t
  | o :: l, i, t => bush l (i + 1) (t.ins i o)
noncomputable def bootT (w : World) (os : OsState) : SharedT := ⟨bush (boot_heap w.params).objs.toList 0 .nil, (boot_heap w.params).objs.size, (boot_heap w.params).life, #[], boot_drawn, boot_toks, os⟩
/-- the run from the library's own opening -/
theorem left_boot {p q : Program} {loose : List Str} {Xt : Shared → Bool} {α : Type} {Yf : Shared → α} {Ya : World → α} {N : Nat} (e : opening p = plainProg p.main.scope.names) (le : Nat.ble 600 N = true) (f : ∀ s, fenceModules? p s = some s)
    (hb : ∀ w : World, (absHeap (bush (boot_heap w.params).objs.toList 0 .nil) (boot_heap w.params).objs.size (boot_heap w.params).life, (boot_heap w.params).isNs mainGlobals) = (boot_heap w.params, true))
    (h : ∀ (w : World) (os : OsState), ((runT p w (boot_heap w.params).objs.size (PySem.W.Fast.tw8920871248978507458 (boot_heap w.params) mainGlobals "__annotations__") N (bootT w os) (topStub p)).map fun s => s.abs).map (fun s => ((staticsOk (PySem.W.Fast.tw5923862056798008813 p.main.body) (boot_heap w.params) s.heap && namesBound p s.heap && gensDone s && laidKept (boot_heap w.params) s.heap), PySem.W.Fast.tw4187177175401517315 q loose (PySem.W.Fast.tw5923862056798008813 p.main.body) Xt true s, Yf s)) = some (true, openGood q loose, Ya w)) : LeftO p q loose Xt Yf Ya N := fun w => by
  obtain ⟨⟨H, gs, d, k, os⟩, e1, e2⟩ := Option.map_eq_some_iff.mp (boot_open e le f w)
  obtain ⟨rfl, rfl, rfl, rfl⟩ : H = boot_heap w.params ∧ gs = #[] ∧ d = boot_drawn ∧ k = boot_toks := by simpa using e2
  obtain ⟨b1, b2⟩ := Prod.mk.inj (hb w)
  have h := h w os
  rw [← PySem.W.Fast.te8920871248978507458, ← PySem.W.Fast.te5923862056798008813, ← PySem.W.Fast.te4187177175401517315] at h
  obtain ⟨s, r1, r2⟩ := Option.map_eq_some_iff.mp h
  obtain ⟨sT, r3, rfl⟩ := Option.map_eq_some_iff.mp r1
  have r := runT_run _ _ _ _ r3
  rw [show (bootT w os).abs = ⟨boot_heap w.params, #[], boot_drawn, boot_toks, os⟩ from by unfold SharedT.abs bootT; rw [b1]] at r
  obtain ⟨l1, l2⟩ := Prod.mk.inj r2
  unfold openEnds
  rw [e1]
  show (topFrom _ _ _ _ _).map _ = _
  unfold topFrom
  simp only [b2]
  show Option.map _ (Option.bind (topRun _ _ _ _ _ _ _ _) _) = _
  rw [r]
  simp only [Option.bind_some]
  rw [l1]
  exact congrArg some l2
local macro_rules | `(tactic| o_head $H) => `(tactic| (refine holds_open (q := Mine.view) (loose := []) (Xt := fun s => xlAt Mine.view [] s && recOk (RowW.records (OpenRow.toRowW PySem.Challenge.rw_pq1317_01.row)) s) (XP := XL Mine.view []) (Yf := Hook.obs $H) (Ya := Hook.val $H) (YP := Hook.says $H) (N := 3038) ?hl (Hook.of $H) (Hook.keeps $H) (fun s e => xl_of s (Bool.and_eq_true_iff.mp e).1) XL.keeps (by rfl) (by rfl) (by rfl) (fun s e => recFacts_of (Bool.and_eq_true_iff.mp e).2) (by rfl) (by first | assumption | decide +kernel) (by decide +kernel) ⟨rfl, rfl, rfl, rfl, rfl, by decide +kernel⟩ ?hw ?hc; (case hl => exact left_boot (by kernel_rfl) (by rfl) (by intro s; kernel_rfl) (by intro w; kernel_rfl) (by intro w os; kernel_rfl))))
set_option maxHeartbeats 8000000 in
open_top hd for PySem.Challenge.rw_pq1317_01
end Mine
end Hd

section Base
open PySem PySem.Spec PySem.Calls PyProof.Rows PySem.W
namespace Mine

noncomputable abbrev AA (D U : Nat) (outs : List Env) : Around := { handled := none, depth := D, frames := some outs, guards := none, units := U }
abbrev Tp (mean : ExcName → Option Value) (mg mb : Str → Option Value) (h : Heap) : Prop := Top view (looseW view []) mean mg mb h

theorem below_up {Γ : PySem.Ctx} {A : Around} {D U : Nat} {outs : List Env} (hh : A.handled = none) (hd : A.depth ≤ D) (hu : A.units ≤ U) (hA : A.frames = some outs) (h : Γ.Below A) : Γ.Below (AA D U outs) :=
  ⟨h.1.trans hh, Nat.le_trans h.2.1 hd, fun l hl => h.2.2.1 l (hA.trans hl), fun g hg => (nomatch hg), Nat.le_trans h.2.2.2.2 hu⟩
theorem up {M : Model} {A : Around} {D U : Nat} {outs : List Env} {c : Code} {R : Result → Shared → Prop} {s : Shared} (hh : A.handled = none) (hd : A.depth ≤ D) (hu : A.units ≤ U) (hA : A.frames = some outs)
    (h : codeAny M (AA D U outs) c R s) : codeAny M A c R s := fun Γ p hc hΓ => h Γ p hc (below_up hh hd hu hA hΓ)

/-- the heap without these -/
noncomputable abbrev hid (h : Heap) (mu : List (Addr × Obj)) : Heap := hideAll h (mu.map (·.1))

/-- what a call may lean on -/
structure Amb (w : World) (mean : ExcName → Option Value) (mg mb : Str → Option Value) (A base : _) (outs : List Env) (g : Heap) : Prop where
  B : Below A base outs g
  X : (hd.heap_39 w.params).In g
  T : Tp mean mg mb g

theorem enter {w : World} {mean : ExcName → Option Value} {mg mb : Str → Option Value} {A : Around} {base : Heap} {outs : List Env} {s : Shared} {mu : List (Addr × Obj)} {R : Result → Shared → Prop}
    {name qual : Str} {params : Arguments} {body : List Stmt} {scope : Scope} {dV kV doc pm cdv ct oc : Value} {an od : Option Addr} {osl : Array (Option Value)} {f : Addr} {args : Args} {binds : List (Str × Value)}
    (Y : Amb w mean mg mb A base outs (hid s.heap mu)) (hm : ∀ p ∈ mu, s.heap.get? p.1 = some p.2)
    (ho : (hd.heap_39 w.params).lookup f = some ⟨oc, od, .func (fnOf name qual params body scope dV kV doc pm an cdv ct), osl⟩) (hcd : codeIn (hd.heap_39 w.params) cdv qual = true) (hroom : A.depth < recursionLimit)
    (hbind : BindsTo s (fnOf name qual params body scope dV kV doc pm an cdv ct) args binds) (hloc : ∀ y ∈ binds, scope.names.lookup y.1 = some .local)
    (h : ∀ g L' h₁, g = hid s.heap mu → Fr g L' h₁ (fun y => binds.reverse.lookup y) → News g L' h₁ mu → Below A base outs g → (hd.heap_39 w.params).In g → Tp mean mg mb g →
      wpAny (model PySem.Challenge.rw_pq1317_01.row.prog w) (A.deeper (envOf qual scope L' f cdv)) (execs body (envOf qual scope L' f cdv))
        (fun fl s' => R (.ok (.ret (match fl with | .ret v => v | _ => .none))) s') (fun _ _ => False)
        { s with heap := h₁, toks := s.toks + binds.length })
    (hcell : ∀ x ∈ scope.names, x.2 ≠ .cell) (hco : scope.isCoroutine = false) (hgen : scope.isGenerator = false) (hk : scope.kind = .function) :
    codeAny (model PySem.Challenge.rw_pq1317_01.row.prog w) A (.call (.ref f) args) R s := by
  have st : ∀ b o, (hid s.heap mu).get? b = some o → s.heap.get? b = some o := fun b o e => of_hideAll _ e
  refine codeAny_call_def (fd := fnOf name qual params body scope dV kV doc pm an cdv ct) (body := body) (binds := binds) hroom (st _ _ (Y.X _ _ ho)) rfl (Y.T.nolimit.keeps st) ((codeRec_of Y.X hcd).keeps st) rfl hbind hcell hloc (fun h₁ hns hk₁ => ?_) hco hgen hk
  exact wpAny_mono (h _ s.heap.objs.size h₁ rfl ⟨hns, fun b o e => hk₁ b o (of_hideAll _ e), Nat.le_of_eq (hideAll_size _ _)⟩
    (fun p hp => ⟨hk₁ _ _ (hm p hp), Nat.ne_of_lt (Heap.lt_size (hm p hp)), hideAll_none _ (List.mem_map_of_mem hp)⟩) Y.B Y.X Y.T) (fun fl s' hl => hl) fun _ _ y => y.elim

theorem amb_of {w : World} {s : Shared} {mean : ExcName → Option Value} {mg mb : Str → Option Value} {A₀ A : Around} {base h₀ : Heap} {outer : List Env} {L : Addr} {m : Str → Option Value} {env : Env} {mu : List (Addr × Obj)}
    (B : Below A₀ base outer h₀) (F : Fr h₀ L s.heap m) (N : News h₀ L s.heap mu) (X : (hd.heap_39 w.params).In h₀) (T : Tp mean mg mb h₀) (hA : A.frames = some (env :: outer)) (hf : env.frame = some L) (hke : env.scope.kind = .function) :
    Amb w mean mg mb A base (env :: outer) (hid s.heap mu) := by
  have z := groundX (s := s) (R := fun _ _ => True) B F N hA hf hke
  exact ⟨z.2.1, X.keeps z.2.2.1, T.keeps z.2.2.1⟩

/-- nothing but these addresses is turned -/
def Kept (as : List Addr) (h h' : Heap) : Prop := ∀ b o, b ∉ as → h.get? b = some o → h'.get? b = some o
theorem Kept.refl (as : List Addr) (h : Heap) : Kept as h h := fun _ _ _ e => e
theorem Kept.trans {as : List Addr} {h h' h'' : Heap} (x : Kept as h h') (y : Kept as h' h'') : Kept as h h'' := fun b o n e => y b o n (x b o n e)
theorem Kept.fr {as : List Addr} {h₀ h h' : Heap} {L : Addr} {m : Str → Option Value} (k : Kept as h h') (F : Fr h₀ L h m) (hL : L ∉ as) (h0 : ∀ a ∈ as, h₀.get? a = none) : Fr h₀ L h' m :=
  ⟨F.ns.at' fun o e => k L o hL e, fun b o e => k b o (fun q => by rw [h0 b q] at e; cases e) (F.keep b o e), F.above⟩
theorem Kept.news {as : List Addr} {h₀ h h' : Heap} {L : Addr} {news : List (Addr × Obj)} (k : Kept as h h') (N : News h₀ L h news) (off : ∀ p ∈ news, p.1 ∉ as) : News h₀ L h' news :=
  fun p hp => ⟨k _ _ (off p hp) (N p hp).1, (N p hp).2⟩
/-- at the end of a body -/
theorem kept_of {s : Heap} {mu : List (Addr × Obj)} {L' : Addr} {h' : Heap} {m' : Str → Option Value} (F : Fr (hid s mu) L' h' m') : Kept (mu.map (·.1)) s h' := fun b o n e => F.keep b o (hideAll_get _ e n)
theorem News.splitN {h₀ h : Heap} {L : Addr} {a b : List (Addr × Obj)} (N : News h₀ L h (a ++ b)) : News h₀ L h a ∧ News h₀ L h b := ⟨fun p hp => N p (List.mem_append.mpr (.inl hp)), fun p hp => N p (List.mem_append.mpr (.inr hp))⟩

inductive SrcMu (S Q : Addr) : List (Addr × Obj) → Prop
  | mk {c g : Int} {tc tg : Tok} {n k : Nat} {vs : List Value} {ns : List Int} (hi : IntsAre vs ns) (hne : (@Ne Nat S Q)) (h0 : 0 ≤ g) (h1 : g < 2147483563) (hl : vs.length ≤ 40) :
    SrcMu S Q [(S, listOf #[.ref Q, .int c tc, .int g tg] n), (Q, listOf vs.toArray k)]
def Src (h : Heap) (S Q : Addr) : Prop := ∃ mu, SrcMu S Q mu ∧ ∀ p ∈ mu, h.get? p.1 = some p.2
theorem SrcMu.keys {S Q : Addr} {mu : List (Addr × Obj)} (x : SrcMu S Q mu) : mu.map (·.1) = [S, Q] := by cases x; rfl
end Mine
end Base

section Take
open PySem PySem.Spec PySem.Calls PyProof.Rows PySem.W
namespace Mine
theorem fm0 {a m : Int} (h : 0 < m) : 0 ≤ a.fmod m := by rw [Int.fmod_eq_emod_of_nonneg _ (by omega)]; exact Int.emod_nonneg _ (by omega)
theorem fm1 {a m : Int} (h : 0 < m) : a.fmod m < m := by rw [Int.fmod_eq_emod_of_nonneg _ (by omega)]; exact Int.emod_lt_of_pos _ h
theorem si0 {x : Value} {l : List Value} : seqIndex? 0 (x :: l).toArray.size = some 0 := by
  unfold seqIndex?
  simp
set_option maxHeartbeats 8000000 in
theorem take_ok {w : World} {mean : ExcName → Option Value} {mg mb : Str → Option Value} {A₁ : Around} {base : Heap} {outs : List Env} {s : Shared} {S Q : Addr} {most : Int} {tm : Tok} {RR : Result → Shared → Prop}
    (Y : Amb w mean mg mb A₁ base outs (hideAll s.heap [S, Q])) (hS : Src s.heap S Q) (h1 : 1 ≤ most) (h2 : most < 1000)
    (ret : ∀ h' tk' r t, Kept [S, Q] s.heap h' → Src h' S Q → 0 ≤ r → r < most → RR (.ok (.ret (.int r t))) { s with heap := h', toks := tk' }) :
    codeAny (model PySem.Challenge.rw_pq1317_01.row.prog w) (AA 900 9000 outs) (.call (.ref 191) ⟨[.ref S, .int most tm], []⟩) RR s := by
  obtain ⟨mu, hmu, hm⟩ := hS
  have key : Amb w mean mg mb (AA 900 9000 outs) base outs (hid s.heap mu) := by
    show Amb w mean mg mb _ base outs (hideAll s.heap (mu.map (·.1)))
    rw [hmu.keys]; exact ⟨⟨rfl, Y.B.stays, Y.B.frames⟩, Y.X, Y.T⟩
  have fin : ∀ g L' h' m' news, g = hid s.heap mu → Fr g L' h' m' → News g L' h' news → ∀ (c g : Int) tc tg n k vs ns, (S, listOf #[.ref Q, .int c tc, .int g tg] n) ∈ news → (Q, listOf (List.toArray vs) k) ∈ news →
      (@Ne Nat S Q) → IntsAre vs ns → 0 ≤ g → g < 2147483563 → vs.length ≤ 40 → ∀ r t tk', 0 ≤ r → r < most → RR (.ok (.ret (.int r t))) { s with heap := h', toks := tk' } := by
    intro g L' h' m' news hg F N c g tc tg n k vs ns m1 m2 ne hi a1 a2 a3 r t tk' a b
    subst hg
    have k := kept_of F
    rw [hmu.keys] at k
    exact ret h' tk' r t k ⟨_, .mk hi ne a1 a2 a3, fun p hp => by
      rcases List.mem_cons.mp hp with rfl | hp
      · exact (N _ m1).1
      · obtain rfl := List.mem_singleton.mp hp
        exact (N _ m2).1⟩ a b
  cases hmu with
  | mk hi hne h0 h1 hl =>
  rename_i c g tc tg n k vs ns
  have KX := key.X
  revert KX
  k_fill
  intro KX
  refine' enter key hm ?k6 ?k7 ?k8 ?k9 ?kB ?_ ?c2 ?c3 ?c4 ?c5
  case k6 => k_is
  case k7 => k_is
  case k8 => exact Nat.le_of_ble_eq_true rfl
  case k9 => exact BindsTo.of_eq rfl
  case kB => exact locs rfl
  case c2 => decide
  case c3 => exact rfl
  case c4 => exact rfl
  case c5 => exact rfl
  intro g' L' h' hg F' N' B' X' T'
  replace hg := fun a b c => fin g' L' a b c hg
  clear fin ret key Y hm KX
  (try dsimp only)
  (try k_fold)
  k_steps
  rotate_left 1
  focus (
    cases hi with
    | nil => rename_i hnil; simp at hnil
    | @cons x t vs' ns' hi =>
      refine' kl_popAt ?F ?N ?f ?k ?e ?U ?z ?_; (case F => k_asm); (case N => k_asm); (case U => k_upd); (case f => rfl); (case k => exact si0); (case e => rfl)
      case z =>
        rw [sizeLine_eq]
        show (Value.int x t :: vs').length ≤ 16777216
        omega
      replace hl : vs'.length ≤ 40 := by rw [List.length_cons] at hl; omega
      intro h' F' N'
      (try dsimp only [List.nil_append, List.cons_append] at N')
      k_steps
      all_goals (dsimp only; refine hg _ _ _ (by assumption) (by assumption) _ _ _ _ _ _ _ _ (by k_mem) (by k_mem) hne hi ?_ ?_ hl _ _ _ ?_ ?_)
      all_goals first | assumption | exact fm0 (by omega) | exact fm1 (by omega))
  all_goals (dsimp only; refine hg _ _ _ (by assumption) (by assumption) _ _ _ _ _ _ _ _ (by k_mem) (by k_mem) hne hi ?_ ?_ hl _ _ _ ?_ ?_)
  all_goals first | assumption | exact fm0 (by omega) | exact fm1 (by omega)
end Mine
end Take

section Data
open PySem
namespace Mine

inductive Tr where
  | null
  | name (x : Str)
  | vec (k : Str) (rows : List Int) (ats : List (Str × Int))
  | list (kids : List Tr) (ats : List (Str × Int))
  | call (tags : List (Option Str)) (kids : List Tr)

noncomputable def all2 {α β : Type} (f : α → β → Bool) : List α → List β → Bool
  | [], [] => true
  | a :: as, b :: bs => f a b && all2 f as bs
  | _, _ => false

noncomputable def pq (x : Int) : Str := if x = 0 then ("p" : Str) else ("q" : Str)
noncomputable def itemsEq (k : Str) (r r' : List Int) : Bool := if k = ("character" : Str) then decide (r.map pq = r'.map pq) else decide (r = r')
noncomputable def at? (n : Str) : List (Str × Int) → Option Int
  | [] => none
  | p :: r => if p.1 = n then some p.2 else at? n r
noncomputable def eqAt1 (b : List (Str × Int)) (p : Str × Int) : Bool := match at? p.1 b with | some x => decide (p.2 = x) | none => false
noncomputable def eqAt (a b : List (Str × Int)) : Bool := decide (a.length = b.length) && a.all (eqAt1 b)
noncomputable def nm (a : List (Str × Int)) : Option Int := at? ("names" : Str) a

noncomputable def kindOf : Tr → Str
  | .null => ("NULL" : Str)
  | .name _ => ("symbol" : Str)
  | .vec k _ _ => k
  | .list _ _ => ("list" : Str)
  | .call _ _ => ("language" : Str)
def okKind (k : Str) : Prop := k = ("integer" : Str) ∨ k = ("character" : Str) ∨ k = ("logical" : Str)
noncomputable def atsOf : Tr → List (Str × Int)
  | .vec _ _ a => a
  | .list _ a => a
  | _ => []
noncomputable def setAts : Tr → List (Str × Int) → Tr
  | .vec k r _, a => .vec k r a
  | .list ks _, a => .list ks a
  | T, _ => T

noncomputable def same : Nat → Tr → Tr → Bool
  | _, .null, .null => true
  | _, .name x, .name y => decide (x = y)
  | _, .vec k r a, .vec k' r' a' => decide (k = k') && (itemsEq k r r' && eqAt a a')
  | n + 1, .list us a, .list vs a' => all2 (same n) us vs && eqAt a a'
  | n + 1, .call t us, .call t' vs => decide (t = t') && all2 (same n) us vs
  | _, _, _ => false
noncomputable def code : Nat → Tr → Tr → Bool
  | _, .null, .null => true
  | _, .name x, .name y => decide (x = y)
  | _, .vec k r a, .vec k' r' a' => decide (k = k') && (decide (nm a = nm a') && itemsEq k r r')
  | n + 1, .list us a, .list vs a' => decide (nm a = nm a') && all2 (code n) us vs
  | n + 1, .call t us, .call t' vs => decide (t = t') && all2 (code n) us vs
  | _, _, _ => false
noncomputable def turn : Nat → Tr → Tr
  | _, .vec k r a => .vec k r a.reverse
  | n + 1, .list ks a => .list (ks.map (turn n)) a.reverse
  | n + 1, .call t ks => .call t (ks.map (turn n))
  | _, T => T
noncomputable def turnIf (n : Nat) (b : Bool) (T : Tr) : Tr := if b then turn n T else T

def okAts (c : Nat) (a : List (Str × Int)) : Prop := (a.map (·.1)).Nodup ∧ a.length ≤ 10 * c ∧ (c ≤ 1 → ∀ p ∈ a, p.1 ≠ ("other" : Str)) ∧ (∀ p ∈ a, p.1 ≠ ("elsewhere" : Str)) ∧ ∀ p ∈ a, PyData.strOk p.1 = true
def okTag (x : Option Str) : Prop := x = none ∨ x = some ("x" : Str) ∨ x = some ("y" : Str) ∨ x = some ("z" : Str)
/-- c: 1 as the tree is drawn, 2 as it is changed -/
noncomputable def Wf (c : Nat) : Nat → Tr → Prop
  | _, .null => True
  | _, .name x => x.length ≤ 10 * c
  | _, .vec k r a => okKind k ∧ (∀ x ∈ r, x = 0 ∨ x = 1) ∧ r.length ≤ 10 * c ∧ okAts c a
  | n + 1, .list ks a => ks ≠ [] ∧ ks.length ≤ 10 * c ∧ (∀ k ∈ ks, Wf c n k) ∧ okAts c a
  | n + 1, .call t ks => ks ≠ [] ∧ t ≠ [] ∧ t.length ≤ 10 * c ∧ ks.length ≤ 10 * c ∧ (c ≤ 1 → ∀ x ∈ t, x ≠ some ("z" : Str)) ∧ (∀ k ∈ ks, Wf c n k) ∧ ∀ x ∈ t, okTag x
  | 0, .list _ _ => False
  | 0, .call _ _ => False

theorem Wf.vec {c n : Nat} {k : Str} {r : List Int} {a : List (Str × Int)} (h : Wf c n (.vec k r a)) : okKind k ∧ (∀ x ∈ r, x = 0 ∨ x = 1) ∧ r.length ≤ 10 * c ∧ okAts c a := by cases n <;> exact h

inductive ChgA : List (Str × Int) → List (Str × Int) → Prop
  | last (p : Str × Int) (a : List (Str × Int)) : ChgA (a ++ [p]) (a ++ [(p.1, p.2 + 1)])
  | more (a : List (Str × Int)) : ChgA a (a ++ [(("other" : Str), 1)])
inductive ChgV : Str → List Int → Str → List Int → Prop
  | flip (k : Str) (x : Int) (r : List Int) : ChgV k (x :: r) k ((1 - x) :: r)
  | kind (k : Str) (r : List Int) : ChgV k r (if k ≠ ("character" : Str) then ("character" : Str) else ("integer" : Str)) r
  | more (k : Str) (r : List Int) : ChgV k r k (r ++ [1])
noncomputable def Chg : Nat → Tr → Tr → Prop
  | _, .null, T => T = .name ("a" : Str)
  | _, .name x, T => T = .name (x.append ("1" : Str))
  | _, .vec k r a, T => (∃ a', ChgA a a' ∧ T = .vec k r a') ∨ ∃ k' r', ChgV k r k' r' ∧ T = .vec k' r' a
  | n + 1, .list ks a, T => (∃ pre k post k', ks = pre ++ k :: post ∧ Chg n k k' ∧ T = .list (pre ++ k' :: post) a) ∨ (∃ a', ChgA a a' ∧ T = .list ks a') ∨ T = .list (ks ++ [.null]) a
  | n + 1, .call t ks, T => (∃ pre k post k', ks = pre ++ k :: post ∧ Chg n k k' ∧ T = .call t (pre ++ k' :: post)) ∨ T = .call (t.dropLast ++ [some ("z" : Str)]) ks
  | 0, .list _ _, _ => False
  | 0, .call _ _, _ => False

/-! ## the plain law -/
theorem all2_map_l {α β γ : Type} (f : α → β → Bool) (g : γ → α) : ∀ (us : List γ) (vs : List β), all2 f (us.map g) vs = all2 (fun u v => f (g u) v) us vs
  | [], [] => rfl
  | [], _ :: _ => rfl
  | _ :: _, [] => rfl
  | u :: us, v :: vs => by simp only [List.map_cons, all2, all2_map_l f g us vs]
theorem all2_map_r {α β γ : Type} (f : α → β → Bool) (g : γ → β) : ∀ (us : List α) (vs : List γ), all2 f us (vs.map g) = all2 (fun u v => f u (g v)) us vs
  | [], [] => rfl
  | [], _ :: _ => rfl
  | _ :: _, [] => rfl
  | u :: us, v :: vs => by simp only [List.map_cons, all2, all2_map_r f g us vs]
theorem all2_congr {α β : Type} {f g : α → β → Bool} : ∀ {us : List α} {vs : List β}, (∀ u ∈ us, ∀ v ∈ vs, f u v = g u v) → all2 f us vs = all2 g us vs
  | [], [], _ => rfl
  | [], _ :: _, _ => rfl
  | _ :: _, [], _ => rfl
  | u :: us, v :: vs, h => by
    simp only [all2, h u (.head _) v (.head _), all2_congr (us := us) (vs := vs) fun a ha b hb => h a (.tail _ ha) b (.tail _ hb)]
theorem all2_refl {α : Type} {f : α → α → Bool} : ∀ {us : List α}, (∀ u ∈ us, f u u = true) → all2 f us us = true
  | [], _ => rfl
  | u :: us, h => by simp only [all2, h u (.head _), all2_refl fun a ha => h a (.tail _ ha), Bool.and_self]
theorem all2_at {α : Type} {f : α → α → Bool} {k k' : α} (h : f k k' = false) : ∀ (pre post : List α), all2 f (pre ++ k :: post) (pre ++ k' :: post) = false
  | [], _ => by simp only [List.nil_append, all2, h, Bool.false_and]
  | _ :: pre, post => by simp only [List.cons_append, all2, all2_at h pre post, Bool.and_false]
theorem all2_more {α : Type} {f : α → α → Bool} : ∀ (us : List α) (x : α), all2 f us (us ++ [x]) = false
  | [], _ => rfl
  | _ :: us, x => by simp only [List.cons_append, all2, all2_more us x, Bool.and_false]
theorem all2_less {α : Type} {f : α → α → Bool} : ∀ (us : List α) (x : α), all2 f (us ++ [x]) us = false
  | [], _ => rfl
  | _ :: us, x => by simp only [List.cons_append, all2, all2_less us x, Bool.and_false]

theorem at?_none {n : Str} : ∀ {a : List (Str × Int)}, n ∉ a.map (·.1) → at? n a = none
  | [], _ => rfl
  | p :: r, h => by
    have h1 : p.1 ≠ n := fun e => h (by rw [← e]; exact .head _)
    simp only [at?, if_neg h1]
    exact at?_none fun q => h (.tail _ q)
theorem at?_mem {p : Str × Int} : ∀ {a : List (Str × Int)}, (a.map (·.1)).Nodup → p ∈ a → at? p.1 a = some p.2
  | q :: r, hn, hp => by
    have hn' := List.nodup_cons.mp (by simpa using hn : (q.1 :: r.map (·.1)).Nodup)
    rcases List.mem_cons.mp hp with rfl | hp
    · simp [at?]
    · have : q.1 ≠ p.1 := fun e => hn'.1 (e ▸ List.mem_map_of_mem hp)
      simp only [at?, if_neg this]
      exact at?_mem hn'.2 hp
theorem at?_reverse {n : Str} {a : List (Str × Int)} (h : (a.map (·.1)).Nodup) : at? n a.reverse = at? n a := by
  have hr : (a.reverse.map (·.1)).Nodup := by rw [List.map_reverse]; exact List.pairwise_reverse.mpr (h.imp fun q => Ne.symm q)
  by_cases hm : n ∈ a.map (·.1)
  · obtain ⟨p, hp, rfl⟩ := List.mem_map.mp hm
    rw [at?_mem h hp, at?_mem hr (List.mem_reverse.mpr hp)]
  · rw [at?_none hm, at?_none (by rw [List.map_reverse]; exact fun q => hm (List.mem_reverse.mp q))]
theorem eqAt_rev_l (a b : List (Str × Int)) : eqAt a.reverse b = eqAt a b := by unfold eqAt; rw [List.length_reverse, List.all_reverse]
theorem eqAt_rev_r {b : List (Str × Int)} (h : (b.map (·.1)).Nodup) (a : List (Str × Int)) : eqAt a b.reverse = eqAt a b := by
  unfold eqAt eqAt1
  simp only [List.length_reverse, at?_reverse h]
theorem eqAt_refl {a : List (Str × Int)} (h : (a.map (·.1)).Nodup) : eqAt a a = true := by
  unfold eqAt eqAt1
  simp only [decide_true, Bool.true_and, List.all_eq_true]
  intro p hp
  rw [at?_mem h hp]; simp
theorem eqAt_len {a b : List (Str × Int)} (h : a.length ≠ b.length) : eqAt a b = false := by unfold eqAt; simp [h]
theorem eqAt_last_l {a : List (Str × Int)} {p : Str × Int} (h : ((a ++ [p]).map (·.1)).Nodup) : eqAt (a ++ [p]) (a ++ [(p.1, p.2 + 1)]) = false := by
  have hn : ((a ++ [(p.1, p.2 + 1)]).map (·.1)).Nodup := by simpa using h
  unfold eqAt
  rw [Bool.and_eq_false_iff]; right
  rw [List.all_eq_false]
  refine ⟨p, by simp, ?_⟩
  unfold eqAt1
  have := at?_mem (p := (p.1, p.2 + 1)) hn (by simp)
  dsimp only at this
  rw [this]
  simp
  omega
theorem eqAt_last_r {a : List (Str × Int)} {p : Str × Int} (h : ((a ++ [p]).map (·.1)).Nodup) : eqAt (a ++ [(p.1, p.2 + 1)]) (a ++ [p]) = false := by
  unfold eqAt
  rw [Bool.and_eq_false_iff]; right
  rw [List.all_eq_false]
  refine ⟨(p.1, p.2 + 1), by simp, ?_⟩
  unfold eqAt1
  have := at?_mem (p := p) h (by simp)
  dsimp only
  rw [this]
  simp
  omega
theorem chgA_l {a a' : List (Str × Int)} (h : (a.map (·.1)).Nodup) (x : ChgA a a') : eqAt a a' = false := by
  cases x with
  | last p a => exact eqAt_last_l h
  | more => exact eqAt_len (by simp)
theorem chgA_r {a a' : List (Str × Int)} (h : (a.map (·.1)).Nodup) (x : ChgA a a') : eqAt a' a = false := by
  cases x with
  | last p a => exact eqAt_last_r h
  | more => exact eqAt_len (by simp)

theorem itemsEq_refl (k : Str) (r : List Int) : itemsEq k r r = true := by unfold itemsEq; split <;> simp
theorem itemsEq_len {k : Str} {r r' : List Int} (h : r.length ≠ r'.length) : itemsEq k r r' = false := by
  unfold itemsEq
  split
  · refine decide_eq_false fun e => h ?_
    have := congrArg List.length e
    simpa using this
  · exact decide_eq_false fun e => h (by rw [e])
theorem p_ne_q : ("p" : Str) ≠ ("q" : Str) := by decide +kernel
theorem pq_flip {x : Int} (h : x = 0 ∨ x = 1) : pq (1 - x) ≠ pq x := by
  rcases h with rfl | rfl
  · show ("q" : Str) ≠ ("p" : Str); exact fun e => p_ne_q e.symm
  · show ("p" : Str) ≠ ("q" : Str); exact p_ne_q
theorem itemsEq_flip {k : Str} {x : Int} {r : List Int} (h : x = 0 ∨ x = 1) : itemsEq k (x :: r) ((1 - x) :: r) = false ∧ itemsEq k ((1 - x) :: r) (x :: r) = false := by
  unfold itemsEq
  have h2 : ¬ x = 1 - x := by omega
  have h3 : ¬ 1 - x = x := by omega
  constructor <;> split <;> simp_all [pq_flip h, Ne.symm (pq_flip h)]
theorem kind_ne (k : Str) : k ≠ (if k ≠ ("character" : Str) then ("character" : Str) else ("integer" : Str)) := by
  have : ("character" : Str) ≠ ("integer" : Str) := by decide +kernel
  split
  · assumption
  · simp_all
theorem chgV_l {k k' : Str} {r r' : List Int} (h : ∀ x ∈ r, x = 0 ∨ x = 1) (x : ChgV k r k' r') : (decide (k = k') && itemsEq k r r') = false ∧ (decide (k' = k) && itemsEq k' r' r) = false := by
  cases x with
  | flip x r => simp [itemsEq_flip (h x (.head _))]
  | kind => exact ⟨by rw [decide_eq_false (kind_ne k)]; rfl, by rw [decide_eq_false (Ne.symm (kind_ne k))]; rfl⟩
  | more => exact ⟨by rw [itemsEq_len (by simp)]; simp, by rw [itemsEq_len (by simp)]; simp⟩

theorem name_ne (x : Str) : x.append ("1" : Str) ≠ x := fun e => by
  have := congrArg Str.length e
  have h : (x.append ("1" : Str)).length = x.length + ("1" : Str).length := by simp [Str.length, Str.append]
  rw [h, show ("1" : Str).length = 1 from by decide +kernel] at this
  omega
theorem tags_ne {t : List (Option Str)} (h : ∀ x ∈ t, x ≠ some ("z" : Str)) : t ≠ t.dropLast ++ [some ("z" : Str)] := fun e => h (some ("z" : Str)) (by rw [e]; simp) rfl

theorem same_turn_l {c : Nat} : ∀ (n : Nat) (T V : Tr), Wf c n T → same n (turn n T) V = same n T V
  | _, .null, _, _ => by unfold turn; rfl
  | _, .name _, _, _ => by unfold turn; rfl
  | n, .vec k r a, V, _ => by
    unfold turn
    cases V <;> unfold same <;> first | rfl | rw [eqAt_rev_l] | (cases n <;> rfl)
  | n + 1, .list ks a, V, h => by
    unfold turn
    cases V with
    | list vs b =>
      unfold same
      rw [eqAt_rev_l, all2_map_l]
      congr 1
      exact all2_congr fun u hu v _ => same_turn_l n u v (h.2.2.1 u hu)
    | _ => unfold same; rfl
  | n + 1, .call t ks, V, h => by
    unfold turn
    cases V with
    | call t' vs =>
      unfold same
      rw [all2_map_l]
      congr 1
      exact all2_congr fun u hu v _ => same_turn_l n u v (h.2.2.2.2.2.1 u hu)
    | _ => unfold same; rfl
  | 0, .list _ _, _, h => h.elim
  | 0, .call _ _, _, h => h.elim
theorem same_turn_r {c : Nat} : ∀ (n : Nat) (V T : Tr), Wf c n T → same n V (turn n T) = same n V T
  | _, _, .null, _ => by unfold turn; rfl
  | _, _, .name _, _ => by unfold turn; rfl
  | n, V, .vec k r a, h => by
    unfold turn
    cases V <;> unfold same <;> first | rfl | rw [eqAt_rev_r h.vec.2.2.2.1] | (cases n <;> rfl)
  | n + 1, V, .list ks a, h => by
    unfold turn
    cases V with
    | list vs b =>
      unfold same
      rw [eqAt_rev_r h.2.2.2.1, all2_map_r]
      congr 1
      exact all2_congr fun u _ v hv => same_turn_r n u v (h.2.2.1 v hv)
    | _ => unfold same; rfl
  | n + 1, V, .call t ks, h => by
    unfold turn
    cases V with
    | call t' vs =>
      unfold same
      rw [all2_map_r]
      congr 1
      exact all2_congr fun u _ v hv => same_turn_r n u v (h.2.2.2.2.2.1 v hv)
    | _ => unfold same; rfl
  | 0, _, .list _ _, h => h.elim
  | 0, _, .call _ _, h => h.elim
theorem same_refl {c : Nat} : ∀ (n : Nat) (T : Tr), Wf c n T → same n T T = true
  | _, .null, _ => by unfold same; rfl
  | _, .name _, _ => by unfold same; simp
  | n, .vec k r a, h => by unfold same; rw [itemsEq_refl, eqAt_refl h.vec.2.2.2.1]; simp
  | n + 1, .list ks a, h => by unfold same; rw [eqAt_refl h.2.2.2.1, all2_refl fun u hu => same_refl n u (h.2.2.1 u hu)]; rfl
  | n + 1, .call t ks, h => by unfold same; rw [all2_refl fun u hu => same_refl n u (h.2.2.2.2.2.1 u hu)]; simp
  | 0, .list _ _, h => h.elim
  | 0, .call _ _, h => h.elim
theorem code_refl {c : Nat} : ∀ (n : Nat) (T : Tr), Wf c n T → code n T T = true
  | _, .null, _ => by unfold code; rfl
  | _, .name _, _ => by unfold code; simp
  | n, .vec k r a, h => by unfold code; rw [itemsEq_refl]; simp
  | n + 1, .list ks a, h => by unfold code; rw [all2_refl fun u hu => code_refl n u (h.2.2.1 u hu)]; simp
  | n + 1, .call t ks, h => by unfold code; rw [all2_refl fun u hu => code_refl n u (h.2.2.2.2.2.1 u hu)]; simp
  | 0, .list _ _, h => h.elim
  | 0, .call _ _, h => h.elim
theorem code_turn_l {c : Nat} : ∀ (n : Nat) (T V : Tr), Wf c n T → code n (turn n T) V = code n T V
  | _, .null, _, _ => by unfold turn; rfl
  | _, .name _, _, _ => by unfold turn; rfl
  | n, .vec k r a, V, h => by
    unfold turn
    cases V <;> unfold code <;> first | rfl | (unfold nm; rw [at?_reverse h.vec.2.2.2.1]) | (cases n <;> rfl)
  | n + 1, .list ks a, V, h => by
    unfold turn
    cases V with
    | list vs b =>
      unfold code
      rw [all2_map_l]; unfold nm; rw [at?_reverse h.2.2.2.1]
      congr 1
      exact all2_congr fun u hu v _ => code_turn_l n u v (h.2.2.1 u hu)
    | _ => unfold code; rfl
  | n + 1, .call t ks, V, h => by
    unfold turn
    cases V with
    | call t' vs =>
      unfold code
      rw [all2_map_l]
      congr 1
      exact all2_congr fun u hu v _ => code_turn_l n u v (h.2.2.2.2.2.1 u hu)
    | _ => unfold code; rfl
  | 0, .list _ _, _, h => h.elim
  | 0, .call _ _, _, h => h.elim
theorem code_turn_r {c : Nat} : ∀ (n : Nat) (V T : Tr), Wf c n T → code n V (turn n T) = code n V T
  | _, _, .null, _ => by unfold turn; rfl
  | _, _, .name _, _ => by unfold turn; rfl
  | n, V, .vec k r a, h => by
    unfold turn
    cases V <;> unfold code <;> first | rfl | (unfold nm; rw [at?_reverse h.vec.2.2.2.1]) | (cases n <;> rfl)
  | n + 1, V, .list ks a, h => by
    unfold turn
    cases V with
    | list vs b =>
      unfold code
      rw [all2_map_r]; unfold nm; rw [at?_reverse h.2.2.2.1]
      congr 1
      exact all2_congr fun u _ v hv => code_turn_r n u v (h.2.2.1 v hv)
    | _ => unfold code; rfl
  | n + 1, V, .call t ks, h => by
    unfold turn
    cases V with
    | call t' vs =>
      unfold code
      rw [all2_map_r]
      congr 1
      exact all2_congr fun u _ v hv => code_turn_r n u v (h.2.2.2.2.2.1 v hv)
    | _ => unfold code; rfl
  | 0, _, .list _ _, h => h.elim
  | 0, _, .call _ _, h => h.elim

theorem chg_ne : ∀ (n : Nat) (T T' : Tr), Wf 1 n T → Chg n T T' → same n T T' = false ∧ same n T' T = false
  | n, .null, T', _, h => by unfold Chg at h; subst h; unfold same; exact ⟨rfl, rfl⟩
  | n, .name x, T', _, h => by
    unfold Chg at h; subst h; unfold same
    exact ⟨decide_eq_false (Ne.symm (name_ne x)), decide_eq_false (name_ne x)⟩
  | n, .vec k r a, T', w, h => by
    unfold Chg at h
    rcases h with ⟨a', ha, rfl⟩ | ⟨k', r', hv, rfl⟩
    · unfold same
      rw [chgA_l w.vec.2.2.2.1 ha, chgA_r w.vec.2.2.2.1 ha]; simp
    · unfold same
      have z := chgV_l w.vec.2.1 hv
      constructor
      · rw [← Bool.and_assoc, z.1]; rfl
      · rw [← Bool.and_assoc, z.2]; rfl
  | n + 1, .list ks a, T', w, h => by
    unfold Chg at h
    rcases h with ⟨pre, k, post, k', rfl, hk, rfl⟩ | ⟨a', ha, rfl⟩ | rfl
    · have z := chg_ne n k k' (w.2.2.1 k (by simp)) hk
      unfold same
      rw [all2_at z.1, all2_at z.2]; exact ⟨rfl, rfl⟩
    · unfold same
      rw [chgA_l w.2.2.2.1 ha, chgA_r w.2.2.2.1 ha]; simp
    · unfold same
      rw [all2_more, all2_less]; exact ⟨rfl, rfl⟩
  | n + 1, .call t ks, T', w, h => by
    unfold Chg at h
    rcases h with ⟨pre, k, post, k', rfl, hk, rfl⟩ | rfl
    · have z := chg_ne n k k' (w.2.2.2.2.2.1 k (by simp)) hk
      unfold same
      rw [all2_at z.1, all2_at z.2]; simp
    · have z := tags_ne (w.2.2.2.2.1 (Nat.le_refl _))
      unfold same
      exact ⟨by rw [decide_eq_false z]; rfl, by rw [decide_eq_false (Ne.symm z)]; rfl⟩
  | 0, .list _ _, _, w, _ => w.elim
  | 0, .call _ _, _, w, _ => w.elim

theorem more_ats {c n : Nat} {T : Tr} (w : Wf c n T) (hv : (∃ k r a, T = .vec k r a) ∨ ∃ ks a, T = .list ks a) :
    code n T (setAts T (atsOf T ++ [(("elsewhere" : Str), 1)])) = true ∧ same n T (setAts T (atsOf T ++ [(("elsewhere" : Str), 1)])) = false := by
  have nmE : ∀ a : List (Str × Int), nm (a ++ [(("elsewhere" : Str), 1)]) = nm a := by
    intro a
    unfold nm
    induction a with
    | nil =>
      have : ("elsewhere" : Str) ≠ ("names" : Str) := by decide +kernel
      simp [at?, this]
    | cons p r ih => simp only [List.cons_append, at?, ih]
  rcases hv with ⟨k, r, a, rfl⟩ | ⟨ks, a, rfl⟩
  · unfold setAts atsOf
    dsimp only
    unfold code same
    rw [nmE, itemsEq_refl, eqAt_len (a := a) (by simp)]
    simp
  · cases n with
    | zero => exact w.elim
    | succ n =>
      unfold setAts atsOf
      dsimp only
      unfold code same
      rw [nmE, eqAt_len (a := a) (by simp), all2_refl fun u hu => code_refl n u (w.2.2.1 u hu)]
      simp
end Mine
end Data

section Rel
open PySem PySem.Spec PySem.Calls PyProof.Rows PySem.W PyProof.V
namespace Mine

noncomputable abbrev tupObj (vs : List Value) (k : Nat) : Obj := { cls := .type "tuple", data := .seq vs.toArray k }

inductive All2 {α β : Type} (R : α → β → Prop) : List α → List β → Prop
  | nil : All2 R [] []
  | cons {a : α} {b : β} {as : List α} {bs : List β} : R a b → All2 R as bs → All2 R (a :: as) (b :: bs)
theorem All2.mono {α β : Type} {R R' : α → β → Prop} (h : ∀ a b, R a b → R' a b) : ∀ {as : List α} {bs : List β}, All2 R as bs → All2 R' as bs
  | _, _, .nil => .nil
  | _, _, .cons x r => .cons (h _ _ x) (r.mono h)
theorem All2.length {α β : Type} {R : α → β → Prop} : ∀ {as : List α} {bs : List β}, All2 R as bs → as.length = bs.length
  | _, _, .nil => rfl
  | _, _, .cons _ r => by rw [List.length_cons, List.length_cons, r.length]
theorem All2.get {α β : Type} {R : α → β → Prop} : ∀ {as : List α} {bs : List β}, All2 R as bs → ∀ {i : Nat} {a : α}, as[i]? = some a → ∃ b, bs[i]? = some b ∧ R a b
  | _, _, .cons x _, 0, _, h => by cases h; exact ⟨_, rfl, x⟩
  | _, _, .cons _ r, _ + 1, _, h => r.get (by simpa using h)
theorem All2.append {α β : Type} {R : α → β → Prop} : ∀ {as as' : List α} {bs bs' : List β}, All2 R as bs → All2 R as' bs' → All2 R (as ++ as') (bs ++ bs')
  | _, _, _, _, .nil, y => y
  | _, _, _, _, .cons x r, y => .cons x (r.append y)
theorem All2.reverse {α β : Type} {R : α → β → Prop} : ∀ {as : List α} {bs : List β}, All2 R as bs → All2 R as.reverse bs.reverse
  | _, _, .nil => .nil
  | _, _, .cons x r => by rw [List.reverse_cons, List.reverse_cons]; exact r.reverse.append (.cons x .nil)

noncomputable def itm (k : Str) (x : Int) : PyData := if k = ("character" : Str) then .str (pq x) else .int x
noncomputable def tagD : Option Str → PyData
  | none => .none
  | some x => .str x

/-- a list that lies at a value -/
def Lst (P : Addr → Obj → Prop) (v : Value) (vs : List Value) : Prop := ∃ a n, v = .ref a ∧ P a (listOf vs.toArray n) ∧ vs.length ≤ 1000
def AtT (P : Addr → Obj → Prop) (v : Value) (p : Str × Int) : Prop := ∃ q t t' k, v = .ref q ∧ P q (tupObj [.str p.1 t, .int p.2 t'] k)
def Node (P : Addr → Obj → Prop) (v : Value) (kind : Str) (extra rows ats : Value) : Prop := ∃ a t n, v = .ref a ∧ P a (listOf #[.str kind t, extra, rows, ats] n)

/-- the drawn tree, as lists -/
noncomputable def TIn (P : Addr → Obj → Prop) : Nat → Value → Tr → Prop
  | _, v, .null => ∃ t rows ats, Node P v "NULL" (.str "" t) rows ats ∧ Lst P rows [] ∧ Lst P ats []
  | _, v, .name x => ∃ t rows ats, Node P v "name" (.str x t) rows ats ∧ Lst P rows [] ∧ Lst P ats []
  | _, v, .vec k r a => ∃ t rows vs ats us, Node P v "vector" (.str k t) rows ats ∧ Lst P rows vs ∧ IntsAre vs r ∧ Lst P ats us ∧ All2 (AtT P) us a
  | n + 1, v, .list ks a => ∃ t rows vs ats us, Node P v "list" (.str "" t) rows ats ∧ Lst P rows vs ∧ All2 (TIn P n) vs ks ∧ Lst P ats us ∧ All2 (AtT P) us a
  | n + 1, v, .call tg ks => ∃ extra es rows vs ats, Node P v "call" extra rows ats ∧ Lst P extra es ∧ CarriedAll es (tg.map tagD) ∧ Lst P rows vs ∧ All2 (TIn P n) vs ks ∧ Lst P ats []
  | 0, _, .list _ _ => False
  | 0, _, .call _ _ => False

def Inst (P : Addr → Obj → Prop) (C : Addr) (x : Addr) (fs : List (Str × Value)) : Prop :=
  ∃ dx es n, P x (instObj C dx) ∧ P dx (dictOf es n) ∧ ∀ p ∈ fs, getL p.1 es = some (some p.2)
/-- a vector of data -/
def VecIn (P : Addr → Obj → Prop) (k : Str) (r : List Int) (v atv : Value) : Prop :=
  ∃ x t rows vs, v = .ref x ∧ Inst P 67 x [("kind", .str k t), ("items", rows), ("attrs", atv)] ∧ Lst P rows vs ∧ CarriedAll vs (r.map (itm k))
def AtP (P : Addr → Obj → Prop) (kv : Str × Value) (p : Str × Int) : Prop := kv.1 = p.1 ∧ VecIn P "integer" [p.2] kv.2 .none
def AtV (w : World) (P : Addr → Obj → Prop) (v : Value) (a : List (Str × Int)) : Prop :=
  (a = [] ∧ v = .none) ∨ ∃ d o kvs, v = .ref d ∧ P d o ∧ (d == sysModules) = false ∧ o.IsDictOf (PySem.strKind PySem.Challenge.rw_pq1317_01.row.prog w) kvs ∧ kvs.length ≤ 1000 ∧ All2 (AtP P) kvs a
/-- the built value -/
noncomputable def VIn (w : World) (P : Addr → Obj → Prop) : Nat → Value → Tr → Prop
  | _, v, .null => ∃ x t, v = .ref x ∧ Inst P 38 x [("kind", .str "NULL" t), ("attrs", .none)]
  | _, v, .name y => ∃ x t t', v = .ref x ∧ Inst P 88 x [("kind", .str "symbol" t), ("name", .str y t'), ("attrs", .none)]
  | _, v, .vec k r a => okKind k ∧ ∃ atv, VecIn P k r v atv ∧ AtV w P atv a
  | n + 1, v, .list ks a => ∃ x t rows vs atv, v = .ref x ∧ Inst P 67 x [("kind", .str "list" t), ("items", rows), ("attrs", atv)] ∧ Lst P rows vs ∧ All2 (VIn w P n) vs ks ∧ AtV w P atv a
  | n + 1, v, .call tg ks => ∃ x t rows vs tags es, v = .ref x ∧ Inst P 110 x [("kind", .str "language" t), ("items", rows), ("tags", tags), ("attrs", .none)] ∧ Lst P rows vs ∧ All2 (VIn w P n) vs ks ∧
      Lst P tags es ∧ CarriedAll es (tg.map tagD) ∧ ∀ x ∈ tg, okTag x
  | 0, _, .list _ _ => False
  | 0, _, .call _ _ => False

section
variable {P P' : Addr → Obj → Prop} (h : ∀ a o, P a o → P' a o)
include h
theorem Lst.mono {v : Value} {vs : List Value} (x : Lst P v vs) : Lst P' v vs := let ⟨a, n, e, p, l⟩ := x; ⟨a, n, e, h _ _ p, l⟩
theorem AtT.mono {v : Value} {p : Str × Int} (x : AtT P v p) : AtT P' v p := let ⟨q, t, t', k, e, p⟩ := x; ⟨q, t, t', k, e, h _ _ p⟩
theorem Node.mono {v : Value} {kind : Str} {e r a : Value} (x : Node P v kind e r a) : Node P' v kind e r a := let ⟨q, t, n, e, p⟩ := x; ⟨q, t, n, e, h _ _ p⟩
theorem TIn.mono : ∀ {n : Nat} {v : Value} {T : Tr}, TIn P n v T → TIn P' n v T
  | n, v, .null, x => by
    unfold TIn at x ⊢
    obtain ⟨t, r, a, x1, x2, x3⟩ := x
    exact ⟨t, r, a, x1.mono h, x2.mono h, x3.mono h⟩
  | n, v, .name y, x => by
    unfold TIn at x ⊢
    obtain ⟨t, r, a, x1, x2, x3⟩ := x
    exact ⟨t, r, a, x1.mono h, x2.mono h, x3.mono h⟩
  | n, v, .vec k r a, x => by
    unfold TIn at x ⊢
    obtain ⟨t, r, vs, a, us, x1, x2, x3, x4, x5⟩ := x
    exact ⟨t, r, vs, a, us, x1.mono h, x2.mono h, x3, x4.mono h, x5.mono fun _ _ y => y.mono h⟩
  | n + 1, v, .list ks a, x => by
    unfold TIn at x ⊢
    obtain ⟨t, r, vs, a, us, x1, x2, x3, x4, x5⟩ := x
    exact ⟨t, r, vs, a, us, x1.mono h, x2.mono h, x3.mono fun _ _ y => TIn.mono y, x4.mono h, x5.mono fun _ _ y => y.mono h⟩
  | n + 1, v, .call tg ks, x => by
    unfold TIn at x ⊢
    obtain ⟨e, es, r, vs, a, x1, x2, x3, x4, x5, x6⟩ := x
    exact ⟨e, es, r, vs, a, x1.mono h, x2.mono h, x3, x4.mono h, x5.mono fun _ _ y => TIn.mono y, x6.mono h⟩
  | 0, _, .list _ _, x => x.elim
  | 0, _, .call _ _, x => x.elim
theorem Inst.mono {C x : Addr} {fs : List (Str × Value)} (y : Inst P C x fs) : Inst P' C x fs := let ⟨dx, es, n, a, b, c⟩ := y; ⟨dx, es, n, h _ _ a, h _ _ b, c⟩
theorem VecIn.mono {k : Str} {r : List Int} {v a : Value} (y : VecIn P k r v a) : VecIn P' k r v a := let ⟨x, t, r, vs, e, i, l, c⟩ := y; ⟨x, t, r, vs, e, i.mono h, l.mono h, c⟩
theorem AtV.mono {w : World} {v : Value} {a : List (Str × Int)} (y : AtV w P v a) : AtV w P' v a := by
  rcases y with y | ⟨d, o, kvs, e, p, lo, hd, l, q⟩
  · exact .inl y
  · exact .inr ⟨d, o, kvs, e, h _ _ p, lo, hd, l, q.mono fun _ _ z => ⟨z.1, z.2.mono h⟩⟩
theorem VIn.mono {w : World} : ∀ {n : Nat} {v : Value} {T : Tr}, VIn w P n v T → VIn w P' n v T
  | n, v, .null, x => by
    unfold VIn at x ⊢
    obtain ⟨y, t, e, i⟩ := x
    exact ⟨y, t, e, i.mono h⟩
  | n, v, .name y, x => by
    unfold VIn at x ⊢
    obtain ⟨y, t, t', e, i⟩ := x
    exact ⟨y, t, t', e, i.mono h⟩
  | n, v, .vec k r a, x => by
    unfold VIn at x ⊢
    obtain ⟨ok, atv, i, l⟩ := x
    exact ⟨ok, atv, i.mono h, l.mono h⟩
  | n + 1, v, .list ks a, x => by
    unfold VIn at x ⊢
    obtain ⟨y, t, r, vs, atv, e, i, l, q, z⟩ := x
    exact ⟨y, t, r, vs, atv, e, i.mono h, l.mono h, q.mono fun _ _ y => VIn.mono y, z.mono h⟩
  | n + 1, v, .call tg ks, x => by
    unfold VIn at x ⊢
    obtain ⟨y, t, r, vs, tags, es, e, i, l, q, z, c⟩ := x
    exact ⟨y, t, r, vs, tags, es, e, i.mono h, l.mono h, q.mono fun _ _ y => VIn.mono y, z.mono h, c⟩
  | 0, _, .list _ _, x => x.elim
  | 0, _, .call _ _, x => x.elim
end

/-! ## == of such lists -/
theorem pq_ok (x : Int) : PyData.strOk (pq x) = true := by unfold pq; split <;> decide +kernel
theorem itm_lay1 (k : Str) (x : Int) : PyData.canLay0 (itm k x) = true := by unfold itm; split <;> simp [PyData.canLay0, pq_ok]
theorem itm_depth1 (k : Str) (x : Int) : PyData.depth (itm k x) = 0 := by unfold itm; split <;> rfl
theorem itm_lay (k : Str) : ∀ r : List Int, PyData.canLayAll0 (r.map (itm k)) = true
  | [] => rfl
  | x :: r => by rw [List.map_cons]; simp only [PyData.canLayAll0, itm_lay1, itm_lay k r, Bool.and_self]
theorem itm_depth (k : Str) : ∀ r : List Int, PyData.depthAll (r.map (itm k)) = 0
  | [] => rfl
  | x :: r => by rw [List.map_cons]; simp [PyData.depthAll, itm_depth1, itm_depth k r]
theorem itm_shaped (k : Str) (r : List Int) : SeqAt.shaped (.list (r.map (itm k))) = true := by
  simp [SeqAt.shaped, PyData.canLay0, PyData.depth, itm_lay, itm_depth]
theorem tag_lay1 {x : Option Str} (h : okTag x) : PyData.canLay0 (tagD x) = true := by
  rcases h with rfl | rfl | rfl | rfl
  · rfl
  all_goals (simp only [tagD, PyData.canLay0]; decide +kernel)
theorem tag_depth1 (x : Option Str) : PyData.depth (tagD x) = 0 := by cases x <;> rfl
theorem tag_lay : ∀ {r : List (Option Str)}, (∀ x ∈ r, okTag x) → PyData.canLayAll0 (r.map tagD) = true
  | [], _ => rfl
  | x :: r, h => by rw [List.map_cons]; simp only [PyData.canLayAll0, tag_lay1 (h x (.head _)), tag_lay fun y hy => h y (.tail _ hy), Bool.and_self]
theorem tag_depth : ∀ r : List (Option Str), PyData.depthAll (r.map tagD) = 0
  | [] => rfl
  | x :: r => by rw [List.map_cons]; simp [PyData.depthAll, tag_depth1, tag_depth r]
theorem tag_shaped {r : List (Option Str)} (h : ∀ x ∈ r, okTag x) : SeqAt.shaped (.list (r.map tagD)) = true := by
  simp [SeqAt.shaped, PyData.canLay0, PyData.depth, tag_lay h, tag_depth]
theorem itm_eqv (k : Str) : ∀ r r' : List Int, PyData.eqvAll (r.map (itm k)) (r'.map (itm k)) = itemsEq k r r'
  | [], [] => by simp [PyData.eqvAll, itemsEq]
  | [], _ :: _ => by simp [PyData.eqvAll, itemsEq]
  | _ :: _, [] => by simp [PyData.eqvAll, itemsEq]
  | a :: r, b :: r' => by
    have ih := itm_eqv k r r'
    unfold itemsEq at ih ⊢
    simp only [List.map_cons, PyData.eqvAll, ih]
    unfold itm
    split
    · simp only [PyData.eqv]
      by_cases h1 : pq a = pq b <;> by_cases h2 : r.map pq = r'.map pq <;> simp [h1, h2]
    · simp only [PyData.eqv]
      by_cases h1 : a = b <;> by_cases h2 : r = r' <;> simp [h1, h2]
theorem tag_eqv : ∀ r r' : List (Option Str), PyData.eqvAll (r.map tagD) (r'.map tagD) = decide (r = r')
  | [], [] => by simp [PyData.eqvAll]
  | [], _ :: _ => by simp [PyData.eqvAll]
  | _ :: _, [] => by simp [PyData.eqvAll]
  | a :: r, b :: r' => by
    have ih := tag_eqv r r'
    simp only [List.map_cons, PyData.eqvAll, ih]
    cases a <;> cases b <;> simp only [tagD, PyData.eqv]
    · by_cases h2 : r = r' <;> simp [h2]
    · simp
    · simp
    · rename_i x y
      by_cases h1 : x = y <;> by_cases h2 : r = r' <;> simp [h1, h2]
theorem Lst.isList {h : Heap} {v : Value} {vs : List Value} (x : Lst (fun a o => h.get? a = some o) v vs) : ∃ a, v = .ref a ∧ h.IsList a vs.toArray ∧ vs.length ≤ 1000 :=
  let ⟨a, n, e, p, l⟩ := x; ⟨a, e, ⟨_, p, rfl, n, rfl⟩, l⟩
section
variable {prog : Program} {w : World} {A : Around} {E : Value → Shared → Prop} {s : Shared} {a b : Addr} {xs ys : List Value} {Q : Value → Shared → Prop}
theorem eq_items {k : Str} {r r' : List Int} {h₀ : Heap} {L : Addr} {m : Str → Option Value} (F : Fr h₀ L s.heap m) (ha : h₀.IsList a xs.toArray) (hb : h₀.IsList b ys.toArray) (hi : CarriedAll xs (r.map (itm k))) (hj : CarriedAll ys (r'.map (itm k))) (hu : A.units + 64 < cLine)
    (h : Q (.bool (itemsEq k r r')) s) : wpAny (model prog w) A (compareOp .Eq (.ref a) (.ref b)) Q E s :=
  eq_dataH (reads_newData (ha.at fun o e => F.keep a o e) hi) (reads_newData (hb.at fun o e => F.keep b o e) hj) (itm_shaped _ _) (itm_shaped _ _) hu (by rw [PyData.eqv, itm_eqv]; exact h)
theorem ne_items {k : Str} {r r' : List Int} {h₀ : Heap} {L : Addr} {m : Str → Option Value} (F : Fr h₀ L s.heap m) (ha : h₀.IsList a xs.toArray) (hb : h₀.IsList b ys.toArray) (hi : CarriedAll xs (r.map (itm k))) (hj : CarriedAll ys (r'.map (itm k))) (hu : A.units + 64 < cLine)
    (h : Q (.bool (!itemsEq k r r')) s) : wpAny (model prog w) A (compareOp .NotEq (.ref a) (.ref b)) Q E s :=
  ne_dataH (reads_newData (ha.at fun o e => F.keep a o e) hi) (reads_newData (hb.at fun o e => F.keep b o e) hj) (itm_shaped _ _) (itm_shaped _ _) hu (by rw [PyData.eqv, itm_eqv]; exact h)
theorem eq_tags {r r' : List (Option Str)} (o : ∀ x ∈ r, okTag x) (o' : ∀ x ∈ r', okTag x) {h₀ : Heap} {L : Addr} {m : Str → Option Value} (F : Fr h₀ L s.heap m) (ha : h₀.IsList a xs.toArray) (hb : h₀.IsList b ys.toArray) (hi : CarriedAll xs (r.map tagD)) (hj : CarriedAll ys (r'.map tagD)) (hu : A.units + 64 < cLine)
    (h : Q (.bool (decide (r = r'))) s) : wpAny (model prog w) A (compareOp .Eq (.ref a) (.ref b)) Q E s :=
  eq_dataH (reads_newData (ha.at fun o e => F.keep a o e) hi) (reads_newData (hb.at fun o e => F.keep b o e) hj) (tag_shaped o) (tag_shaped o') hu (by rw [PyData.eqv, tag_eqv]; exact h)
end
end Mine
end Rel

section Say
open PySem PySem.Spec PySem.Calls PyProof.Rows PySem.W PyProof.V
namespace Mine

abbrev Hp (h : Heap) : Addr → Obj → Prop := fun a o => h.get? a = some o

/-- a call that turns nothing and answers by a bool -/
structure Says (w : World) (D U : Nat) (f : Addr) (args : List Value) (h : Heap) (b : Bool) : Prop where
  run : ∀ {mean : ExcName → Option Value} {mg mb : Str → Option Value} {A A₁ : Around} {base : Heap} {outs : List Env} {s : Shared} {RR : Result → Shared → Prop},
    A.handled = none → A.depth ≤ D → A.units ≤ U → A.frames = some outs → (∀ b o, h.get? b = some o → s.heap.get? b = some o) → Amb w mean mg mb A₁ base outs s.heap →
    (∀ h' tk', Kept [] s.heap h' → RR (.ok (.ret (.bool b))) { s with heap := h', toks := tk' }) → codeAny (model PySem.Challenge.rw_pq1317_01.row.prog w) A (.call (.ref f) ⟨args, []⟩) RR s

theorem says_use {w : World} {D U : Nat} {f : Addr} {args : List Value} {h : Heap} {b : Bool} (C : Says w D U f args h b)
    {mean : ExcName → Option Value} {mg mb : Str → Option Value} {A₀ A : Around} {base h₀ : Heap} {outer : List Env} {L : Addr} {m : Str → Option Value} {env : Env} {news : List (Addr × Obj)} {s : Shared} {Q E : _}
    (B : Below A₀ base outer h₀) (F : Fr h₀ L s.heap m) (N : News h₀ L s.heap news) (X : (hd.heap_39 w.params).In h₀) (T : Tp mean mg mb h₀) (hA : A.frames = some (env :: outer)) (hf : env.frame = some L) (hke : env.scope.kind = .function)
    (hh : A.handled = none) (hd : A.depth ≤ D) (hu : A.units ≤ U) (hs : ∀ b o, h.get? b = some o → h₀.get? b = some o)
    (ret : ∀ h' tk', Fr h₀ L h' m → News h₀ L h' news → Q (.bool b) { s with heap := h', toks := tk' }) : wpAny (model PySem.Challenge.rw_pq1317_01.row.prog w) A (call (.ref f) args) Q E s :=
  wpAny_call (C.run hh hd hu hA (fun b o e => F.keep b o (hs b o e)) (amb_of (mu := []) B F News.nil X T hA hf hke) fun h' tk' k =>
    ret h' tk' (k.fr F (fun x => nomatch x) fun _ x => nomatch x) (k.news N fun _ _ x => nomatch x))

theorem stays_self {h : Heap} : ∀ b o, h.get? b = some o → h.get? b = some o := fun _ _ e => e

/-- the fields' names are no class's -/
theorem fld {w : World} {C : Addr} {x : Str} (hC : C = 38 ∨ C = 88 ∨ C = 67 ∨ C = 110) (hx : x = ("kind" : Str) ∨ x = ("items" : Str) ∨ x = ("attrs" : Str) ∨ x = ("name" : Str) ∨ x = ("tags" : Str)) :
    plainGet (hd.heap_39 w.params) C x = true ∧ hasDictIn (hd.heap_39 w.params) C = true ∧ findIn (hd.heap_39 w.params) (.ref C) x = some none ∧ noGet (hd.heap_39 w.params) none = true := by
  have go : PySem.Challenge.rw_pq1317_01 = PySem.Challenge.rw_pq1317_01 → plainGet (hd.heap_39 w.params) C x = true ∧ hasDictIn (hd.heap_39 w.params) C = true ∧ findIn (hd.heap_39 w.params) (.ref C) x = some none ∧ noGet (hd.heap_39 w.params) none = true := by
    k_fill
    intro _
    rcases hC with rfl | rfl | rfl | rfl <;> rcases hx with rfl | rfl | rfl | rfl | rfl <;> exact ⟨by k_is, by k_is, by k_is, by k_is⟩
  exact go rfl

theorem get_field {w : World} {A : Around} {E : Value → Shared → Prop} {Q : Value → Shared → Prop} {s : Shared} {h₀ : Heap} {L x C : Addr} {m : Str → Option Value} {name : Str} {v : Value} {fs : List (Str × Value)} {expr : Bool}
    (F : Fr h₀ L s.heap m) (X₀ : (hd.heap_39 w.params).In h₀) (I : Inst (Hp h₀) C x fs) (hC : C = 38 ∨ C = 88 ∨ C = 67 ∨ C = 110) (hx : name = ("kind" : Str) ∨ name = ("items" : Str) ∨ name = ("attrs" : Str) ∨ name = ("name" : Str) ∨ name = ("tags" : Str))
    (hm : (name, v) ∈ fs) (hv : handedIn v = true) (h : Q v { s with toks := s.toks + 1 }) : wpAny (model PySem.Challenge.rw_pq1317_01.row.prog w) A (getAttr (.ref x) name expr) Q E s := by
  obtain ⟨dx, es, n, h1, h2, h3⟩ := I
  obtain ⟨f1, f2, f3, f4⟩ := fld (w := w) hC hx
  exact get_own F X₀ ⟨F.keep _ _ h1, rfl, rfl, F.keep _ _ h2⟩ f1 f2 f3 f4 (h3 _ hm) hv h
end Mine
end Say

section Ident
open PySem PySem.Spec PySem.Calls PyProof.Rows PySem.W PyProof.V
namespace Mine
abbrev Sy (w : World) (k : Nat) (f : Addr) (args : List Value) (h : Heap) (b : Bool) : Prop := Says w (800 - 10 * k) (8000 - 100 * k) f args h b

theorem VIn.kind {w : World} {P : Addr → Obj → Prop} : ∀ {n : Nat} {v : Value} {T : Tr}, VIn w P n v T → ∃ x C t fs, v = .ref x ∧ Inst P C x fs ∧ (("kind" : Str), .str (kindOf T) t) ∈ fs ∧ (C = 38 ∨ C = 88 ∨ C = 67 ∨ C = 110)
  | n, v, .null, x => by
    unfold VIn at x
    obtain ⟨y, t, e, i⟩ := x
    exact ⟨y, _, t, _, e, i, .head _, by simp⟩
  | n, v, .name y, x => by
    unfold VIn at x
    obtain ⟨y, t, t', e, i⟩ := x
    exact ⟨y, _, t, _, e, i, .head _, by simp⟩
  | n, v, .vec k r a, x => by
    unfold VIn at x
    obtain ⟨ok, atv, ⟨y, t, rows, vs, e, i, l⟩, l2⟩ := x
    exact ⟨y, _, t, _, e, i, .head _, by simp⟩
  | n + 1, v, .list ks a, x => by
    unfold VIn at x
    obtain ⟨y, t, r, vs, atv, e, i, l, q, z⟩ := x
    exact ⟨y, _, t, _, e, i, .head _, by simp⟩
  | n + 1, v, .call tg ks, x => by
    unfold VIn at x
    obtain ⟨y, t, r, vs, tags, es, e, i, l, q, z, c⟩ := x
    exact ⟨y, _, t, _, e, i, .head _, by simp⟩
  | 0, _, .list _ _, x => x.elim
  | 0, _, .call _ _, x => x.elim




set_option maxHeartbeats 8000000 in
theorem ident_step {w : World} {n k k1 k2 : Nat} {U V : Tr} {x y : Value} {h : Heap} {b1 b2 : Bool} (hx : VIn w (Hp h) n x U) (hy : VIn w (Hp h) n y V) (hk : k < 70) (hk1 : k1 < k) (hk2 : k2 < k)
    (C1 : kindOf U = kindOf V → Sy w k1 163 [x, y] h b1) (C2 : kindOf U = kindOf V → Sy w k2 128 [x, y] h b2) (hne : kindOf U ≠ ("environment" : Str)) :
    Sy w k 170 [x, y] h (decide (kindOf U = kindOf V) && (b1 && b2)) := by
  constructor
  intro mean mg mb A A₁ base outs s RR hh hd hu hA hs Y ret
  obtain ⟨u, Cu, tu, fu, rfl, Iu, mu, ku⟩ := hx.kind
  obtain ⟨v, Cv, tv, fv, rfl, Iv, mv, kv⟩ := hy.kind
  refine up hh hd hu hA ?_
  replace Iu : Inst (Hp s.heap) Cu u fu := Iu.mono hs
  replace Iv : Inst (Hp s.heap) Cv v fv := Iv.mono hs
  generalize kindOf U = KU at *
  generalize kindOf V = KV at *
  clear hx hy hh hd hu hA
  have key : Amb w mean mg mb (AA (800 - 10 * k) (8000 - 100 * k) outs) base outs (hid s.heap []) := ⟨⟨rfl, Y.B.stays, Y.B.frames⟩, Y.X, Y.T⟩
  have fin : ∀ L' h' m' b tk', Fr s.heap L' h' m' → b = (decide (KU = KV) && (b1 && b2)) → RR (.ok (.ret (.bool b))) { s with heap := h', toks := tk' } := fun L' h' m' b tk' F e => e ▸ ret h' tk' fun b o _ e => F.keep b o e
  clear ret
  have KX := key.X
  revert KX
  k_fill
  intro KX
  refine' enter (mu := []) (binds := [("u", .ref u), ("v", .ref v)]) key (fun p hp => nomatch hp) ?k6 ?k7 ?k8 ?k9 ?kB ?_ ?c2 ?c3 ?c4 ?c5
  case k6 => k_is
  case k7 => k_is
  case k8 => exact Nat.lt_of_le_of_lt (Nat.sub_le _ _) (Nat.le_of_ble_eq_true rfl)
  case k9 => exact BindsTo.of_eq rfl
  case kB => exact locs rfl
  case c2 => decide
  case c3 => exact rfl
  case c4 => exact rfl
  case c5 => exact rfl
  intro g' L' h' hg F' N' B' X' T'
  replace hg : g' = s.heap := hg
  subst hg
  clear key Y KX
  (try dsimp only)
  (try k_fold)
  (repeat' (first | (k_unfold; (try dsimp only)) | (k_end; first | kc_close | wrow_close) | ((with_reducible show wpAny _ _ (getAttr (Value.ref _) _ _) _ _ _); (refine' get_field (by k_asm) (by k_asm) (by assumption) (by first | assumption | simp) (by simp) (by first | assumption | k_mem) (by first | assumption | rfl) ?_)) | ((with_reducible show wpAny _ _ (call (Value.ref _) _ _) _ _ _); (refine' says_use (by assumption) (by k_asm) (by k_asm) (by k_asm) (by k_asm) (by k_asm) (by exact rfl) (by exact rfl) (by exact rfl) (by exact rfl) (by dsimp only [Around.deeper]; omega) (by dsimp only [Around.deeper]; omega) (by assumption) ?_; intro _ _ _ _; (try k_sweep))) | walk1 | (dsimp only; walk1) | (leave1; (try dsimp only))))
  · dsimp only
    have e : KU ≠ KV := by simpa using (by assumption : (KU != KV) = true)
    exact fin _ _ _ _ _ (by assumption) (by rw [decide_eq_false e]; rfl)
  have e : KU = KV := by simpa using (by assumption : (KU != KV) = false)
  have D1 := C1 e
  have D2 := C2 e
  clear C1 C2
  rw [decide_eq_true e] at fin
  (repeat' (first | (k_unfold; (try dsimp only)) | (k_end; first | kc_close | wrow_close) | ((with_reducible show wpAny _ _ (getAttr (Value.ref _) _ _) _ _ _); (refine' get_field (by k_asm) (by k_asm) (by assumption) (by first | assumption | simp) (by simp) (by first | assumption | k_mem) (by first | assumption | rfl) ?_)) | ((with_reducible show wpAny _ _ (call (Value.ref _) _ _) _ _ _); (refine' says_use (by assumption) (by k_asm) (by k_asm) (by k_asm) (by k_asm) (by k_asm) (by exact rfl) (by exact rfl) (by exact rfl) (by exact rfl) (by dsimp only [Around.deeper]; omega) (by dsimp only [Around.deeper]; omega) (by assumption) ?_; intro _ _ _ _; (try k_sweep))) | walk1 | (dsimp only; walk1) | (leave1; (try dsimp only))))
  all_goals exact fin _ _ _ _ _ (by assumption) (by simp_all)
end Mine
end Ident

section Loop
open PySem PySem.Spec PySem.Calls PyProof.Rows PySem.W PyProof.V
namespace Mine
section
variable {prog : Program} {w : World} {A : Around} {E : Value → Shared → Prop} {s : Shared} {env : Env} {h₀ : Heap} {x : Str} {body : List Stmt} {Q : Flow → Shared → Prop}

/-- a turn that stores its own name alone -/
def RoPost (h₀ : Heap) (L : Addr) (x : Str) (v : Value) (m₀ : Str → Option Value) (all : List (Addr × Obj)) (J : Prop) (s₁ : Shared) (Q : Flow → Shared → Prop) (f : Flow) (s₂ : Shared) : Prop :=
  match f with
  | .ret v => Q (.ret v) s₂
  | .brk => Q .next s₂
  | _ => ∃ h' tk, s₂ = { s₁ with heap := h', toks := tk } ∧ Fr h₀ L h' (fun z => if z = x then some v else m₀ z) ∧ News h₀ L h' all ∧ J

theorem iter_ro {I : Addr} {fp : List Addr} {n : Nat} {P : Nat → Value → Prop} {St : Nat → Heap → Prop} {m₀ : Str → Option Value} {news : List (Addr × Obj)} (J : Nat → Prop)
    (W : Walks prog w A I fp [I] n P St) (hLf : env.locals ∉ fp) (hI0 : h₀.get? I = none) (hnI : ∀ p ∈ news, p.1 ≠ I) (st : St 0 s.heap) (F : Fr h₀ env.locals s.heap m₀) (N : News h₀ env.locals s.heap news) (hj : J 0)
    (turn : ∀ i v h tk own, i < n → P i v → J i → Fr h₀ env.locals h (fun z => if z = x then some v else m₀ z) → News h₀ env.locals h (own ++ news) →
      wpAny (model prog w) A (execs body env) (RoPost h₀ env.locals x v m₀ (own ++ news) (J (i + 1)) { s with heap := h, toks := tk } Q) E { s with heap := h, toks := tk })
    (done : ∀ (u : Str → Option Value) h tk, J n → Fr h₀ env.locals h (fun z => if z = x then u z else m₀ z) → News h₀ env.locals h news → Q .next { s with heap := h, toks := tk }) :
    LoopAtV prog w A h₀ env x body Q E (.ref I) s := by
  let J' : Nat → (Str → Option Value) → List (Addr × Obj) → Prop := fun i m₁ news₁ => news₁ = news ∧ J i ∧ ∀ y, y ≠ x → m₁ y = m₀ y
  refine ⟨I, fp, [I], n, P, St, m₀, news, J', rfl, W, hLf, fun b hb => (List.mem_singleton.mp hb) ▸ hI0, fun p hp hI => hnI p hp (List.mem_singleton.mp hI), st, F, N, ⟨rfl, hj, fun _ _ => rfl⟩, ?_, ?_⟩
  · rintro i v m₁ news₁ s₁ own ⟨hh', tk', rfl⟩ hin hP ⟨rfl, hJ, hm⟩ hoff _ _ _ _ F₁ N₁
    have e : (fun z => if z = x then some v else m₁ z) = fun z => if z = x then some v else m₀ z := by
      funext z
      by_cases h1 : z = x
      · simp [h1]
      · simp only [if_neg h1]; exact hm z h1
    rw [e] at F₁
    refine wpAny_mono (turn i v hh' tk' own hin hP hJ F₁ N₁) (fun f s₂ p => ?_) fun _ _ e => e
    have fin : (∃ h' tk, s₂ = { s with heap := h', toks := tk } ∧ Fr h₀ env.locals h' (fun z => if z = x then some v else m₀ z) ∧ News h₀ env.locals h' (own ++ news₁) ∧ J (i + 1)) →
        LoopStepU h₀ env.locals [I] own (J' (i + 1)) { s with heap := hh', toks := tk' } .next s₂ := by
      rintro ⟨h', tk, e, F', N', hj'⟩
      exact ⟨rfl, h', tk, _, news₁, e, F', N', hoff, rfl, hj', fun y hy => if_neg hy⟩
    cases f with
    | ret v => exact .ret p
    | brk => exact .brk p
    | next => exact .next (fin p)
    | cont => exact .cont (fin p)
  · rintro h' tk m' news' F' N' _ ⟨rfl, hJ, hm⟩
    have e : m' = fun z => if z = x then m' z else m₀ z := by
      funext z
      by_cases h1 : z = x
      · simp [h1]
      · simp only [if_neg h1]; exact hm z h1
    rw [e] at F'
    exact done m' h' tk hJ F' N'

/-- over range(n) -/
theorem range_ro {r : Addr} {t u v : Tok} {n : Nat} {m₀ : Str → Option Value} {news : List (Addr × Obj)} (J : Nat → Prop) (hh : A.handled = none) (hn : n ≤ 1000)
    (F : Fr h₀ env.locals s.heap m₀) (N : News h₀ env.locals s.heap news) (hr : IsRange s.heap r 0 (n : Int) 1 t u v) (hj : J 0)
    (turn : ∀ (i : Nat) t h tk own, i < n → J i → Fr h₀ env.locals h (fun z => if z = x then some (.int (i : Int) t) else m₀ z) → News h₀ env.locals h (own ++ news) →
      wpAny (model prog w) A (execs body env) (RoPost h₀ env.locals x (.int (i : Int) t) m₀ (own ++ news) (J (i + 1)) { s with heap := h, toks := tk } Q) E { s with heap := h, toks := tk })
    (done : ∀ (u : Str → Option Value) h tk, J n → Fr h₀ env.locals h (fun z => if z = x then u z else m₀ z) → News h₀ env.locals h news → Q .next { s with heap := h, toks := tk }) :
    wpAny (model prog w) A (pyIter (.ref r)) (fun it s₂ => LoopAtV prog w A h₀ env x body Q E it s₂) E s := by
  have hsz : Builtin.Range.rangeSize 0 (n : Int) 1 = ((n : Nat) : Int) := by
    unfold Builtin.Range.rangeSize; simp
    try omega
  have hsm : Builtin.Range.small 0 (n : Int) 1 = true := by
    unfold Builtin.Range.small
    rw [hsz]
    unfold Builtin.Range.rangeFitsLong
    simp
    omega
  refine wpAny_pyIter_range hr hsm ?_
  have hI : (s.heap.push { cls := .type "range_iterator", data := .fields #[rawInt 0, rawInt (Builtin.Range.rangeSize 0 (n : Int) 1), rawInt 1] }).get? s.heap.objs.size = some _ := Heap.get?_push_size _ rfl
  refine iter_ro J (LCg.range_walks (prog := prog) (w := w) hh 0 n) (fun q => Nat.ne_of_lt F.ns.lt (List.mem_singleton.mp q)) (next_is_new F) (fun p hp => Nat.ne_of_lt (Heap.lt_size (N p hp).1)) ?_
    (F.keeps fun _ _ e => Heap.get?_push_of_some _ e) (N.grown fun _ _ e => Heap.get?_push_of_some _ e) hj (fun i v h tk own hi hP hJ F' N' => ?_) fun u h tk hJ F' N' => done u h tk hJ F' N'
  · show IsRangeIter _ _ _ _ _
    rw [hsz]; simpa using Heap.get?_push_size _ rfl
  · obtain ⟨t, rfl⟩ := hP
    rw [Int.zero_add] at F' ⊢
    exact turn i t h tk own hi hJ F' N'

/-- over a dict that stood before -/
theorem dict_ro {K : Type} [DecidableEq K] {knd : KeyKind prog w K} {d : Addr} {o : Obj} {kvs : List (K × Value)} {m₀ : Str → Option Value} {news : List (Addr × Obj)} (J : Nat → Prop) (hh : A.handled = none)
    (F : Fr h₀ env.locals s.heap m₀) (N : News h₀ env.locals s.heap news) (hd : s.heap.get? d = some o) (lo : (d == sysModules) = false) (hk : o.IsDictOf knd kvs) (hdL : env.locals ≠ d) (hj : J 0)
    (turn : ∀ (i : Nat) k kv val h tk own, kvs[i]? = some (k, val) → knd.is k kv = true → J i → Fr h₀ env.locals h (fun z => if z = x then some kv else m₀ z) → News h₀ env.locals h (own ++ news) →
      wpAny (model prog w) A (execs body env) (RoPost h₀ env.locals x kv m₀ (own ++ news) (J (i + 1)) { s with heap := h, toks := tk } Q) E { s with heap := h, toks := tk })
    (done : ∀ (u : Str → Option Value) h tk, J kvs.length → Fr h₀ env.locals h (fun z => if z = x then u z else m₀ z) → News h₀ env.locals h news → Q .next { s with heap := h, toks := tk }) :
    wpAny (model prog w) A (pyIter (.ref d)) (fun it s₂ => LoopAtV prog w A h₀ env x body Q E it s₂) E s := by
  obtain ⟨ep, ha⟩ := Heap.DictOf.dictAt (Heap.dictOf_iff.mpr ⟨o, hd, hk⟩ : s.heap.DictOf knd d kvs)
  refine wpAny_pyIter_dict lo ha ?_
  have hlt : d < s.heap.objs.size := Heap.lt_size hd
  refine iter_ro J (Walks.dictKeys (knd := knd) hh s.heap.objs.size d (Nat.ne_of_lt hlt) kvs ep) (fun q => ?_) (next_is_new F) (fun p hp => Nat.ne_of_lt (Heap.lt_size (N p hp).1)) ⟨?_, ha.push _⟩
    (F.keeps fun _ _ e => Heap.get?_push_of_some _ e) (N.grown fun _ _ e => Heap.get?_push_of_some _ e) hj (fun i v h tk own hi hP hJ F' N' => ?_) fun u h tk hJ F' N' => done u h tk hJ F' N'
  · rcases List.mem_cons.mp q with q | q
    · exact Nat.ne_of_lt F.ns.lt q
    · exact hdL (List.mem_singleton.mp q)
  · exact ⟨_, Heap.get?_push_size _ rfl, rfl, rfl⟩
  · obtain ⟨k, val, e, hk⟩ := hP
    exact turn i k v val h tk own e hk hJ F' N'
end
end Mine
end Loop

section Items
open PySem PySem.Spec PySem.Calls PyProof.Rows PySem.W PyProof.V
namespace Mine



theorem len_base {prog : Program} {w : World} {A : Around} {E : Value → Shared → Prop} {s : Shared} {h₀ : Heap} {L l : Addr} {m : Str → Option Value} {vs : List Value} {Q : Value → Shared → Prop} (F : Fr h₀ L s.heap m) (hl : h₀.IsList l vs.toArray) (hz : vs.length ≤ 1000)
    (h : Q (.int vs.length (s.toks + 1)) { s with toks := s.toks + 1 + 1 }) : wpAny (model prog w) A (call (.builtin "len") [.ref l]) Q E s :=
  call_len_list (hl.at fun o e => F.keep l o e) (by rw [List.size_toArray]; omega) (by rw [List.size_toArray]; exact h)
theorem item_base {prog : Program} {w : World} {A : Around} {E : Value → Shared → Prop} {s : Shared} {value slice : PySem.Expr} {h₀ : Heap} {L l : Addr} {m : Str → Option Value} {vs : List Value} {i : Nat} {u : Tok} {x : Value} {Q : Value → Shared → Prop}
    (F : Fr h₀ L s.heap m) (hl : h₀.IsList l vs.toArray) (hi : i < 100000) (hx : vs[i]? = some x) (h : Q x s)
    (hs : subscripted slice false (.ref l) (.int (i : Int) u) = operate [.ref l, .int (i : Int) u] (getItem (.ref l) (.int (i : Int) u)) := by with_unfolding_all rfl) (hg : ∀ r, letTemporaryGo value (.ref l) r = pure () := by intro _; with_unfolding_all rfl) :
    wpAny (model prog w) A (subscriptTail value slice (.ref l) (.int (i : Int) u)) Q E s :=
  item_listL (hl.at fun o e => F.keep l o e) (by omega) (by omega) (by simpa using hx) h hs hg




set_option maxHeartbeats 8000000 in
theorem items_step {w : World} {k k1 : Nat} {fn a b : Addr} {us vs : List Value} {h : Heap} {f : Nat → Bool} (hk : k < 70) (hk1 : k1 < k)
    (La : h.IsList a us.toArray) (Lb : h.IsList b vs.toArray) (za : us.length ≤ 1000) (zb : vs.length ≤ 1000)
    (hkeep : keepIn (hd.heap_39 w.params) (.ref fn) = true) (C : ∀ i x y, us[i]? = some x → vs[i]? = some y → Sy w k1 fn [x, y] h (f i)) :
    Sy w k 135 [.ref a, .ref b, .ref fn] h (decide (us.length = vs.length) && (List.range us.length).all f) := by
  constructor
  intro mean mg mb A A₁ base outs s RR hh hd hu hA hs Y ret
  refine up hh hd hu hA ?_
  replace La : s.heap.IsList a us.toArray := stays_list hs La
  replace Lb : s.heap.IsList b vs.toArray := stays_list hs Lb
  clear hh hd hu hA
  have key : Amb w mean mg mb (AA (800 - 10 * k) (8000 - 100 * k) outs) base outs (hid s.heap []) := ⟨⟨rfl, Y.B.stays, Y.B.frames⟩, Y.X, Y.T⟩
  have fin : ∀ L' h' m' r tk', Fr s.heap L' h' m' → r = (decide (us.length = vs.length) && (List.range us.length).all f) → RR (.ok (.ret (.bool r))) { s with heap := h', toks := tk' } := fun L' h' m' b tk' F e => e ▸ ret h' tk' fun b o _ e => F.keep b o e
  clear ret
  have KX := key.X
  revert KX
  k_fill
  intro KX
  refine' enter (mu := []) (binds := [("u", .ref a), ("v", .ref b), ("same", .ref fn)]) key (fun p hp => nomatch hp) ?k6 ?k7 ?k8 ?k9 ?kB ?_ ?c2 ?c3 ?c4 ?c5
  case k6 => k_is
  case k7 => k_is
  case k8 => exact Nat.lt_of_le_of_lt (Nat.sub_le _ _) (Nat.le_of_ble_eq_true rfl)
  case k9 => exact BindsTo.of_eq rfl
  case kB => exact locs rfl
  case c2 => decide
  case c3 => exact rfl
  case c4 => exact rfl
  case c5 => exact rfl
  intro g' L' h' hg F' N' B' X' T'
  replace hg : g' = s.heap := hg
  subst hg
  clear key Y KX
  (try dsimp only)
  (try k_fold)
  (repeat' (first | (k_unfold; (try dsimp only)) | (k_end; wrow_close) | ((fail_if_success (with_reducible show wpAny _ _ (exec (Stmt.For _ _ _ _ _) _) _ _ _)); (fail_if_success (with_reducible show wpAny _ _ (pyIter _) _ _ _)); first | ((with_reducible show wpAny _ _ (call (Value.builtin "len") _ _) _ _ _); (refine' len_base (by k_asm) (by assumption) (by assumption) ?_)) | ((with_reducible show wpAny _ _ (callWith _ (Value.ref _) _ _ _) _ _ _); (refine' callWith_K (by k_asm) (by assumption) ?_)) | ((with_reducible show wpAny _ _ (subscriptTail _ _ (Value.ref _) _) _ _ _); (refine' item_base (by k_asm) (by assumption) (by omega) (by assumption) ?_)) | ((with_reducible show wpAny _ _ (call (Value.ref _) _ _) _ _ _); (refine' says_use (by assumption) (by k_asm) (by k_asm) (by k_asm) (by k_asm) (by k_asm) (by exact rfl) (by exact rfl) (by exact rfl) (by exact rfl) (by dsimp only [Around.deeper]; omega) (by dsimp only [Around.deeper]; omega) (by assumption) ?_; intro _ _ _ _; (try k_sweep))) | walk1 | (dsimp only; walk1) | (leave1; try dsimp only))))
  · dsimp only
    exact fin _ _ _ _ _ (by assumption) (by rw [decide_eq_false (by omega)]; rfl)
  have e : us.length = vs.length := by omega
  refine For_invV s.heap rfl rfl ?_
  (repeat' (first | (k_unfold; (try dsimp only)) | (k_end; wrow_close) | ((fail_if_success (with_reducible show wpAny _ _ (exec (Stmt.For _ _ _ _ _) _) _ _ _)); (fail_if_success (with_reducible show wpAny _ _ (pyIter _) _ _ _)); first | ((with_reducible show wpAny _ _ (call (Value.builtin "len") _ _) _ _ _); (refine' len_base (by k_asm) (by assumption) (by assumption) ?_)) | ((with_reducible show wpAny _ _ (callWith _ (Value.ref _) _ _ _) _ _ _); (refine' callWith_K (by k_asm) (by assumption) ?_)) | ((with_reducible show wpAny _ _ (subscriptTail _ _ (Value.ref _) _) _ _ _); (refine' item_base (by k_asm) (by assumption) (by omega) (by assumption) ?_)) | ((with_reducible show wpAny _ _ (call (Value.ref _) _ _) _ _ _); (refine' says_use (by assumption) (by k_asm) (by k_asm) (by k_asm) (by k_asm) (by k_asm) (by exact rfl) (by exact rfl) (by exact rfl) (by exact rfl) (by dsimp only [Around.deeper]; omega) (by dsimp only [Around.deeper]; omega) (by assumption) ?_; intro _ _ _ _; (try k_sweep))) | walk1 | (dsimp only; walk1) | (leave1; try dsimp only))))
  refine' range_ro (n := us.length) (fun i => ∀ j, j < i → f j = true) rfl za ?y1 ?y2 ?y3 (fun j h => absurd h (Nat.not_lt_zero _)) ?y4 ?y5
  case y1 => k_asm
  case y2 => k_asm
  case y3 => first | assumption | exact (News.get (by k_asm) (by k_mem))
  case y5 =>
    intro u' h' tk' J F' N'
    (repeat' (first | (k_unfold; (try dsimp only)) | (k_end; wrow_close) | ((fail_if_success (with_reducible show wpAny _ _ (exec (Stmt.For _ _ _ _ _) _) _ _ _)); (fail_if_success (with_reducible show wpAny _ _ (pyIter _) _ _ _)); first | ((with_reducible show wpAny _ _ (call (Value.builtin "len") _ _) _ _ _); (refine' len_base (by k_asm) (by assumption) (by assumption) ?_)) | ((with_reducible show wpAny _ _ (callWith _ (Value.ref _) _ _ _) _ _ _); (refine' callWith_K (by k_asm) (by assumption) ?_)) | ((with_reducible show wpAny _ _ (subscriptTail _ _ (Value.ref _) _) _ _ _); (refine' item_base (by k_asm) (by assumption) (by omega) (by assumption) ?_)) | ((with_reducible show wpAny _ _ (call (Value.ref _) _ _) _ _ _); (refine' says_use (by assumption) (by k_asm) (by k_asm) (by k_asm) (by k_asm) (by k_asm) (by exact rfl) (by exact rfl) (by exact rfl) (by exact rfl) (by dsimp only [Around.deeper]; omega) (by dsimp only [Around.deeper]; omega) (by assumption) ?_; intro _ _ _ _; (try k_sweep))) | walk1 | (dsimp only; walk1) | (leave1; try dsimp only))))
    dsimp only
    refine fin _ _ _ _ _ (by assumption) ?_
    rw [decide_eq_true e]
    simpa using J
  intro i t h' tk' own hi J F' N'
  (try k_sweep)
  obtain ⟨x, hx⟩ : ∃ x, us[i]? = some x := ⟨us[i], by simp [hi]⟩
  obtain ⟨y, hy⟩ : ∃ y, vs[i]? = some y := ⟨vs[i]'(by omega), by simp [← e, hi]⟩
  have D := C i x y hx hy
  (repeat' (first | (k_unfold; (try dsimp only)) | (k_end; wrow_close) | ((fail_if_success (with_reducible show wpAny _ _ (exec (Stmt.For _ _ _ _ _) _) _ _ _)); (fail_if_success (with_reducible show wpAny _ _ (pyIter _) _ _ _)); first | ((with_reducible show wpAny _ _ (call (Value.builtin "len") _ _) _ _ _); (refine' len_base (by k_asm) (by assumption) (by assumption) ?_)) | ((with_reducible show wpAny _ _ (callWith _ (Value.ref _) _ _ _) _ _ _); (refine' callWith_K (by k_asm) (by assumption) ?_)) | ((with_reducible show wpAny _ _ (subscriptTail _ _ (Value.ref _) _) _ _ _); (refine' item_base (by k_asm) (by assumption) (by omega) (by assumption) ?_)) | ((with_reducible show wpAny _ _ (call (Value.ref _) _ _) _ _ _); (refine' says_use (by assumption) (by k_asm) (by k_asm) (by k_asm) (by k_asm) (by k_asm) (by exact rfl) (by exact rfl) (by exact rfl) (by exact rfl) (by dsimp only [Around.deeper]; omega) (by dsimp only [Around.deeper]; omega) (by assumption) ?_; intro _ _ _ _; (try k_sweep))) | walk1 | (dsimp only; walk1) | (leave1; try dsimp only))))
  · refine ⟨_, _, rfl, by assumption, by assumption, fun j hj => ?_⟩
    rcases Nat.lt_succ_iff_lt_or_eq.mp hj with h | rfl
    · exact J j h
    · assumption
  · dsimp only
    refine fin _ _ _ _ _ (by assumption) ?_
    rw [decide_eq_true e, Bool.true_and]
    symm
    rw [List.all_eq_false]
    exact ⟨i, by simpa using hi, by simp_all⟩
end Mine
end Items

section Kern
open PySem PySem.Spec PySem.Calls PyProof.Rows PySem.W PyProof.V
namespace Mine
theorem says_mk {w : World} {k : Nat} {f : Addr} {args : List Value} {h : Heap} {b : Bool}
    (H : ∀ (mean : ExcName → Option Value) (mg mb : Str → Option Value) (base : Heap) (outs : List Env) (s : Shared) (RR : Result → Shared → Prop), (∀ b o, h.get? b = some o → s.heap.get? b = some o) →
      Amb w mean mg mb (AA (800 - 10 * k) (8000 - 100 * k) outs) base outs (hid s.heap []) →
      (∀ L' h' m' r tk', Fr s.heap L' h' m' → r = b → RR (.ok (.ret (.bool r))) { s with heap := h', toks := tk' }) →
      codeAny (model PySem.Challenge.rw_pq1317_01.row.prog w) (AA (800 - 10 * k) (8000 - 100 * k) outs) (.call (.ref f) ⟨args, []⟩) RR s) : Sy w k f args h b := by
  constructor
  intro mean mg mb A A₁ base outs s RR hh hd hu hA hs Y ret
  exact up hh hd hu hA (H mean mg mb base outs s RR hs ⟨⟨rfl, Y.B.stays, Y.B.frames⟩, Y.X, Y.T⟩ fun L' h' m' b tk' F e => e ▸ ret h' tk' fun b o _ e => F.keep b o e)






theorem inst_type {M : Model} {h₀ h : Heap} {L x C : Addr} {m : Str → Option Value} {fs : List (Str × Value)} (F : Fr h₀ L h m) (I : Inst (Hp h₀) C x fs) : Looks M h (typeOf (.ref x)) (.ref C) := by
  obtain ⟨dx, es, n, h1, h2, h3⟩ := I
  exact InstAt.type (od := some (dictOf es n)) ⟨F.keep _ _ h1, rfl, rfl, F.keep _ _ h2⟩
local macro_rules | `(tactic| k_types) => `(tactic| (intro M; exact inst_type (by k_asm) (by assumption)))

theorem Inst.at {h : Heap} {x C : Addr} {fs : List (Str × Value)} (I : Inst (Hp h) C x fs) : ∃ dx od, InstAt h x (instObj C dx) C (some od) := by
  obtain ⟨dx, es, n, h1, h2, h3⟩ := I
  exact ⟨dx, _, h1, rfl, rfl, h2⟩
theorem instKeep {h₀ h : Heap} {L x C : Addr} {m : Str → Option Value} {ox : Obj} {od : Option Obj} (F : Fr h₀ L h m) (I : InstAt h₀ x ox C od) : InstAt h x ox C od := by
  obtain ⟨a, b, c, d⟩ := I
  refine ⟨F.keep _ _ a, b, c, ?_⟩
  revert d
  cases ox.dict <;> cases od <;> first | exact id | exact F.keep _ _
local macro_rules | `(tactic| k_inst) => `(tactic| exact instKeep (by k_asm) (by assumption))

set_option maxHeartbeats 8000000 in
theorem kern_null {w : World} {n n' k : Nat} {x y : Value} {h : Heap} (hx : VIn w (Hp h) n x .null) (hy : VIn w (Hp h) n' y .null) : Sy w k 163 [x, y] h true := by
  refine says_mk fun mean mg mb base outs s RR hs key fin => ?_
  unfold VIn at hx
  obtain ⟨u, tu, rfl, Iu⟩ := hx
  obtain ⟨v, Cv, tv, fv, rfl, Iv, mv, kv⟩ := hy.kind
  replace Iu := Iu.mono (P' := Hp s.heap) hs
  obtain ⟨_, _, IAu⟩ := Iu.at
  (((have KX := Amb.X key); revert KX; k_fill; intro KX; clear KX; (refine' enter (mu := []) (binds := [("u", .ref u), ("v", .ref v)]) key (fun p hp => nomatch hp) ?k6 ?k7 ?k8 ?k9 ?kB ?_ ?c2 ?c3 ?c4 ?c5); (case k6 => k_is); (case k7 => k_is); (case k8 => exact Nat.lt_of_le_of_lt (Nat.sub_le _ _) (Nat.le_of_ble_eq_true rfl)); (case k9 => exact BindsTo.of_eq rfl); (case kB => exact locs rfl); (case c2 => decide); (case c3 => exact rfl); (case c4 => exact rfl); (case c5 => exact rfl)))
  (try clear hx)
  intro g' L' h' hg F' N' B' X' T'
  replace hg : g' = s.heap := hg
  subst hg
  (try dsimp only)
  (try k_fold)
  (repeat' (first | (k_unfold; (try dsimp only)) | (k_end; wrow_close) | ((fail_if_success (with_reducible show wpAny _ _ (exec (Stmt.For _ _ _ _ _) _) _ _ _)); (fail_if_success (with_reducible show wpAny _ _ (pyIter _) _ _ _)); first | ((with_reducible show wpAny _ _ (getAttr (Value.ref _) _ _) _ _ _); (refine' get_field (by k_asm) (by k_asm) (by assumption) (by first | assumption | simp) (by simp) (by first | assumption | k_mem) (by first | assumption | rfl) ?_)) | ((with_reducible show wpAny _ _ (call (Value.ref _) _ _) _ _ _); (refine' says_use (by assumption) (by k_asm) (by k_asm) (by k_asm) (by k_asm) (by k_asm) (by exact rfl) (by exact rfl) (by exact rfl) (by exact rfl) (by dsimp only [Around.deeper]; omega) (by dsimp only [Around.deeper]; omega) (by first | assumption | exact stays_self) ?_; intro _ _ _ _; (try k_sweep))) | walk1 | (dsimp only; walk1) | (leave1; try dsimp only))))
  all_goals (dsimp only; exact fin _ _ _ _ _ (by assumption) rfl)

set_option maxHeartbeats 8000000 in
theorem kern_name {w : World} {n n' k : Nat} {x y : Value} {p q : Str} {h : Heap} (hx : VIn w (Hp h) n x (.name p)) (hy : VIn w (Hp h) n' y (.name q)) : Sy w k 163 [x, y] h (decide (p = q)) := by
  refine says_mk fun mean mg mb base outs s RR hs key fin => ?_
  unfold VIn at hx hy
  obtain ⟨u, tu, tu', rfl, Iu⟩ := hx
  obtain ⟨v, tv, tv', rfl, Iv⟩ := hy
  replace Iu := Iu.mono (P' := Hp s.heap) hs
  replace Iv := Iv.mono (P' := Hp s.heap) hs
  obtain ⟨_, _, IAu⟩ := Iu.at
  (((have KX := Amb.X key); revert KX; k_fill; intro KX; clear KX; (refine' enter (mu := []) (binds := [("u", .ref u), ("v", .ref v)]) key (fun p hp => nomatch hp) ?k6 ?k7 ?k8 ?k9 ?kB ?_ ?c2 ?c3 ?c4 ?c5); (case k6 => k_is); (case k7 => k_is); (case k8 => exact Nat.lt_of_le_of_lt (Nat.sub_le _ _) (Nat.le_of_ble_eq_true rfl)); (case k9 => exact BindsTo.of_eq rfl); (case kB => exact locs rfl); (case c2 => decide); (case c3 => exact rfl); (case c4 => exact rfl); (case c5 => exact rfl)))
  (try clear hx)
  intro g' L' h' hg F' N' B' X' T'
  replace hg : g' = s.heap := hg
  subst hg
  (try dsimp only)
  (try k_fold)
  (repeat' (first | (k_unfold; (try dsimp only)) | (k_end; wrow_close) | ((fail_if_success (with_reducible show wpAny _ _ (exec (Stmt.For _ _ _ _ _) _) _ _ _)); (fail_if_success (with_reducible show wpAny _ _ (pyIter _) _ _ _)); first | ((with_reducible show wpAny _ _ (getAttr (Value.ref _) _ _) _ _ _); (refine' get_field (by k_asm) (by k_asm) (by assumption) (by first | assumption | simp) (by simp) (by first | assumption | k_mem) (by first | assumption | rfl) ?_)) | ((with_reducible show wpAny _ _ (call (Value.ref _) _ _) _ _ _); (refine' says_use (by assumption) (by k_asm) (by k_asm) (by k_asm) (by k_asm) (by k_asm) (by exact rfl) (by exact rfl) (by exact rfl) (by exact rfl) (by dsimp only [Around.deeper]; omega) (by dsimp only [Around.deeper]; omega) (by first | assumption | exact stays_self) ?_; intro _ _ _ _; (try k_sweep))) | walk1 | (dsimp only; walk1) | (leave1; try dsimp only))))
  all_goals (dsimp only; exact fin _ _ _ _ _ (by assumption) (by first | rfl | simp))



set_option maxHeartbeats 8000000 in
theorem kern_vec {w : World} {k : Nat} {x y ax ay : Value} {kd : Str} {r r' : List Int} {h : Heap} (hk : k < 70) (ok : okKind kd) (hx : VecIn (Hp h) kd r x ax) (hy : VecIn (Hp h) kd r' y ay) : Sy w k 163 [x, y] h (itemsEq kd r r') := by
  refine says_mk fun mean mg mb base outs s RR hs key fin => ?_
  obtain ⟨u, tu, ru, us, rfl, Iu, Lu, Cu⟩ := hx
  obtain ⟨v, tv, rv, vs, rfl, Iv, Lv, Cv⟩ := hy
  obtain ⟨lu, rfl, Lu, zu⟩ := (Lu.mono (P' := Hp s.heap) hs).isList
  obtain ⟨lv, rfl, Lv, zv⟩ := (Lv.mono (P' := Hp s.heap) hs).isList
  replace Iu := Iu.mono (P' := Hp s.heap) hs
  replace Iv := Iv.mono (P' := Hp s.heap) hs
  have ne1 : kd ≠ ("list" : Str) := by rcases ok with rfl | rfl | rfl <;> decide +kernel
  have ne2 : kd ≠ ("expression" : Str) := by rcases ok with rfl | rfl | rfl <;> decide +kernel
  have ne3 : kd ≠ ("pairlist" : Str) := by rcases ok with rfl | rfl | rfl <;> decide +kernel
  obtain ⟨_, _, IAu⟩ := Iu.at
  (((have KX := Amb.X key); revert KX; k_fill; intro KX; clear KX; (refine' enter (mu := []) (binds := [("u", .ref u), ("v", .ref v)]) key (fun p hp => nomatch hp) ?k6 ?k7 ?k8 ?k9 ?kB ?_ ?c2 ?c3 ?c4 ?c5); (case k6 => k_is); (case k7 => k_is); (case k8 => exact Nat.lt_of_le_of_lt (Nat.sub_le _ _) (Nat.le_of_ble_eq_true rfl)); (case k9 => exact BindsTo.of_eq rfl); (case kB => exact locs rfl); (case c2 => decide); (case c3 => exact rfl); (case c4 => exact rfl); (case c5 => exact rfl)))
  (try clear hx)
  intro g' L' h' hg F' N' B' X' T'
  replace hg : g' = s.heap := hg
  subst hg
  (try dsimp only)
  (try k_fold)
  (repeat' (first | (k_unfold; (try dsimp only)) | (k_end; wrow_close) | ((fail_if_success (with_reducible show wpAny _ _ (exec (Stmt.For _ _ _ _ _) _) _ _ _)); (fail_if_success (with_reducible show wpAny _ _ (pyIter _) _ _ _)); first | ((with_reducible show wpAny _ _ (compareOp CmpOp.Eq (Value.ref _) (Value.ref _)) _ _ _); (refine' eq_tags ?_ ?_ (by k_asm) (by assumption) (by assumption) (by assumption) (by assumption) (by have hc := cLine_is; dsimp only [Around.deeper, Around.in1]; omega) ?_; assumption; assumption)) | ((with_reducible show wpAny _ _ (compareOp CmpOp.Eq (Value.ref _) (Value.ref _)) _ _ _); (refine' eq_items (by k_asm) (by assumption) (by assumption) (by assumption) (by assumption) (by have hc := cLine_is; dsimp only [Around.deeper, Around.in1]; omega) ?_)) | ((with_reducible show wpAny _ _ (getAttr (Value.ref _) _ _) _ _ _); (refine' get_field (by k_asm) (by k_asm) (by assumption) (by first | assumption | simp) (by simp) (by first | assumption | k_mem) (by first | assumption | rfl) ?_)) | ((with_reducible show wpAny _ _ (call (Value.ref _) _ _) _ _ _); (refine' says_use (by assumption) (by k_asm) (by k_asm) (by k_asm) (by k_asm) (by k_asm) (by exact rfl) (by exact rfl) (by exact rfl) (by exact rfl) (by dsimp only [Around.deeper]; omega) (by dsimp only [Around.deeper]; omega) (by first | assumption | exact stays_self) ?_; intro _ _ _ _; (try k_sweep))) | walk1 | (dsimp only; walk1) | (leave1; try dsimp only))))
  · have a : ([Str.ofString "list", Str.ofString "expression", Str.ofString "pairlist"].any fun x => x == kd) = true := by assumption
    simp [Ne.symm ne1, Ne.symm ne2, Ne.symm ne3] at a
  all_goals (dsimp only; exact fin _ _ _ _ _ (by assumption) rfl)

set_option maxHeartbeats 8000000 in
theorem kern_list {w : World} {n k k1 : Nat} {x y : Value} {us vs : List Tr} {a a' : List (Str × Int)} {h : Heap} {b : Bool} (hk : k < 70) (hk1 : k1 < k) (hx : VIn w (Hp h) (n + 1) x (.list us a)) (hy : VIn w (Hp h) (n + 1) y (.list vs a'))
    (C : ∀ lu lv xs ys, h.IsList lu xs.toArray → h.IsList lv ys.toArray → xs.length ≤ 1000 → ys.length ≤ 1000 → All2 (VIn w (Hp h) n) xs us → All2 (VIn w (Hp h) n) ys vs → Sy w k1 135 [.ref lu, .ref lv, .ref 170] h b) : Sy w k 163 [x, y] h b := by
  refine says_mk fun mean mg mb base outs s RR hs key fin => ?_
  obtain ⟨u, tu, ru, xs, atu, rfl, Iu, Lu, Cu, _⟩ := hx
  obtain ⟨v, tv, rv, ys, atv, rfl, Iv, Lv, Cv, _⟩ := hy
  obtain ⟨lu, rfl, Lu, zu⟩ := Lu.isList
  obtain ⟨lv, rfl, Lv, zv⟩ := Lv.isList
  have D := C lu lv xs ys Lu Lv zu zv Cu Cv
  clear C
  replace Iu := Iu.mono (P' := Hp s.heap) hs
  replace Iv := Iv.mono (P' := Hp s.heap) hs
  obtain ⟨_, _, IAu⟩ := Iu.at
  (((have KX := Amb.X key); revert KX; k_fill; intro KX; clear KX; (refine' enter (mu := []) (binds := [("u", .ref u), ("v", .ref v)]) key (fun p hp => nomatch hp) ?k6 ?k7 ?k8 ?k9 ?kB ?_ ?c2 ?c3 ?c4 ?c5); (case k6 => k_is); (case k7 => k_is); (case k8 => exact Nat.lt_of_le_of_lt (Nat.sub_le _ _) (Nat.le_of_ble_eq_true rfl)); (case k9 => exact BindsTo.of_eq rfl); (case kB => exact locs rfl); (case c2 => decide); (case c3 => exact rfl); (case c4 => exact rfl); (case c5 => exact rfl)))
  (try clear hx)
  intro g' L' h' hg F' N' B' X' T'
  replace hg : g' = s.heap := hg
  subst hg
  (try dsimp only)
  (try k_fold)
  (repeat' (first | (k_unfold; (try dsimp only)) | (k_end; wrow_close) | ((fail_if_success (with_reducible show wpAny _ _ (exec (Stmt.For _ _ _ _ _) _) _ _ _)); (fail_if_success (with_reducible show wpAny _ _ (pyIter _) _ _ _)); first | ((with_reducible show wpAny _ _ (compareOp CmpOp.Eq (Value.ref _) (Value.ref _)) _ _ _); (refine' eq_tags ?_ ?_ (by k_asm) (by assumption) (by assumption) (by assumption) (by assumption) (by have hc := cLine_is; dsimp only [Around.deeper, Around.in1]; omega) ?_; assumption; assumption)) | ((with_reducible show wpAny _ _ (compareOp CmpOp.Eq (Value.ref _) (Value.ref _)) _ _ _); (refine' eq_items (by k_asm) (by assumption) (by assumption) (by assumption) (by assumption) (by have hc := cLine_is; dsimp only [Around.deeper, Around.in1]; omega) ?_)) | ((with_reducible show wpAny _ _ (getAttr (Value.ref _) _ _) _ _ _); (refine' get_field (by k_asm) (by k_asm) (by assumption) (by first | assumption | simp) (by simp) (by first | assumption | k_mem) (by first | assumption | rfl) ?_)) | ((with_reducible show wpAny _ _ (call (Value.ref _) _ _) _ _ _); (refine' says_use (by assumption) (by k_asm) (by k_asm) (by k_asm) (by k_asm) (by k_asm) (by exact rfl) (by exact rfl) (by exact rfl) (by exact rfl) (by dsimp only [Around.deeper]; omega) (by dsimp only [Around.deeper]; omega) (by first | assumption | exact stays_self) ?_; intro _ _ _ _; (try k_sweep))) | walk1 | (dsimp only; walk1) | (leave1; try dsimp only))))
  all_goals (dsimp only; exact fin _ _ _ _ _ (by assumption) rfl)

set_option maxHeartbeats 8000000 in
theorem kern_call {w : World} {n k k1 : Nat} {x y : Value} {us vs : List Tr} {a a' : List (Option Str)} {h : Heap} {b : Bool} (hk : k < 70) (hk1 : k1 < k) (hx : VIn w (Hp h) (n + 1) x (.call a us)) (hy : VIn w (Hp h) (n + 1) y (.call a' vs))
    (C : ∀ lu lv xs ys, h.IsList lu xs.toArray → h.IsList lv ys.toArray → xs.length ≤ 1000 → ys.length ≤ 1000 → All2 (VIn w (Hp h) n) xs us → All2 (VIn w (Hp h) n) ys vs → Sy w k1 135 [.ref lu, .ref lv, .ref 170] h b) : Sy w k 163 [x, y] h (decide (a = a') && b) := by
  refine says_mk fun mean mg mb base outs s RR hs key fin => ?_
  obtain ⟨u, tu, ru, xs, tgu, es, rfl, Iu, Lu, Cu, Lt, Ct, ou⟩ := hx
  obtain ⟨v, tv, rv, ys, tgv, es', rfl, Iv, Lv, Cv, Lt', Ct', ov⟩ := hy
  obtain ⟨lu, rfl, Lu, zu⟩ := Lu.isList
  obtain ⟨lv, rfl, Lv, zv⟩ := Lv.isList
  have D := C lu lv xs ys Lu Lv zu zv Cu Cv
  clear C
  obtain ⟨lt, rfl, Lt, zt⟩ := (Lt.mono (P' := Hp s.heap) hs).isList
  obtain ⟨lt', rfl, Lt', zt'⟩ := (Lt'.mono (P' := Hp s.heap) hs).isList
  replace Iu := Iu.mono (P' := Hp s.heap) hs
  replace Iv := Iv.mono (P' := Hp s.heap) hs
  obtain ⟨_, _, IAu⟩ := Iu.at
  (((have KX := Amb.X key); revert KX; k_fill; intro KX; clear KX; (refine' enter (mu := []) (binds := [("u", .ref u), ("v", .ref v)]) key (fun p hp => nomatch hp) ?k6 ?k7 ?k8 ?k9 ?kB ?_ ?c2 ?c3 ?c4 ?c5); (case k6 => k_is); (case k7 => k_is); (case k8 => exact Nat.lt_of_le_of_lt (Nat.sub_le _ _) (Nat.le_of_ble_eq_true rfl)); (case k9 => exact BindsTo.of_eq rfl); (case kB => exact locs rfl); (case c2 => decide); (case c3 => exact rfl); (case c4 => exact rfl); (case c5 => exact rfl)))
  (try clear hx)
  intro g' L' h' hg F' N' B' X' T'
  replace hg : g' = s.heap := hg
  subst hg
  (try dsimp only)
  (try k_fold)
  (repeat' (first | (k_unfold; (try dsimp only)) | (k_end; wrow_close) | ((fail_if_success (with_reducible show wpAny _ _ (exec (Stmt.For _ _ _ _ _) _) _ _ _)); (fail_if_success (with_reducible show wpAny _ _ (pyIter _) _ _ _)); first | ((with_reducible show wpAny _ _ (compareOp CmpOp.Eq (Value.ref _) (Value.ref _)) _ _ _); (refine' eq_tags ?_ ?_ (by k_asm) (by assumption) (by assumption) (by assumption) (by assumption) (by have hc := cLine_is; dsimp only [Around.deeper, Around.in1]; omega) ?_; assumption; assumption)) | ((with_reducible show wpAny _ _ (compareOp CmpOp.Eq (Value.ref _) (Value.ref _)) _ _ _); (refine' eq_items (by k_asm) (by assumption) (by assumption) (by assumption) (by assumption) (by have hc := cLine_is; dsimp only [Around.deeper, Around.in1]; omega) ?_)) | ((with_reducible show wpAny _ _ (getAttr (Value.ref _) _ _) _ _ _); (refine' get_field (by k_asm) (by k_asm) (by assumption) (by first | assumption | simp) (by simp) (by first | assumption | k_mem) (by first | assumption | rfl) ?_)) | ((with_reducible show wpAny _ _ (call (Value.ref _) _ _) _ _ _); (refine' says_use (by assumption) (by k_asm) (by k_asm) (by k_asm) (by k_asm) (by k_asm) (by exact rfl) (by exact rfl) (by exact rfl) (by exact rfl) (by dsimp only [Around.deeper]; omega) (by dsimp only [Around.deeper]; omega) (by first | assumption | exact stays_self) ?_; intro _ _ _ _; (try k_sweep))) | walk1 | (dsimp only; walk1) | (leave1; try dsimp only))))
  all_goals (dsimp only; exact fin _ _ _ _ _ (by assumption) (by simp_all))
end Mine
end Kern

section Attrs
open PySem PySem.Spec PySem.Calls PyProof.Rows PySem.W PyProof.V
namespace Mine
theorem VIn.attrs {w : World} {P : Addr → Obj → Prop} : ∀ {n : Nat} {v : Value} {T : Tr}, VIn w P n v T → ∃ x C at_ fs, v = .ref x ∧ Inst P C x fs ∧ (("attrs" : Str), at_) ∈ fs ∧ (C = 38 ∨ C = 88 ∨ C = 67 ∨ C = 110) ∧ AtV w P at_ (atsOf T)
  | n, v, .null, x => by
    unfold VIn at x
    obtain ⟨y, t, e, i⟩ := x
    exact ⟨y, _, _, _, e, i, .tail _ (.head _), by simp, .inl ⟨rfl, rfl⟩⟩
  | n, v, .name y, x => by
    unfold VIn at x
    obtain ⟨y, t, t', e, i⟩ := x
    exact ⟨y, _, _, _, e, i, .tail _ (.tail _ (.head _)), by simp, .inl ⟨rfl, rfl⟩⟩
  | n, v, .vec k r a, x => by
    unfold VIn at x
    obtain ⟨ok, atv, ⟨y, t, rows, vs, e, i, l⟩, l2⟩ := x
    exact ⟨y, _, _, _, e, i, .tail _ (.tail _ (.head _)), by simp, l2⟩
  | n + 1, v, .list ks a, x => by
    unfold VIn at x
    obtain ⟨y, t, r, vs, atv, e, i, l, q, z⟩ := x
    exact ⟨y, _, _, _, e, i, .tail _ (.tail _ (.head _)), by simp, z⟩
  | n + 1, v, .call tg ks, x => by
    unfold VIn at x
    obtain ⟨y, t, r, vs, tags, es, e, i, l, q, z, c⟩ := x
    exact ⟨y, _, _, _, e, i, .tail _ (.tail _ (.tail _ (.head _))), by simp, .inl ⟨rfl, rfl⟩⟩
  | 0, _, .list _ _, x => x.elim
  | 0, _, .call _ _, x => x.elim

theorem valueAt_cons {K : Type} [DecidableEq K] {k k' : K} {v : Value} {r : List (K × Value)} : valueAt ((k', v) :: r) k = if k' = k then some v else valueAt r k := by
  unfold valueAt
  by_cases h : k' = k <;> simp [h]
theorem atP_value {P : Addr → Obj → Prop} {k : Str} : ∀ {kvs : List (Str × Value)} {a : List (Str × Int)}, All2 (AtP P) kvs a →
    (valueAt kvs k = none ∧ at? k a = none) ∨ ∃ x v, valueAt kvs k = some x ∧ at? k a = some v ∧ VecIn P "integer" [v] x .none
  | _, _, .nil => .inl ⟨rfl, rfl⟩
  | _, _, .cons (a := kv) (b := p) x r => by
    obtain ⟨k', v⟩ := kv
    obtain ⟨e, hv⟩ := x
    dsimp only at e hv
    rw [valueAt_cons]
    unfold at?
    rw [← e]
    by_cases h : k' = k
    · rw [if_pos h, if_pos h]; exact .inr ⟨_, _, rfl, rfl, hv⟩
    · rw [if_neg h, if_neg h]; exact atP_value r
theorem valueAt_nodup {K : Type} [DecidableEq K] : ∀ {kvs : List (K × Value)} {i : Nat} {k : K} {v : Value}, (kvs.map (·.1)).Nodup → kvs[i]? = some (k, v) → valueAt kvs k = some v
  | (k', v') :: r, 0, k, v, _, h => by
    have h' : (k', v') = (k, v) := by simpa using h
    cases h'
    rw [valueAt_cons, if_pos rfl]
  | (k', v') :: r, i + 1, k, v, hn, h => by
    have hn' := List.nodup_cons.mp (by simpa using hn : (k' :: r.map (·.1)).Nodup)
    have h' : r[i]? = some (k, v) := by simpa using h
    have : k' ≠ k := fun e => hn'.1 (e ▸ List.mem_map_of_mem (f := (·.1)) (List.mem_of_getElem? h'))
    rw [valueAt_cons, if_neg this]
    exact valueAt_nodup hn'.2 h'
theorem News.notL {h₀ h : Heap} {L a : Addr} {o : Obj} {news : List (Addr × Obj)} (N : News h₀ L h news) (hm : (a, o) ∈ news) : a ≠ L := (N _ hm).2.1
section
variable {prog : Program} {w : World} {A : Around} {E : Value → Shared → Prop} {s : Shared} {K : Type} [DecidableEq K] {knd : KeyKind prog w K} {h₀ : Heap} {L d : Addr} {m : Str → Option Value} {o : Obj} {kvs : List (K × Value)} {k : K} {key v : Value}
theorem dict_here (F : Fr h₀ L s.heap m) (hd : h₀.get? d = some o) (hk : o.IsDictOf knd kvs) : s.heap.DictOf knd d kvs := Heap.dictOf_iff.mpr ⟨o, F.keep _ _ hd, hk⟩
theorem notin_base {Q : Value → Shared → Prop} {b : Bool} (F : Fr h₀ L s.heap m) (hd : h₀.get? d = some o) (lo : (d == sysModules) = false) (hk : o.IsDictOf knd kvs) (hkey : knd.is k key = true) (hb : (valueAt kvs k).isSome = b)
    (h : Q (.bool (!b)) { s with toks := s.toks + 1 }) : wpAny (model prog w) A (compareOp .NotIn key (.ref d)) Q E s := wpAny_notIn_of hkey lo (dict_here F hd hk).mapOf (by rw [hb]; exact h)
theorem item_dict_base {value slice : PySem.Expr} {Q : Value → Shared → Prop} (F : Fr h₀ L s.heap m) (hd : h₀.get? d = some o) (hk : o.IsDictOf knd kvs) (hkey : knd.is k key = true) (hl : valueAt kvs k = some v) (h : Q v { s with toks := s.toks + 1 })
    (hs : subscripted slice false (.ref d) key = operate [.ref d, key] (getItem (.ref d) key) := by with_unfolding_all rfl) (hg : ∀ r, letTemporaryGo value (.ref d) r = pure () := by intro _; with_unfolding_all rfl) :
    wpAny (model prog w) A (subscriptTail value slice (.ref d) key) Q E s :=
  have hD := dict_here F hd hk
  subscriptTail_builtin hD.typeIs slot_dict_getitem.lookup (wpAny_getItem_of hkey hD.mapOf hl h) hs hg
theorem len_dict_base {Q : Value → Shared → Prop} (F : Fr h₀ L s.heap m) (hd : h₀.get? d = some o) (lo : (d == sysModules) = false) (hk : o.IsDictOf knd kvs) (hz : kvs.length ≤ 1000) (h : Q (.int kvs.length (s.toks + 1)) { s with toks := s.toks + 1 + 1 }) :
    wpAny (model prog w) A (call (.builtin "len") [.ref d]) Q E s := call_len_dict lo (dict_here F hd hk) (by omega) h
end









set_option maxHeartbeats 8000000 in
theorem attrs_dd {w : World} {k k1 : Nat} {u v Cu Cv du dv : Addr} {fu fv : List (Str × Value)} {a b : List (Str × Int)} {ou ov : Obj} {ku kv : List (Str × Value)} {h : Heap} (hk : k < 70) (hk1 : k1 < k)
    (Iu : Inst (Hp h) Cu u fu) (Iv : Inst (Hp h) Cv v fv) (mu : (("attrs" : Str), .ref du) ∈ fu) (mv : (("attrs" : Str), .ref dv) ∈ fv) (cu : Cu = 38 ∨ Cu = 88 ∨ Cu = 67 ∨ Cu = 110) (cv : Cv = 38 ∨ Cv = 88 ∨ Cv = 67 ∨ Cv = 110)
    (Du : h.get? du = some ou) (Dv : h.get? dv = some ov) (lu : (du == sysModules) = false) (lv : (dv == sysModules) = false) (Ku : ou.IsDictOf (PySem.strKind PySem.Challenge.rw_pq1317_01.row.prog w) ku) (Kv : ov.IsDictOf (PySem.strKind PySem.Challenge.rw_pq1317_01.row.prog w) kv)
    (zu : ku.length ≤ 1000) (zv : kv.length ≤ 1000) (Au : All2 (AtP (Hp h)) ku a) (Av : All2 (AtP (Hp h)) kv b)
    (C : ∀ x y p q, VecIn (Hp h) "integer" [p] x .none → VecIn (Hp h) "integer" [q] y .none → Sy w k1 170 [x, y] h (decide (p = q))) : Sy w k 128 [.ref u, .ref v] h (eqAt a b) := by
  refine says_mk fun mean mg mb base outs s RR hs key fin => ?_
  replace Iu := Iu.mono (P' := Hp s.heap) hs
  replace Iv := Iv.mono (P' := Hp s.heap) hs
  replace Du := hs _ _ Du
  replace Dv := hs _ _ Dv
  have la := Au.length
  have lb := Av.length
  (((have KX := Amb.X key); revert KX; k_fill; intro KX; clear KX; (refine' enter (mu := []) (binds := [("u", .ref u), ("v", .ref v)]) key (fun p hp => nomatch hp) ?k6 ?k7 ?k8 ?k9 ?kB ?_ ?c2 ?c3 ?c4 ?c5); (case k6 => k_is); (case k7 => k_is); (case k8 => exact Nat.lt_of_le_of_lt (Nat.sub_le _ _) (Nat.le_of_ble_eq_true rfl)); (case k9 => exact BindsTo.of_eq rfl); (case kB => exact locs rfl); (case c2 => decide); (case c3 => exact rfl); (case c4 => exact rfl); (case c5 => exact rfl)))
  intro g' L' h' hg F' N' B' X' T'
  replace hg : g' = s.heap := hg
  subst hg
  (try dsimp only)
  (try k_fold)
  (repeat' (first | (k_unfold; (try dsimp only)) | (k_end; wrow_close) | ((fail_if_success (with_reducible show wpAny _ _ (exec (Stmt.For _ _ _ _ _) _) _ _ _)); (fail_if_success (with_reducible show wpAny _ _ (pyIter _) _ _ _)); first | ((with_reducible show wpAny _ _ (subscriptTail _ _ (Value.ref _) (Value.str _ _)) _ _ _); refine' item_dict_base (knd := PySem.strKind _ _) (by k_asm) (by assumption) (by assumption) (by exact strKind_is _ _ _ _) (by assumption) ?_) | ((with_reducible show wpAny _ _ (compareOp CmpOp.NotIn (Value.str _ _) (Value.ref _)) _ _ _); (refine' notin_base (knd := PySem.strKind _ _) (by k_asm) (by assumption) (by assumption) (by assumption) (by exact strKind_is _ _ _ _) (by assumption) ?_)) | ((with_reducible show wpAny _ _ (call (Value.builtin "len") _ _) _ _ _); (refine' len_dict_base (knd := PySem.strKind _ _) (by k_asm) (by assumption) (by assumption) (by assumption) (by assumption) ?_)) | ((with_reducible show wpAny _ _ (getAttr (Value.ref _) _ _) _ _ _); (refine' get_field (by k_asm) (by k_asm) (by assumption) (by first | assumption | simp) (by simp) (by first | assumption | k_mem) (by first | assumption | rfl) ?_)) | ((with_reducible show wpAny _ _ (call (Value.ref _) _ _) _ _ _); (refine' says_use (by assumption) (by k_asm) (by k_asm) (by k_asm) (by k_asm) (by k_asm) (by exact rfl) (by exact rfl) (by exact rfl) (by exact rfl) (by dsimp only [Around.deeper]; omega) (by dsimp only [Around.deeper]; omega) (by first | assumption | exact stays_self) ?_; intro _ _ _ _; (try k_sweep))) | walk1 | (dsimp only; walk1) | (leave1; try dsimp only))))
  · dsimp only
    exact fin _ _ _ _ _ (by assumption) (by rw [eqAt_len (by omega)])
  refine For_invV s.heap rfl rfl ?_
  (repeat' (first | (k_unfold; (try dsimp only)) | (k_end; wrow_close) | ((fail_if_success (with_reducible show wpAny _ _ (exec (Stmt.For _ _ _ _ _) _) _ _ _)); (fail_if_success (with_reducible show wpAny _ _ (pyIter _) _ _ _)); first | ((with_reducible show wpAny _ _ (subscriptTail _ _ (Value.ref _) (Value.str _ _)) _ _ _); refine' item_dict_base (knd := PySem.strKind _ _) (by k_asm) (by assumption) (by assumption) (by exact strKind_is _ _ _ _) (by assumption) ?_) | ((with_reducible show wpAny _ _ (compareOp CmpOp.NotIn (Value.str _ _) (Value.ref _)) _ _ _); (refine' notin_base (knd := PySem.strKind _ _) (by k_asm) (by assumption) (by assumption) (by assumption) (by exact strKind_is _ _ _ _) (by assumption) ?_)) | ((with_reducible show wpAny _ _ (call (Value.builtin "len") _ _) _ _ _); (refine' len_dict_base (knd := PySem.strKind _ _) (by k_asm) (by assumption) (by assumption) (by assumption) (by assumption) ?_)) | ((with_reducible show wpAny _ _ (getAttr (Value.ref _) _ _) _ _ _); (refine' get_field (by k_asm) (by k_asm) (by assumption) (by first | assumption | simp) (by simp) (by first | assumption | k_mem) (by first | assumption | rfl) ?_)) | ((with_reducible show wpAny _ _ (call (Value.ref _) _ _) _ _ _); (refine' says_use (by assumption) (by k_asm) (by k_asm) (by k_asm) (by k_asm) (by k_asm) (by exact rfl) (by exact rfl) (by exact rfl) (by exact rfl) (by dsimp only [Around.deeper]; omega) (by dsimp only [Around.deeper]; omega) (by first | assumption | exact stays_self) ?_; intro _ _ _ _; (try k_sweep))) | walk1 | (dsimp only; walk1) | (leave1; try dsimp only))))
  refine' dict_ro (knd := PySem.strKind PySem.Challenge.rw_pq1317_01.row.prog w) (fun i => ∀ j p, j < i → a[j]? = some p → eqAt1 b p = true) rfl ?y1 ?y2 ?y3 lu Ku ?y6 (fun j p h => absurd h (Nat.not_lt_zero _)) ?y4 ?y5
  case y1 => k_asm
  case y2 => k_asm
  case y3 => exact Fr.keep (by k_asm) _ _ Du
  case y6 => exact fun e => Nat.lt_irrefl _ (Nat.lt_of_lt_of_le (e ▸ Heap.lt_size Du) (Fr.above (by k_asm)))
  case y5 =>
    intro u' h' tk' J F' N'
    (repeat' (first | (k_unfold; (try dsimp only)) | (k_end; wrow_close) | ((fail_if_success (with_reducible show wpAny _ _ (exec (Stmt.For _ _ _ _ _) _) _ _ _)); (fail_if_success (with_reducible show wpAny _ _ (pyIter _) _ _ _)); first | ((with_reducible show wpAny _ _ (subscriptTail _ _ (Value.ref _) (Value.str _ _)) _ _ _); refine' item_dict_base (knd := PySem.strKind _ _) (by k_asm) (by assumption) (by assumption) (by exact strKind_is _ _ _ _) (by assumption) ?_) | ((with_reducible show wpAny _ _ (compareOp CmpOp.NotIn (Value.str _ _) (Value.ref _)) _ _ _); (refine' notin_base (knd := PySem.strKind _ _) (by k_asm) (by assumption) (by assumption) (by assumption) (by exact strKind_is _ _ _ _) (by assumption) ?_)) | ((with_reducible show wpAny _ _ (call (Value.builtin "len") _ _) _ _ _); (refine' len_dict_base (knd := PySem.strKind _ _) (by k_asm) (by assumption) (by assumption) (by assumption) (by assumption) ?_)) | ((with_reducible show wpAny _ _ (getAttr (Value.ref _) _ _) _ _ _); (refine' get_field (by k_asm) (by k_asm) (by assumption) (by first | assumption | simp) (by simp) (by first | assumption | k_mem) (by first | assumption | rfl) ?_)) | ((with_reducible show wpAny _ _ (call (Value.ref _) _ _) _ _ _); (refine' says_use (by assumption) (by k_asm) (by k_asm) (by k_asm) (by k_asm) (by k_asm) (by exact rfl) (by exact rfl) (by exact rfl) (by exact rfl) (by dsimp only [Around.deeper]; omega) (by dsimp only [Around.deeper]; omega) (by first | assumption | exact stays_self) ?_; intro _ _ _ _; (try k_sweep))) | walk1 | (dsimp only; walk1) | (leave1; try dsimp only))))
    dsimp only
    refine fin _ _ _ _ _ (by assumption) ?_
    unfold eqAt
    symm
    rw [Bool.and_eq_true]
    refine ⟨decide_eq_true (by omega), List.all_eq_true.mpr fun p hp => ?_⟩
    obtain ⟨j, hj, e⟩ := List.getElem_of_mem hp
    exact J j p (by omega) (by rw [List.getElem?_eq_getElem hj, e])
  intro i nm nv val h' tk' own hx hkey J F' N'
  (try k_sweep)
  obtain ⟨t, rfl⟩ := Value.isStrOf_shape hkey
  have hnd : (ku.map (·.1)).Nodup := let ⟨_, _, _, _, _, _, n⟩ := Ku; n
  have hval : valueAt ku nm = some val := valueAt_nodup hnd hx
  obtain ⟨⟨p1, p2⟩, hp, e1, vp⟩ := Au.get hx
  dsimp only at e1 vp
  subst e1
  rcases atP_value (k := nm) Av with ⟨hr, hb⟩ | ⟨x2, v2, hr, hb, vv⟩
  · have hb1 : (valueAt kv nm).isSome = false := by rw [hr]; rfl
    (repeat' (first | (k_unfold; (try dsimp only)) | (k_end; wrow_close) | ((fail_if_success (with_reducible show wpAny _ _ (exec (Stmt.For _ _ _ _ _) _) _ _ _)); (fail_if_success (with_reducible show wpAny _ _ (pyIter _) _ _ _)); first | ((with_reducible show wpAny _ _ (subscriptTail _ _ (Value.ref _) (Value.str _ _)) _ _ _); refine' item_dict_base (knd := PySem.strKind _ _) (by k_asm) (by assumption) (by assumption) (by exact strKind_is _ _ _ _) (by assumption) ?_) | ((with_reducible show wpAny _ _ (compareOp CmpOp.NotIn (Value.str _ _) (Value.ref _)) _ _ _); (refine' notin_base (knd := PySem.strKind _ _) (by k_asm) (by assumption) (by assumption) (by assumption) (by exact strKind_is _ _ _ _) (by assumption) ?_)) | ((with_reducible show wpAny _ _ (call (Value.builtin "len") _ _) _ _ _); (refine' len_dict_base (knd := PySem.strKind _ _) (by k_asm) (by assumption) (by assumption) (by assumption) (by assumption) ?_)) | ((with_reducible show wpAny _ _ (getAttr (Value.ref _) _ _) _ _ _); (refine' get_field (by k_asm) (by k_asm) (by assumption) (by first | assumption | simp) (by simp) (by first | assumption | k_mem) (by first | assumption | rfl) ?_)) | ((with_reducible show wpAny _ _ (call (Value.ref _) _ _) _ _ _); (refine' says_use (by assumption) (by k_asm) (by k_asm) (by k_asm) (by k_asm) (by k_asm) (by exact rfl) (by exact rfl) (by exact rfl) (by exact rfl) (by dsimp only [Around.deeper]; omega) (by dsimp only [Around.deeper]; omega) (by first | assumption | exact stays_self) ?_; intro _ _ _ _; (try k_sweep))) | walk1 | (dsimp only; walk1) | (leave1; try dsimp only))))
    dsimp only
    refine fin _ _ _ _ _ (by assumption) ?_
    symm
    unfold eqAt
    rw [Bool.and_eq_false_iff]; right
    rw [List.all_eq_false]
    exact ⟨(nm, p2), List.mem_of_getElem? hp, by unfold eqAt1; rw [hb]; simp⟩
  · have hb1 : (valueAt kv nm).isSome = true := by rw [hr]; rfl
    have D := C val x2 p2 v2 vp vv
    (repeat' (first | (k_unfold; (try dsimp only)) | (k_end; wrow_close) | ((fail_if_success (with_reducible show wpAny _ _ (exec (Stmt.For _ _ _ _ _) _) _ _ _)); (fail_if_success (with_reducible show wpAny _ _ (pyIter _) _ _ _)); first | ((with_reducible show wpAny _ _ (subscriptTail _ _ (Value.ref _) (Value.str _ _)) _ _ _); refine' item_dict_base (knd := PySem.strKind _ _) (by k_asm) (by assumption) (by assumption) (by exact strKind_is _ _ _ _) (by assumption) ?_) | ((with_reducible show wpAny _ _ (compareOp CmpOp.NotIn (Value.str _ _) (Value.ref _)) _ _ _); (refine' notin_base (knd := PySem.strKind _ _) (by k_asm) (by assumption) (by assumption) (by assumption) (by exact strKind_is _ _ _ _) (by assumption) ?_)) | ((with_reducible show wpAny _ _ (call (Value.builtin "len") _ _) _ _ _); (refine' len_dict_base (knd := PySem.strKind _ _) (by k_asm) (by assumption) (by assumption) (by assumption) (by assumption) ?_)) | ((with_reducible show wpAny _ _ (getAttr (Value.ref _) _ _) _ _ _); (refine' get_field (by k_asm) (by k_asm) (by assumption) (by first | assumption | simp) (by simp) (by first | assumption | k_mem) (by first | assumption | rfl) ?_)) | ((with_reducible show wpAny _ _ (call (Value.ref _) _ _) _ _ _); (refine' says_use (by assumption) (by k_asm) (by k_asm) (by k_asm) (by k_asm) (by k_asm) (by exact rfl) (by exact rfl) (by exact rfl) (by exact rfl) (by dsimp only [Around.deeper]; omega) (by dsimp only [Around.deeper]; omega) (by first | assumption | exact stays_self) ?_; intro _ _ _ _; (try k_sweep))) | walk1 | (dsimp only; walk1) | (leave1; try dsimp only))))
    · refine ⟨_, _, rfl, by assumption, by assumption, fun j p hj hp' => ?_⟩
      rcases Nat.lt_succ_iff_lt_or_eq.mp hj with h | rfl
      · exact J j p h hp'
      · rw [hp] at hp'
        cases hp'
        unfold eqAt1
        rw [hb]
        exact decide_eq_true (by assumption)
    · dsimp only
      refine fin _ _ _ _ _ (by assumption) ?_
      symm
      unfold eqAt
      rw [Bool.and_eq_false_iff]; right
      rw [List.all_eq_false]
      exact ⟨(nm, p2), List.mem_of_getElem? hp, by unfold eqAt1; rw [hb]; simpa using (by assumption : ¬ p2 = v2)⟩

set_option maxHeartbeats 8000000 in
theorem attrs_nn {w : World} {k : Nat} {u v Cu Cv : Addr} {fu fv : List (Str × Value)} {h : Heap} (hk : k < 70)
    (Iu : Inst (Hp h) Cu u fu) (Iv : Inst (Hp h) Cv v fv) (mu : (("attrs" : Str), Value.none) ∈ fu) (mv : (("attrs" : Str), Value.none) ∈ fv) (cu : Cu = 38 ∨ Cu = 88 ∨ Cu = 67 ∨ Cu = 110) (cv : Cv = 38 ∨ Cv = 88 ∨ Cv = 67 ∨ Cv = 110) :
    Sy w k 128 [.ref u, .ref v] h true := by
  refine says_mk fun mean mg mb base outs s RR hs key fin => ?_
  replace Iu := Iu.mono (P' := Hp s.heap) hs
  replace Iv := Iv.mono (P' := Hp s.heap) hs
  (((have KX := Amb.X key); revert KX; k_fill; intro KX; clear KX; (refine' enter (mu := []) (binds := [("u", .ref u), ("v", .ref v)]) key (fun p hp => nomatch hp) ?k6 ?k7 ?k8 ?k9 ?kB ?_ ?c2 ?c3 ?c4 ?c5); (case k6 => k_is); (case k7 => k_is); (case k8 => exact Nat.lt_of_le_of_lt (Nat.sub_le _ _) (Nat.le_of_ble_eq_true rfl)); (case k9 => exact BindsTo.of_eq rfl); (case kB => exact locs rfl); (case c2 => decide); (case c3 => exact rfl); (case c4 => exact rfl); (case c5 => exact rfl)))
  intro g' L' h' hg F' N' B' X' T'
  replace hg : g' = s.heap := hg
  subst hg
  (try dsimp only)
  (try k_fold)
  (repeat' (first | (k_unfold; (try dsimp only)) | (k_end; wrow_close) | ((fail_if_success (with_reducible show wpAny _ _ (exec (Stmt.For _ _ _ _ _) _) _ _ _)); (fail_if_success (with_reducible show wpAny _ _ (pyIter _) _ _ _)); first | ((with_reducible show wpAny _ _ (subscriptTail _ _ (Value.ref _) (Value.str _ _)) _ _ _); refine' item_dict_base (knd := PySem.strKind _ _) (by k_asm) (by assumption) (by assumption) (by exact strKind_is _ _ _ _) (by assumption) ?_) | ((with_reducible show wpAny _ _ (compareOp CmpOp.NotIn (Value.str _ _) (Value.ref _)) _ _ _); (refine' notin_base (knd := PySem.strKind _ _) (by k_asm) (by assumption) (by assumption) (by assumption) (by exact strKind_is _ _ _ _) (by assumption) ?_)) | ((with_reducible show wpAny _ _ (call (Value.builtin "len") _ _) _ _ _); (refine' len_dict_base (knd := PySem.strKind _ _) (by k_asm) (by assumption) (by assumption) (by assumption) (by assumption) ?_)) | ((with_reducible show wpAny _ _ (getAttr (Value.ref _) _ _) _ _ _); (refine' get_field (by k_asm) (by k_asm) (by assumption) (by first | assumption | simp) (by simp) (by first | assumption | k_mem) (by first | assumption | rfl) ?_)) | ((with_reducible show wpAny _ _ (call (Value.ref _) _ _) _ _ _); (refine' says_use (by assumption) (by k_asm) (by k_asm) (by k_asm) (by k_asm) (by k_asm) (by exact rfl) (by exact rfl) (by exact rfl) (by exact rfl) (by dsimp only [Around.deeper]; omega) (by dsimp only [Around.deeper]; omega) (by first | assumption | exact stays_self) ?_; intro _ _ _ _; (try k_sweep))) | walk1 | (dsimp only; walk1) | (leave1; try dsimp only))))
  refine For_invV s.heap rfl rfl ?_
  (repeat' (first | (k_unfold; (try dsimp only)) | (k_end; wrow_close) | ((fail_if_success (with_reducible show wpAny _ _ (exec (Stmt.For _ _ _ _ _) _) _ _ _)); (fail_if_success (with_reducible show wpAny _ _ (pyIter _) _ _ _)); first | ((with_reducible show wpAny _ _ (subscriptTail _ _ (Value.ref _) (Value.str _ _)) _ _ _); refine' item_dict_base (knd := PySem.strKind _ _) (by k_asm) (by assumption) (by assumption) (by exact strKind_is _ _ _ _) (by assumption) ?_) | ((with_reducible show wpAny _ _ (compareOp CmpOp.NotIn (Value.str _ _) (Value.ref _)) _ _ _); (refine' notin_base (knd := PySem.strKind _ _) (by k_asm) (by assumption) (by assumption) (by assumption) (by exact strKind_is _ _ _ _) (by assumption) ?_)) | ((with_reducible show wpAny _ _ (call (Value.builtin "len") _ _) _ _ _); (refine' len_dict_base (knd := PySem.strKind _ _) (by k_asm) (by assumption) (by assumption) (by assumption) (by assumption) ?_)) | ((with_reducible show wpAny _ _ (getAttr (Value.ref _) _ _) _ _ _); (refine' get_field (by k_asm) (by k_asm) (by assumption) (by first | assumption | simp) (by simp) (by first | assumption | k_mem) (by first | assumption | rfl) ?_)) | ((with_reducible show wpAny _ _ (call (Value.ref _) _ _) _ _ _); (refine' says_use (by assumption) (by k_asm) (by k_asm) (by k_asm) (by k_asm) (by k_asm) (by exact rfl) (by exact rfl) (by exact rfl) (by exact rfl) (by dsimp only [Around.deeper]; omega) (by dsimp only [Around.deeper]; omega) (by first | assumption | exact stays_self) ?_; intro _ _ _ _; (try k_sweep))) | walk1 | (dsimp only; walk1) | (leave1; try dsimp only))))
  refine' dict_ro (knd := PySem.strKind PySem.Challenge.rw_pq1317_01.row.prog w) (kvs := []) (fun _ => True) rfl ?y1 ?y2 ?y3 ?y7 ?y8 ?y6 trivial ?y4 ?y5
  case y1 => k_asm
  case y2 => k_asm
  case y3 => exact News.get (by k_asm) (by k_mem)
  case y7 => assumption
  case y8 => assumption
  case y6 => exact fun e => (News.notL (by k_asm) (by k_mem)) e.symm
  case y4 => exact fun i k kv val h tk own hx => nomatch hx
  intro u' h' tk' J F' N'
  (repeat' (first | (k_unfold; (try dsimp only)) | (k_end; wrow_close) | ((fail_if_success (with_reducible show wpAny _ _ (exec (Stmt.For _ _ _ _ _) _) _ _ _)); (fail_if_success (with_reducible show wpAny _ _ (pyIter _) _ _ _)); first | ((with_reducible show wpAny _ _ (subscriptTail _ _ (Value.ref _) (Value.str _ _)) _ _ _); refine' item_dict_base (knd := PySem.strKind _ _) (by k_asm) (by assumption) (by assumption) (by exact strKind_is _ _ _ _) (by assumption) ?_) | ((with_reducible show wpAny _ _ (compareOp CmpOp.NotIn (Value.str _ _) (Value.ref _)) _ _ _); (refine' notin_base (knd := PySem.strKind _ _) (by k_asm) (by assumption) (by assumption) (by assumption) (by exact strKind_is _ _ _ _) (by assumption) ?_)) | ((with_reducible show wpAny _ _ (call (Value.builtin "len") _ _) _ _ _); (refine' len_dict_base (knd := PySem.strKind _ _) (by k_asm) (by assumption) (by assumption) (by assumption) (by assumption) ?_)) | ((with_reducible show wpAny _ _ (getAttr (Value.ref _) _ _) _ _ _); (refine' get_field (by k_asm) (by k_asm) (by assumption) (by first | assumption | simp) (by simp) (by first | assumption | k_mem) (by first | assumption | rfl) ?_)) | ((with_reducible show wpAny _ _ (call (Value.ref _) _ _) _ _ _); (refine' says_use (by assumption) (by k_asm) (by k_asm) (by k_asm) (by k_asm) (by k_asm) (by exact rfl) (by exact rfl) (by exact rfl) (by exact rfl) (by dsimp only [Around.deeper]; omega) (by dsimp only [Around.deeper]; omega) (by first | assumption | exact stays_self) ?_; intro _ _ _ _; (try k_sweep))) | walk1 | (dsimp only; walk1) | (leave1; try dsimp only))))
  dsimp only
  exact fin _ _ _ _ _ (by assumption) rfl

set_option maxHeartbeats 8000000 in
theorem attrs_nd {w : World} {k : Nat} {u v Cu Cv dv : Addr} {fu fv : List (Str × Value)} {b : List (Str × Int)} {ov : Obj} {kv : List (Str × Value)} {h : Heap} (hk : k < 70)
    (Iu : Inst (Hp h) Cu u fu) (Iv : Inst (Hp h) Cv v fv) (mu : (("attrs" : Str), Value.none) ∈ fu) (mv : (("attrs" : Str), .ref dv) ∈ fv) (cu : Cu = 38 ∨ Cu = 88 ∨ Cu = 67 ∨ Cu = 110) (cv : Cv = 38 ∨ Cv = 88 ∨ Cv = 67 ∨ Cv = 110)
    (Dv : h.get? dv = some ov) (lv : (dv == sysModules) = false) (Kv : ov.IsDictOf (PySem.strKind PySem.Challenge.rw_pq1317_01.row.prog w) kv) (zv : kv.length ≤ 1000) (lb : kv.length = b.length) : Sy w k 128 [.ref u, .ref v] h (eqAt [] b) := by
  refine says_mk fun mean mg mb base outs s RR hs key fin => ?_
  replace Iu := Iu.mono (P' := Hp s.heap) hs
  replace Iv := Iv.mono (P' := Hp s.heap) hs
  replace Dv := hs _ _ Dv
  (((have KX := Amb.X key); revert KX; k_fill; intro KX; clear KX; (refine' enter (mu := []) (binds := [("u", .ref u), ("v", .ref v)]) key (fun p hp => nomatch hp) ?k6 ?k7 ?k8 ?k9 ?kB ?_ ?c2 ?c3 ?c4 ?c5); (case k6 => k_is); (case k7 => k_is); (case k8 => exact Nat.lt_of_le_of_lt (Nat.sub_le _ _) (Nat.le_of_ble_eq_true rfl)); (case k9 => exact BindsTo.of_eq rfl); (case kB => exact locs rfl); (case c2 => decide); (case c3 => exact rfl); (case c4 => exact rfl); (case c5 => exact rfl)))
  intro g' L' h' hg F' N' B' X' T'
  replace hg : g' = s.heap := hg
  subst hg
  (try dsimp only)
  (try k_fold)
  (repeat' (first | (k_unfold; (try dsimp only)) | (k_end; wrow_close) | ((fail_if_success (with_reducible show wpAny _ _ (exec (Stmt.For _ _ _ _ _) _) _ _ _)); (fail_if_success (with_reducible show wpAny _ _ (pyIter _) _ _ _)); first | ((with_reducible show wpAny _ _ (subscriptTail _ _ (Value.ref _) (Value.str _ _)) _ _ _); refine' item_dict_base (knd := PySem.strKind _ _) (by k_asm) (by assumption) (by assumption) (by exact strKind_is _ _ _ _) (by assumption) ?_) | ((with_reducible show wpAny _ _ (compareOp CmpOp.NotIn (Value.str _ _) (Value.ref _)) _ _ _); (refine' notin_base (knd := PySem.strKind _ _) (by k_asm) (by assumption) (by assumption) (by assumption) (by exact strKind_is _ _ _ _) (by assumption) ?_)) | ((with_reducible show wpAny _ _ (call (Value.builtin "len") _ _) _ _ _); (refine' len_dict_base (knd := PySem.strKind _ _) (by k_asm) (by assumption) (by assumption) (by assumption) (by assumption) ?_)) | ((with_reducible show wpAny _ _ (getAttr (Value.ref _) _ _) _ _ _); (refine' get_field (by k_asm) (by k_asm) (by assumption) (by first | assumption | simp) (by simp) (by first | assumption | k_mem) (by first | assumption | rfl) ?_)) | ((with_reducible show wpAny _ _ (call (Value.ref _) _ _) _ _ _); (refine' says_use (by assumption) (by k_asm) (by k_asm) (by k_asm) (by k_asm) (by k_asm) (by exact rfl) (by exact rfl) (by exact rfl) (by exact rfl) (by dsimp only [Around.deeper]; omega) (by dsimp only [Around.deeper]; omega) (by first | assumption | exact stays_self) ?_; intro _ _ _ _; (try k_sweep))) | walk1 | (dsimp only; walk1) | (leave1; try dsimp only))))
  · dsimp only
    refine fin _ _ _ _ _ (by assumption) ?_
    rw [eqAt_len (by simp only [List.length_nil] at *; omega)]
  refine For_invV s.heap rfl rfl ?_
  (repeat' (first | (k_unfold; (try dsimp only)) | (k_end; wrow_close) | ((fail_if_success (with_reducible show wpAny _ _ (exec (Stmt.For _ _ _ _ _) _) _ _ _)); (fail_if_success (with_reducible show wpAny _ _ (pyIter _) _ _ _)); first | ((with_reducible show wpAny _ _ (subscriptTail _ _ (Value.ref _) (Value.str _ _)) _ _ _); refine' item_dict_base (knd := PySem.strKind _ _) (by k_asm) (by assumption) (by assumption) (by exact strKind_is _ _ _ _) (by assumption) ?_) | ((with_reducible show wpAny _ _ (compareOp CmpOp.NotIn (Value.str _ _) (Value.ref _)) _ _ _); (refine' notin_base (knd := PySem.strKind _ _) (by k_asm) (by assumption) (by assumption) (by assumption) (by exact strKind_is _ _ _ _) (by assumption) ?_)) | ((with_reducible show wpAny _ _ (call (Value.builtin "len") _ _) _ _ _); (refine' len_dict_base (knd := PySem.strKind _ _) (by k_asm) (by assumption) (by assumption) (by assumption) (by assumption) ?_)) | ((with_reducible show wpAny _ _ (getAttr (Value.ref _) _ _) _ _ _); (refine' get_field (by k_asm) (by k_asm) (by assumption) (by first | assumption | simp) (by simp) (by first | assumption | k_mem) (by first | assumption | rfl) ?_)) | ((with_reducible show wpAny _ _ (call (Value.ref _) _ _) _ _ _); (refine' says_use (by assumption) (by k_asm) (by k_asm) (by k_asm) (by k_asm) (by k_asm) (by exact rfl) (by exact rfl) (by exact rfl) (by exact rfl) (by dsimp only [Around.deeper]; omega) (by dsimp only [Around.deeper]; omega) (by first | assumption | exact stays_self) ?_; intro _ _ _ _; (try k_sweep))) | walk1 | (dsimp only; walk1) | (leave1; try dsimp only))))
  refine' dict_ro (knd := PySem.strKind PySem.Challenge.rw_pq1317_01.row.prog w) (kvs := []) (fun _ => True) rfl ?y1 ?y2 ?y3 ?y7 ?y8 ?y6 trivial ?y4 ?y5
  case y1 => k_asm
  case y2 => k_asm
  case y3 => exact News.get (by k_asm) (by k_mem)
  case y7 => assumption
  case y8 => assumption
  case y6 => exact fun e => (News.notL (by k_asm) (by k_mem)) e.symm
  case y4 => exact fun i k kv val h tk own hx => nomatch hx
  intro u' h' tk' J F' N'
  (repeat' (first | (k_unfold; (try dsimp only)) | (k_end; wrow_close) | ((fail_if_success (with_reducible show wpAny _ _ (exec (Stmt.For _ _ _ _ _) _) _ _ _)); (fail_if_success (with_reducible show wpAny _ _ (pyIter _) _ _ _)); first | ((with_reducible show wpAny _ _ (subscriptTail _ _ (Value.ref _) (Value.str _ _)) _ _ _); refine' item_dict_base (knd := PySem.strKind _ _) (by k_asm) (by assumption) (by assumption) (by exact strKind_is _ _ _ _) (by assumption) ?_) | ((with_reducible show wpAny _ _ (compareOp CmpOp.NotIn (Value.str _ _) (Value.ref _)) _ _ _); (refine' notin_base (knd := PySem.strKind _ _) (by k_asm) (by assumption) (by assumption) (by assumption) (by exact strKind_is _ _ _ _) (by assumption) ?_)) | ((with_reducible show wpAny _ _ (call (Value.builtin "len") _ _) _ _ _); (refine' len_dict_base (knd := PySem.strKind _ _) (by k_asm) (by assumption) (by assumption) (by assumption) (by assumption) ?_)) | ((with_reducible show wpAny _ _ (getAttr (Value.ref _) _ _) _ _ _); (refine' get_field (by k_asm) (by k_asm) (by assumption) (by first | assumption | simp) (by simp) (by first | assumption | k_mem) (by first | assumption | rfl) ?_)) | ((with_reducible show wpAny _ _ (call (Value.ref _) _ _) _ _ _); (refine' says_use (by assumption) (by k_asm) (by k_asm) (by k_asm) (by k_asm) (by k_asm) (by exact rfl) (by exact rfl) (by exact rfl) (by exact rfl) (by dsimp only [Around.deeper]; omega) (by dsimp only [Around.deeper]; omega) (by first | assumption | exact stays_self) ?_; intro _ _ _ _; (try k_sweep))) | walk1 | (dsimp only; walk1) | (leave1; try dsimp only))))
  dsimp only
  refine fin _ _ _ _ _ (by assumption) ?_
  have : b = [] := List.length_eq_zero_iff.mp (by simp only [List.length_nil] at *; omega)
  subst this; rfl

set_option maxHeartbeats 8000000 in
theorem attrs_dn {w : World} {k : Nat} {u v Cu Cv du : Addr} {fu fv : List (Str × Value)} {a : List (Str × Int)} {ou : Obj} {ku : List (Str × Value)} {h : Heap} (hk : k < 70)
    (Iu : Inst (Hp h) Cu u fu) (Iv : Inst (Hp h) Cv v fv) (mu : (("attrs" : Str), .ref du) ∈ fu) (mv : (("attrs" : Str), Value.none) ∈ fv) (cu : Cu = 38 ∨ Cu = 88 ∨ Cu = 67 ∨ Cu = 110) (cv : Cv = 38 ∨ Cv = 88 ∨ Cv = 67 ∨ Cv = 110)
    (Du : h.get? du = some ou) (lu : (du == sysModules) = false) (Ku : ou.IsDictOf (PySem.strKind PySem.Challenge.rw_pq1317_01.row.prog w) ku) (zu : ku.length ≤ 1000) (la : ku.length = a.length) : Sy w k 128 [.ref u, .ref v] h (eqAt a []) := by
  refine says_mk fun mean mg mb base outs s RR hs key fin => ?_
  replace Iu := Iu.mono (P' := Hp s.heap) hs
  replace Iv := Iv.mono (P' := Hp s.heap) hs
  replace Du := hs _ _ Du
  (((have KX := Amb.X key); revert KX; k_fill; intro KX; clear KX; (refine' enter (mu := []) (binds := [("u", .ref u), ("v", .ref v)]) key (fun p hp => nomatch hp) ?k6 ?k7 ?k8 ?k9 ?kB ?_ ?c2 ?c3 ?c4 ?c5); (case k6 => k_is); (case k7 => k_is); (case k8 => exact Nat.lt_of_le_of_lt (Nat.sub_le _ _) (Nat.le_of_ble_eq_true rfl)); (case k9 => exact BindsTo.of_eq rfl); (case kB => exact locs rfl); (case c2 => decide); (case c3 => exact rfl); (case c4 => exact rfl); (case c5 => exact rfl)))
  intro g' L' h' hg F' N' B' X' T'
  replace hg : g' = s.heap := hg
  subst hg
  (try dsimp only)
  (try k_fold)
  (repeat' (first | (k_unfold; (try dsimp only)) | (k_end; wrow_close) | ((fail_if_success (with_reducible show wpAny _ _ (exec (Stmt.For _ _ _ _ _) _) _ _ _)); (fail_if_success (with_reducible show wpAny _ _ (pyIter _) _ _ _)); first | ((with_reducible show wpAny _ _ (subscriptTail _ _ (Value.ref _) (Value.str _ _)) _ _ _); refine' item_dict_base (knd := PySem.strKind _ _) (by k_asm) (by assumption) (by assumption) (by exact strKind_is _ _ _ _) (by assumption) ?_) | ((with_reducible show wpAny _ _ (compareOp CmpOp.NotIn (Value.str _ _) (Value.ref _)) _ _ _); (refine' notin_base (knd := PySem.strKind _ _) (by k_asm) (by assumption) (by assumption) (by assumption) (by exact strKind_is _ _ _ _) (by assumption) ?_)) | ((with_reducible show wpAny _ _ (call (Value.builtin "len") _ _) _ _ _); (refine' len_dict_base (knd := PySem.strKind _ _) (by k_asm) (by assumption) (by assumption) (by assumption) (by assumption) ?_)) | ((with_reducible show wpAny _ _ (getAttr (Value.ref _) _ _) _ _ _); (refine' get_field (by k_asm) (by k_asm) (by assumption) (by first | assumption | simp) (by simp) (by first | assumption | k_mem) (by first | assumption | rfl) ?_)) | ((with_reducible show wpAny _ _ (call (Value.ref _) _ _) _ _ _); (refine' says_use (by assumption) (by k_asm) (by k_asm) (by k_asm) (by k_asm) (by k_asm) (by exact rfl) (by exact rfl) (by exact rfl) (by exact rfl) (by dsimp only [Around.deeper]; omega) (by dsimp only [Around.deeper]; omega) (by first | assumption | exact stays_self) ?_; intro _ _ _ _; (try k_sweep))) | walk1 | (dsimp only; walk1) | (leave1; try dsimp only))))
  · dsimp only
    refine fin _ _ _ _ _ (by assumption) ?_
    rw [eqAt_len (by simp only [List.length_nil] at *; omega)]
  have e0 : ku.length = 0 := by simp only [List.length_nil] at *; omega
  have e1 : ku = [] := List.length_eq_zero_iff.mp e0
  subst e1
  refine For_invV s.heap rfl rfl ?_
  (repeat' (first | (k_unfold; (try dsimp only)) | (k_end; wrow_close) | ((fail_if_success (with_reducible show wpAny _ _ (exec (Stmt.For _ _ _ _ _) _) _ _ _)); (fail_if_success (with_reducible show wpAny _ _ (pyIter _) _ _ _)); first | ((with_reducible show wpAny _ _ (subscriptTail _ _ (Value.ref _) (Value.str _ _)) _ _ _); refine' item_dict_base (knd := PySem.strKind _ _) (by k_asm) (by assumption) (by assumption) (by exact strKind_is _ _ _ _) (by assumption) ?_) | ((with_reducible show wpAny _ _ (compareOp CmpOp.NotIn (Value.str _ _) (Value.ref _)) _ _ _); (refine' notin_base (knd := PySem.strKind _ _) (by k_asm) (by assumption) (by assumption) (by assumption) (by exact strKind_is _ _ _ _) (by assumption) ?_)) | ((with_reducible show wpAny _ _ (call (Value.builtin "len") _ _) _ _ _); (refine' len_dict_base (knd := PySem.strKind _ _) (by k_asm) (by assumption) (by assumption) (by assumption) (by assumption) ?_)) | ((with_reducible show wpAny _ _ (getAttr (Value.ref _) _ _) _ _ _); (refine' get_field (by k_asm) (by k_asm) (by assumption) (by first | assumption | simp) (by simp) (by first | assumption | k_mem) (by first | assumption | rfl) ?_)) | ((with_reducible show wpAny _ _ (call (Value.ref _) _ _) _ _ _); (refine' says_use (by assumption) (by k_asm) (by k_asm) (by k_asm) (by k_asm) (by k_asm) (by exact rfl) (by exact rfl) (by exact rfl) (by exact rfl) (by dsimp only [Around.deeper]; omega) (by dsimp only [Around.deeper]; omega) (by first | assumption | exact stays_self) ?_; intro _ _ _ _; (try k_sweep))) | walk1 | (dsimp only; walk1) | (leave1; try dsimp only))))
  refine' dict_ro (knd := PySem.strKind PySem.Challenge.rw_pq1317_01.row.prog w) (kvs := []) (fun _ => True) rfl ?y1 ?y2 ?y3 lu Ku ?y6 trivial ?y4 ?y5
  case y1 => k_asm
  case y2 => k_asm
  case y3 => exact Fr.keep (by k_asm) _ _ Du
  case y6 => exact fun e => Nat.lt_irrefl _ (Nat.lt_of_lt_of_le (e ▸ Heap.lt_size Du) (Fr.above (by k_asm)))
  case y4 => exact fun i k kv val h tk own hx => nomatch hx
  intro u' h' tk' J F' N'
  (repeat' (first | (k_unfold; (try dsimp only)) | (k_end; wrow_close) | ((fail_if_success (with_reducible show wpAny _ _ (exec (Stmt.For _ _ _ _ _) _) _ _ _)); (fail_if_success (with_reducible show wpAny _ _ (pyIter _) _ _ _)); first | ((with_reducible show wpAny _ _ (subscriptTail _ _ (Value.ref _) (Value.str _ _)) _ _ _); refine' item_dict_base (knd := PySem.strKind _ _) (by k_asm) (by assumption) (by assumption) (by exact strKind_is _ _ _ _) (by assumption) ?_) | ((with_reducible show wpAny _ _ (compareOp CmpOp.NotIn (Value.str _ _) (Value.ref _)) _ _ _); (refine' notin_base (knd := PySem.strKind _ _) (by k_asm) (by assumption) (by assumption) (by assumption) (by exact strKind_is _ _ _ _) (by assumption) ?_)) | ((with_reducible show wpAny _ _ (call (Value.builtin "len") _ _) _ _ _); (refine' len_dict_base (knd := PySem.strKind _ _) (by k_asm) (by assumption) (by assumption) (by assumption) (by assumption) ?_)) | ((with_reducible show wpAny _ _ (getAttr (Value.ref _) _ _) _ _ _); (refine' get_field (by k_asm) (by k_asm) (by assumption) (by first | assumption | simp) (by simp) (by first | assumption | k_mem) (by first | assumption | rfl) ?_)) | ((with_reducible show wpAny _ _ (call (Value.ref _) _ _) _ _ _); (refine' says_use (by assumption) (by k_asm) (by k_asm) (by k_asm) (by k_asm) (by k_asm) (by exact rfl) (by exact rfl) (by exact rfl) (by exact rfl) (by dsimp only [Around.deeper]; omega) (by dsimp only [Around.deeper]; omega) (by first | assumption | exact stays_self) ?_; intro _ _ _ _; (try k_sweep))) | walk1 | (dsimp only; walk1) | (leave1; try dsimp only))))
  dsimp only
  refine fin _ _ _ _ _ (by assumption) ?_
  have : a = [] := List.length_eq_zero_iff.mp (by simp only [List.length_nil] at *; omega)
  subst this; rfl

theorem attrs_all {w : World} {k k1 n n' : Nat} {x y : Value} {U V : Tr} {h : Heap} (hk : k < 70) (hk1 : k1 < k) (hx : VIn w (Hp h) n x U) (hy : VIn w (Hp h) n' y V)
    (C : ∀ x y p q, VecIn (Hp h) "integer" [p] x .none → VecIn (Hp h) "integer" [q] y .none → Sy w k1 170 [x, y] h (decide (p = q))) : Sy w k 128 [x, y] h (eqAt (atsOf U) (atsOf V)) := by
  obtain ⟨u, Cu, au, fu, rfl, Iu, mu, cu, Au⟩ := hx.attrs
  obtain ⟨v, Cv, av, fv, rfl, Iv, mv, cv, Av⟩ := hy.attrs
  rcases Au with ⟨e, rfl⟩ | ⟨du, ou, ku, rfl, Du, lu, Ku, zu, Au⟩ <;> rcases Av with ⟨e', rfl⟩ | ⟨dv, ov, kv, rfl, Dv, lv, Kv, zv, Av⟩
  · rw [e, e']; exact attrs_nn hk Iu Iv mu mv cu cv
  · rw [e]; exact attrs_nd hk Iu Iv mu mv cu cv Dv lv Kv zv Av.length
  · rw [e']; exact attrs_dn hk Iu Iv mu mv cu cv Du lu Ku zu Au.length
  · exact attrs_dd hk hk1 Iu Iv mu mv cu cv Du Dv lu lv Ku Kv zu zv Au Av C
end Mine
end Attrs

section Same
open PySem PySem.Spec PySem.Calls PyProof.Rows PySem.W PyProof.V
namespace Mine
theorem int_chr : ("integer" : Str) ≠ ("character" : Str) := by decide +kernel
theorem ident_plain {w : World} {x y : Value} {p q : Int} {h : Heap} (hx : VecIn (Hp h) "integer" [p] x .none) (hy : VecIn (Hp h) "integer" [q] y .none) : Sy w 3 170 [x, y] h (decide (p = q)) := by
  have vx : VIn w (Hp h) 0 x (.vec "integer" [p] []) := ⟨.inl rfl, _, hx, .inl ⟨rfl, rfl⟩⟩
  have vy : VIn w (Hp h) 0 y (.vec "integer" [q] []) := ⟨.inl rfl, _, hy, .inl ⟨rfl, rfl⟩⟩
  have z := ident_step (k := 3) (k1 := 2) (k2 := 2) vx vy (by omega) (by omega) (by omega) (fun _ => kern_vec (by omega) (.inl rfl) hx hy) (fun _ => by
    obtain ⟨u, tu, ru, us, rfl, Iu, Lu, Cu⟩ := hx
    obtain ⟨v, tv, rv, vs, rfl, Iv, Lv, Cv⟩ := hy
    exact attrs_nn (by omega) Iu Iv (.tail _ (.tail _ (.head _))) (.tail _ (.tail _ (.head _))) (by simp) (by simp)) (by show ("integer" : Str) ≠ _; decide +kernel)
  have e : (decide (kindOf (.vec "integer" [p] []) = kindOf (.vec "integer" [q] [])) && (itemsEq "integer" [p] [q] && true)) = decide (p = q) := by
    unfold itemsEq kindOf
    rw [if_neg int_chr]
    simp
  rw [e] at z
  exact z

noncomputable def pairF (F : Tr → Tr → Bool) (us vs : List Tr) (i : Nat) : Bool := match us[i]?, vs[i]? with
  | some U, some V => F U V
  | _, _ => true
theorem pairF_succ (F : Tr → Tr → Bool) (u v : Tr) (us vs : List Tr) (i : Nat) : pairF F (u :: us) (v :: vs) (i + 1) = pairF F us vs i := by unfold pairF; simp
theorem all2_range (F : Tr → Tr → Bool) : ∀ us vs : List Tr, (decide (us.length = vs.length) && (List.range us.length).all (pairF F us vs)) = all2 F us vs
  | [], [] => rfl
  | [], _ :: _ => by simp [all2]
  | _ :: _, [] => by simp [all2]
  | u :: us, v :: vs => by
    have ih := all2_range F us vs
    simp only [all2, ← ih, List.length_cons]
    rw [List.range_succ_eq_map]
    simp only [List.all_cons, List.all_map]
    have e1 : pairF F (u :: us) (v :: vs) 0 = F u v := rfl
    have e2 : (pairF F (u :: us) (v :: vs) ∘ Nat.succ) = pairF F us vs := funext fun i => pairF_succ F u v us vs i
    rw [e1, e2]
    by_cases h : us.length = vs.length <;> simp [h]

theorem keeps_fn {w : World} {fn : Addr} (h : fn = 170 ∨ fn = 184) : keepIn (hd.heap_39 w.params) (.ref fn) = true := by
  have go : PySem.Challenge.rw_pq1317_01 = PySem.Challenge.rw_pq1317_01 → keepIn (hd.heap_39 w.params) (.ref fn) = true := by
    k_fill
    intro _
    rcases h with rfl | rfl <;> k_is
  exact go rfl
theorem keep170 {w : World} : keepIn (hd.heap_39 w.params) (.ref 170) = true := keeps_fn (.inl rfl)
theorem keep184 {w : World} : keepIn (hd.heap_39 w.params) (.ref 184) = true := keeps_fn (.inr rfl)
theorem vec_kind {k : Str} (ok : okKind k) : k ≠ ("NULL" : Str) ∧ k ≠ ("symbol" : Str) ∧ k ≠ ("list" : Str) ∧ k ≠ ("language" : Str) ∧ k ≠ ("environment" : Str) := by
  rcases ok with rfl | rfl | rfl <;> exact ⟨by decide +kernel, by decide +kernel, by decide +kernel, by decide +kernel, by decide +kernel⟩
theorem VIn.okv {w : World} {P : Addr → Obj → Prop} {n : Nat} {v : Value} {k : Str} {r : List Int} {a : List (Str × Int)} (h : VIn w P n v (.vec k r a)) : okKind k := by cases n <;> exact h.1
theorem VIn.noenv {w : World} {P : Addr → Obj → Prop} {n : Nat} {v : Value} {T : Tr} (h : VIn w P n v T) : kindOf T ≠ ("environment" : Str) := by
  cases T with
  | vec k r a => exact (vec_kind h.okv).2.2.2.2
  | _ => dsimp only [kindOf]; decide +kernel

theorem kinds_ne {w : World} {P : Addr → Obj → Prop} {n n' : Nat} {x y : Value} {U V : Tr} (hx : VIn w P n x U) (hy : VIn w P n' y V) (h : kindOf U = kindOf V) :
    (U = .null ∧ V = .null) ∨ (∃ p q, U = .name p ∧ V = .name q) ∨ (∃ k r a r' a', U = .vec k r a ∧ V = .vec k r' a') ∨ (∃ us a vs b, U = .list us a ∧ V = .list vs b) ∨ ∃ t us t' vs, U = .call t us ∧ V = .call t' vs := by
  cases U with
  | null => cases V with
    | null => exact .inl ⟨rfl, rfl⟩
    | vec k r a => exact absurd h.symm (vec_kind hy.okv).1
    | _ => exact absurd h (by dsimp only [kindOf]; decide +kernel)
  | name p => cases V with
    | name q => exact .inr (.inl ⟨p, q, rfl, rfl⟩)
    | vec k r a => exact absurd h.symm (vec_kind hy.okv).2.1
    | _ => exact absurd h (by dsimp only [kindOf]; decide +kernel)
  | vec k r a => cases V with
    | vec k' r' a' => cases h; exact .inr (.inr (.inl ⟨_, _, _, _, _, rfl, rfl⟩))
    | null => exact absurd h (vec_kind hx.okv).1
    | name => exact absurd h (vec_kind hx.okv).2.1
    | list => exact absurd h (vec_kind hx.okv).2.2.1
    | call => exact absurd h (vec_kind hx.okv).2.2.2.1
  | list us a => cases V with
    | list vs b => exact .inr (.inr (.inr (.inl ⟨_, _, _, _, rfl, rfl⟩)))
    | vec k r a => exact absurd h.symm (vec_kind hy.okv).2.2.1
    | _ => exact absurd h (by dsimp only [kindOf]; decide +kernel)
  | call t us => cases V with
    | call t' vs => exact .inr (.inr (.inr (.inr ⟨_, _, _, _, rfl, rfl⟩)))
    | vec k r a => exact absurd h.symm (vec_kind hy.okv).2.2.2.1
    | _ => exact absurd h (by dsimp only [kindOf]; decide +kernel)
theorem same_ne {n : Nat} {U V : Tr} (h : kindOf U ≠ kindOf V) : same n U V = false := by
  cases U <;> cases V <;> unfold same <;> first | exact absurd rfl h | rfl | (cases n <;> rfl) | skip
  rename_i k r a k' r' a'
  have : k ≠ k' := h
  simp [this]
theorem code_ne {n : Nat} {U V : Tr} (h : kindOf U ≠ kindOf V) : code n U V = false := by
  cases U <;> cases V <;> unfold code <;> first | exact absurd rfl h | rfl | (cases n <;> rfl) | skip
  rename_i k r a k' r' a'
  have : k ≠ k' := h
  simp [this]

/-- identical, whatever the depth -/
theorem ident_all {w : World} : ∀ (n : Nat) (x y : Value) (U V : Tr) (h : Heap), n ≤ 5 → VIn w (Hp h) n x U → VIn w (Hp h) n y V → Sy w (10 + 5 * n) 170 [x, y] h (same n U V) := by
  intro n
  induction n with
  | zero =>
    intro x y U V h _ hx hy
    by_cases hk : kindOf U = kindOf V
    · rcases kinds_ne hx hy hk with ⟨rfl, rfl⟩ | ⟨p, q, rfl, rfl⟩ | ⟨k, r, a, r', a', rfl, rfl⟩ | ⟨us, a, vs, b, rfl, rfl⟩ | ⟨t, us, t', vs, rfl, rfl⟩
      · have z := ident_step (k := 10) (k1 := 9) (k2 := 9) hx hy (by omega) (by omega) (by omega) (fun _ => kern_null hx hy) (fun _ => attrs_all (k1 := 3) (by omega) (by omega) hx hy fun x y p q => ident_plain) hx.noenv
        simpa [same, atsOf, kindOf, eqAt] using z
      · have z := ident_step (k := 10) (k1 := 9) (k2 := 9) hx hy (by omega) (by omega) (by omega) (fun _ => kern_name hx hy) (fun _ => attrs_all (k1 := 3) (by omega) (by omega) hx hy fun x y p q => ident_plain) hx.noenv
        simpa [same, atsOf, kindOf, eqAt] using z
      · have z := ident_step (k := 10) (k1 := 9) (k2 := 9) hx hy (by omega) (by omega) (by omega) (fun _ => kern_vec (by omega) hx.okv hx.2.choose_spec.1 hy.2.choose_spec.1) (fun _ => attrs_all (k1 := 3) (by omega) (by omega) hx hy fun x y p q => ident_plain) hx.noenv
        simpa [same, atsOf, kindOf] using z
      · exact hx.elim
      · exact hx.elim
    · have z := ident_step (k := 10) (k1 := 9) (k2 := 9) (b1 := true) (b2 := true) hx hy (by omega) (by omega) (by omega) (fun e => absurd e hk) (fun e => absurd e hk) hx.noenv
      rw [same_ne hk]
      simpa [hk] using z
  | succ n ih =>
    intro x y U V h hn hx hy
    have items : ∀ (us vs : List Tr) lu lv xs ys, h.IsList lu xs.toArray → h.IsList lv ys.toArray → xs.length ≤ 1000 → ys.length ≤ 1000 → All2 (VIn w (Hp h) n) xs us → All2 (VIn w (Hp h) n) ys vs →
        Sy w (13 + 5 * n) 135 [.ref lu, .ref lv, .ref 170] h (all2 (same n) us vs) := by
      intro us vs lu lv xs ys Lu Lv zu zv Au Av
      have z := items_step (k := 13 + 5 * n) (k1 := 10 + 5 * n) (f := pairF (same n) us vs) (fn := 170) (by omega) (by omega) Lu Lv zu zv keep170 fun i a b ha hb => by
        obtain ⟨A', ea, va⟩ := Au.get ha
        obtain ⟨B', eb, vb⟩ := Av.get hb
        have : pairF (same n) us vs i = same n A' B' := by unfold pairF; rw [ea, eb]
        rw [this]
        exact ih a b A' B' h (by omega) va vb
      rw [Au.length, Av.length, all2_range] at z
      exact z
    by_cases hk : kindOf U = kindOf V
    · rcases kinds_ne hx hy hk with ⟨rfl, rfl⟩ | ⟨p, q, rfl, rfl⟩ | ⟨k, r, a, r', a', rfl, rfl⟩ | ⟨us, a, vs, b, rfl, rfl⟩ | ⟨t, us, t', vs, rfl, rfl⟩
      · have z := ident_step (k := 10 + 5 * (n + 1)) (k1 := 9) (k2 := 9) hx hy (by omega) (by omega) (by omega) (fun _ => kern_null hx hy) (fun _ => attrs_all (k1 := 3) (by omega) (by omega) hx hy fun x y p q => ident_plain) hx.noenv
        simpa [same, atsOf, kindOf, eqAt] using z
      · have z := ident_step (k := 10 + 5 * (n + 1)) (k1 := 9) (k2 := 9) hx hy (by omega) (by omega) (by omega) (fun _ => kern_name hx hy) (fun _ => attrs_all (k1 := 3) (by omega) (by omega) hx hy fun x y p q => ident_plain) hx.noenv
        simpa [same, atsOf, kindOf, eqAt] using z
      · have z := ident_step (k := 10 + 5 * (n + 1)) (k1 := 9) (k2 := 9) hx hy (by omega) (by omega) (by omega) (fun _ => kern_vec (by omega) hx.okv hx.2.choose_spec.1 hy.2.choose_spec.1) (fun _ => attrs_all (k1 := 3) (by omega) (by omega) hx hy fun x y p q => ident_plain) hx.noenv
        simpa [same, atsOf, kindOf] using z
      · have z := ident_step (k := 10 + 5 * (n + 1)) (k1 := 14 + 5 * n) (k2 := 9) hx hy (by omega) (by omega) (by omega) (fun _ => kern_list (by omega) (by omega) hx hy (items us vs)) (fun _ => attrs_all (k1 := 3) (by omega) (by omega) hx hy fun x y p q => ident_plain) hx.noenv
        simpa [same, atsOf, kindOf] using z
      · have z := ident_step (k := 10 + 5 * (n + 1)) (k1 := 14 + 5 * n) (k2 := 9) hx hy (by omega) (by omega) (by omega) (fun _ => kern_call (by omega) (by omega) hx hy (items us vs)) (fun _ => attrs_all (k1 := 3) (by omega) (by omega) hx hy fun x y p q => ident_plain) hx.noenv
        simpa [same, atsOf, kindOf, eqAt] using z
    · have z := ident_step (k := 10 + 5 * (n + 1)) (k1 := 9) (k2 := 9) (b1 := true) (b2 := true) hx hy (by omega) (by omega) (by omega) (fun e => absurd e hk) (fun e => absurd e hk) hx.noenv
      rw [same_ne hk]
      simpa [hk] using z
end Mine
end Same

section Code
open PySem PySem.Spec PySem.Calls PyProof.Rows PySem.W PyProof.V
namespace Mine
/-- a call that turns nothing and answers by this value -/
structure Gives (w : World) (D U : Nat) (f : Addr) (args : List Value) (h : Heap) (r : Value) : Prop where
  run : ∀ {mean : ExcName → Option Value} {mg mb : Str → Option Value} {A A₁ : Around} {base : Heap} {outs : List Env} {s : Shared} {RR : Result → Shared → Prop},
    A.handled = none → A.depth ≤ D → A.units ≤ U → A.frames = some outs → (∀ b o, h.get? b = some o → s.heap.get? b = some o) → Amb w mean mg mb A₁ base outs s.heap →
    (∀ h' tk', Kept [] s.heap h' → RR (.ok (.ret r)) { s with heap := h', toks := tk' }) → codeAny (model PySem.Challenge.rw_pq1317_01.row.prog w) A (.call (.ref f) ⟨args, []⟩) RR s
abbrev Gy (w : World) (k : Nat) (f : Addr) (args : List Value) (h : Heap) (r : Value) : Prop := Gives w (800 - 10 * k) (8000 - 100 * k) f args h r
theorem gives_use {w : World} {D U : Nat} {f : Addr} {args : List Value} {h : Heap} {r : Value} (C : Gives w D U f args h r)
    {mean : ExcName → Option Value} {mg mb : Str → Option Value} {A₀ A : Around} {base h₀ : Heap} {outer : List Env} {L : Addr} {m : Str → Option Value} {env : Env} {news : List (Addr × Obj)} {s : Shared} {Q E : _}
    (B : Below A₀ base outer h₀) (F : Fr h₀ L s.heap m) (N : News h₀ L s.heap news) (X : (hd.heap_39 w.params).In h₀) (T : Tp mean mg mb h₀) (hA : A.frames = some (env :: outer)) (hf : env.frame = some L) (hke : env.scope.kind = .function)
    (hh : A.handled = none) (hd : A.depth ≤ D) (hu : A.units ≤ U) (hs : ∀ b o, h.get? b = some o → h₀.get? b = some o)
    (ret : ∀ h' tk', Fr h₀ L h' m → News h₀ L h' news → Q r { s with heap := h', toks := tk' }) : wpAny (model PySem.Challenge.rw_pq1317_01.row.prog w) A (call (.ref f) args) Q E s :=
  wpAny_call (C.run hh hd hu hA (fun b o e => F.keep b o (hs b o e)) (amb_of (mu := []) B F News.nil X T hA hf hke) fun h' tk' k =>
    ret h' tk' (k.fr F (fun x => nomatch x) fun _ x => nomatch x) (k.news N fun _ _ x => nomatch x))
theorem gives_mk {w : World} {k : Nat} {f : Addr} {args : List Value} {h : Heap} {r : Value}
    (H : ∀ (mean : ExcName → Option Value) (mg mb : Str → Option Value) (base : Heap) (outs : List Env) (s : Shared) (RR : Result → Shared → Prop), (∀ b o, h.get? b = some o → s.heap.get? b = some o) →
      Amb w mean mg mb (AA (800 - 10 * k) (8000 - 100 * k) outs) base outs (hid s.heap []) →
      (∀ L' h' m' tk', Fr s.heap L' h' m' → RR (.ok (.ret r)) { s with heap := h', toks := tk' }) →
      codeAny (model PySem.Challenge.rw_pq1317_01.row.prog w) (AA (800 - 10 * k) (8000 - 100 * k) outs) (.call (.ref f) ⟨args, []⟩) RR s) : Gy w k f args h r := by
  constructor
  intro mean mg mb A A₁ base outs s RR hh hd hu hA hs Y ret
  exact up hh hd hu hA (H mean mg mb base outs s RR hs ⟨⟨rfl, Y.B.stays, Y.B.frames⟩, Y.X, Y.T⟩ fun L' h' m' tk' F => ret h' tk' fun b o _ e => F.keep b o e)



local macro_rules | `(tactic| k_types) => `(tactic| (intro M; exact inst_type (by k_asm) (by assumption)))
local macro_rules | `(tactic| k_inst) => `(tactic| exact instKeep (by k_asm) (by assumption))






def NamesR (h : Heap) (r : Value) (o : Option Int) : Prop := (o = none ∧ r = .none) ∨ ∃ v l xs, o = some v ∧ r = .ref l ∧ h.IsList l (List.toArray xs) ∧ CarriedAll xs ([v].map (itm "integer"))

set_option maxHeartbeats 8000000 in
theorem names_n {w : World} {k : Nat} {u Cu : Addr} {fu : List (Str × Value)} {h : Heap} (hk : k < 70) (Iu : Inst (Hp h) Cu u fu) (mu : (("attrs" : Str), Value.none) ∈ fu) (cu : Cu = 38 ∨ Cu = 88 ∨ Cu = 67 ∨ Cu = 110) : Gy w k 177 [.ref u] h .none := by
  refine gives_mk fun mean mg mb base outs s RR hs key fin => ?_
  replace Iu := Iu.mono (P' := Hp s.heap) hs
  (((have KX := Amb.X key); revert KX; k_fill; intro KX; clear KX; (refine' enter (mu := []) (binds := [("v", .ref u)]) key (fun p hp => nomatch hp) ?k6 ?k7 ?k8 ?k9 ?kB ?_ ?c2 ?c3 ?c4 ?c5); (case k6 => k_is); (case k7 => k_is); (case k8 => exact Nat.lt_of_le_of_lt (Nat.sub_le _ _) (Nat.le_of_ble_eq_true rfl)); (case k9 => exact BindsTo.of_eq rfl); (case kB => exact locs rfl); (case c2 => decide); (case c3 => exact rfl); (case c4 => exact rfl); (case c5 => exact rfl)))
  intro g' L' h' hg F' N' B' X' T'
  replace hg : g' = s.heap := hg
  subst hg
  (try dsimp only)
  (try k_fold)
  (repeat' (first | (k_unfold; (try dsimp only)) | (k_end; wrow_close) | ((fail_if_success (with_reducible show wpAny _ _ (exec (Stmt.For _ _ _ _ _) _) _ _ _)); (fail_if_success (with_reducible show wpAny _ _ (pyIter _) _ _ _)); first | ((with_reducible show wpAny _ _ (subscriptTail _ _ (Value.ref _) (Value.str _ _)) _ _ _); refine' item_dict_base (knd := PySem.strKind _ _) (by k_asm) (by assumption) (by assumption) (by exact strKind_is _ _ _ _) (by assumption) ?_) | ((with_reducible show wpAny _ _ (compareOp CmpOp.NotIn (Value.str _ _) (Value.ref _)) _ _ _); (refine' notin_base (knd := PySem.strKind _ _) (by k_asm) (by assumption) (by assumption) (by assumption) (by exact strKind_is _ _ _ _) (by assumption) ?_)) | ((with_reducible show wpAny _ _ (getAttr (Value.ref _) _ _) _ _ _); (refine' get_field (by k_asm) (by k_asm) (by assumption) (by first | assumption | simp) (by simp) (by first | assumption | k_mem) (by first | assumption | rfl) ?_)) | ((with_reducible show wpAny _ _ (call (Value.ref _) _ _) _ _ _); (refine' gives_use (by assumption) (by k_asm) (by k_asm) (by k_asm) (by k_asm) (by k_asm) (by exact rfl) (by exact rfl) (by exact rfl) (by exact rfl) (by dsimp only [Around.deeper]; omega) (by dsimp only [Around.deeper]; omega) (by first | assumption | exact stays_self) ?_; intro _ _ _ _; (try k_sweep))) | ((with_reducible show wpAny _ _ (call (Value.ref _) _ _) _ _ _); (refine' says_use (by assumption) (by k_asm) (by k_asm) (by k_asm) (by k_asm) (by k_asm) (by exact rfl) (by exact rfl) (by exact rfl) (by exact rfl) (by dsimp only [Around.deeper]; omega) (by dsimp only [Around.deeper]; omega) (by first | assumption | exact stays_self) ?_; intro _ _ _ _; (try k_sweep))) | walk1 | (dsimp only; walk1) | (leave1; try dsimp only))))
  dsimp only
  exact fin _ _ _ _ (by assumption)

set_option maxHeartbeats 8000000 in
theorem names_d {w : World} {k : Nat} {u Cu du : Addr} {fu : List (Str × Value)} {h : Heap} {ou : Obj} {ku : List (Str × Value)} {a : List (Str × Int)} (hk : k < 70) (Iu : Inst (Hp h) Cu u fu) (mu : (("attrs" : Str), .ref du) ∈ fu) (cu : Cu = 38 ∨ Cu = 88 ∨ Cu = 67 ∨ Cu = 110)
    (Du : h.get? du = some ou) (lu : (du == sysModules) = false) (Ku : ou.IsDictOf (PySem.strKind PySem.Challenge.rw_pq1317_01.row.prog w) ku) (Au : All2 (AtP (Hp h)) ku a) : ∃ r, NamesR h r (nm a) ∧ Gy w k 177 [.ref u] h r := by
  rcases atP_value (k := ("names" : Str)) Au with ⟨hr, hb⟩ | ⟨x2, v2, hr, hb, vv⟩
  · refine ⟨.none, .inl ⟨hb, rfl⟩, gives_mk fun mean mg mb base outs s RR hs key fin => ?_⟩
    have hb1 : (valueAt ku ("names" : Str)).isSome = false := by rw [hr]; rfl
    replace Iu := Iu.mono (P' := Hp s.heap) hs
    replace Du := hs _ _ Du
    (((have KX := Amb.X key); revert KX; k_fill; intro KX; clear KX; (refine' enter (mu := []) (binds := [("v", .ref u)]) key (fun p hp => nomatch hp) ?k6 ?k7 ?k8 ?k9 ?kB ?_ ?c2 ?c3 ?c4 ?c5); (case k6 => k_is); (case k7 => k_is); (case k8 => exact Nat.lt_of_le_of_lt (Nat.sub_le _ _) (Nat.le_of_ble_eq_true rfl)); (case k9 => exact BindsTo.of_eq rfl); (case kB => exact locs rfl); (case c2 => decide); (case c3 => exact rfl); (case c4 => exact rfl); (case c5 => exact rfl)))
    intro g' L' h' hg F' N' B' X' T'
    replace hg : g' = s.heap := hg
    subst hg
    (try dsimp only)
    (try k_fold)
    (repeat' (first | (k_unfold; (try dsimp only)) | (k_end; wrow_close) | ((fail_if_success (with_reducible show wpAny _ _ (exec (Stmt.For _ _ _ _ _) _) _ _ _)); (fail_if_success (with_reducible show wpAny _ _ (pyIter _) _ _ _)); first | ((with_reducible show wpAny _ _ (subscriptTail _ _ (Value.ref _) (Value.str _ _)) _ _ _); refine' item_dict_base (knd := PySem.strKind _ _) (by k_asm) (by assumption) (by assumption) (by exact strKind_is _ _ _ _) (by assumption) ?_) | ((with_reducible show wpAny _ _ (compareOp CmpOp.NotIn (Value.str _ _) (Value.ref _)) _ _ _); (refine' notin_base (knd := PySem.strKind _ _) (by k_asm) (by assumption) (by assumption) (by assumption) (by exact strKind_is _ _ _ _) (by assumption) ?_)) | ((with_reducible show wpAny _ _ (getAttr (Value.ref _) _ _) _ _ _); (refine' get_field (by k_asm) (by k_asm) (by assumption) (by first | assumption | simp) (by simp) (by first | assumption | k_mem) (by first | assumption | rfl) ?_)) | ((with_reducible show wpAny _ _ (call (Value.ref _) _ _) _ _ _); (refine' gives_use (by assumption) (by k_asm) (by k_asm) (by k_asm) (by k_asm) (by k_asm) (by exact rfl) (by exact rfl) (by exact rfl) (by exact rfl) (by dsimp only [Around.deeper]; omega) (by dsimp only [Around.deeper]; omega) (by first | assumption | exact stays_self) ?_; intro _ _ _ _; (try k_sweep))) | ((with_reducible show wpAny _ _ (call (Value.ref _) _ _) _ _ _); (refine' says_use (by assumption) (by k_asm) (by k_asm) (by k_asm) (by k_asm) (by k_asm) (by exact rfl) (by exact rfl) (by exact rfl) (by exact rfl) (by dsimp only [Around.deeper]; omega) (by dsimp only [Around.deeper]; omega) (by first | assumption | exact stays_self) ?_; intro _ _ _ _; (try k_sweep))) | walk1 | (dsimp only; walk1) | (leave1; try dsimp only))))
    dsimp only
    exact fin _ _ _ _ (by assumption)
  · obtain ⟨y, ty, ry, xs, rfl, Iy, Ly, Cy⟩ := vv
    obtain ⟨ly, rfl, Ly, zy⟩ := Ly.isList
    refine ⟨.ref ly, .inr ⟨v2, ly, xs, hb, rfl, Ly, Cy⟩, gives_mk fun mean mg mb base outs s RR hs key fin => ?_⟩
    have hb1 : (valueAt ku ("names" : Str)).isSome = true := by rw [hr]; rfl
    replace Iu := Iu.mono (P' := Hp s.heap) hs
    replace Iy := Iy.mono (P' := Hp s.heap) hs
    replace Du := hs _ _ Du
    (((have KX := Amb.X key); revert KX; k_fill; intro KX; clear KX; (refine' enter (mu := []) (binds := [("v", .ref u)]) key (fun p hp => nomatch hp) ?k6 ?k7 ?k8 ?k9 ?kB ?_ ?c2 ?c3 ?c4 ?c5); (case k6 => k_is); (case k7 => k_is); (case k8 => exact Nat.lt_of_le_of_lt (Nat.sub_le _ _) (Nat.le_of_ble_eq_true rfl)); (case k9 => exact BindsTo.of_eq rfl); (case kB => exact locs rfl); (case c2 => decide); (case c3 => exact rfl); (case c4 => exact rfl); (case c5 => exact rfl)))
    intro g' L' h' hg F' N' B' X' T'
    replace hg : g' = s.heap := hg
    subst hg
    (try dsimp only)
    (try k_fold)
    (repeat' (first | (k_unfold; (try dsimp only)) | (k_end; wrow_close) | ((fail_if_success (with_reducible show wpAny _ _ (exec (Stmt.For _ _ _ _ _) _) _ _ _)); (fail_if_success (with_reducible show wpAny _ _ (pyIter _) _ _ _)); first | ((with_reducible show wpAny _ _ (subscriptTail _ _ (Value.ref _) (Value.str _ _)) _ _ _); refine' item_dict_base (knd := PySem.strKind _ _) (by k_asm) (by assumption) (by assumption) (by exact strKind_is _ _ _ _) (by assumption) ?_) | ((with_reducible show wpAny _ _ (compareOp CmpOp.NotIn (Value.str _ _) (Value.ref _)) _ _ _); (refine' notin_base (knd := PySem.strKind _ _) (by k_asm) (by assumption) (by assumption) (by assumption) (by exact strKind_is _ _ _ _) (by assumption) ?_)) | ((with_reducible show wpAny _ _ (getAttr (Value.ref _) _ _) _ _ _); (refine' get_field (by k_asm) (by k_asm) (by assumption) (by first | assumption | simp) (by simp) (by first | assumption | k_mem) (by first | assumption | rfl) ?_)) | ((with_reducible show wpAny _ _ (call (Value.ref _) _ _) _ _ _); (refine' gives_use (by assumption) (by k_asm) (by k_asm) (by k_asm) (by k_asm) (by k_asm) (by exact rfl) (by exact rfl) (by exact rfl) (by exact rfl) (by dsimp only [Around.deeper]; omega) (by dsimp only [Around.deeper]; omega) (by first | assumption | exact stays_self) ?_; intro _ _ _ _; (try k_sweep))) | ((with_reducible show wpAny _ _ (call (Value.ref _) _ _) _ _ _); (refine' says_use (by assumption) (by k_asm) (by k_asm) (by k_asm) (by k_asm) (by k_asm) (by exact rfl) (by exact rfl) (by exact rfl) (by exact rfl) (by dsimp only [Around.deeper]; omega) (by dsimp only [Around.deeper]; omega) (by first | assumption | exact stays_self) ?_; intro _ _ _ _; (try k_sweep))) | walk1 | (dsimp only; walk1) | (leave1; try dsimp only))))
    dsimp only
    exact fin _ _ _ _ (by assumption)

theorem names_all {w : World} {k n : Nat} {x : Value} {U : Tr} {h : Heap} (hk : k < 70) (hx : VIn w (Hp h) n x U) : ∃ r, NamesR h r (nm (atsOf U)) ∧ Gy w k 177 [x] h r := by
  obtain ⟨u, Cu, au, fu, rfl, Iu, mu, cu, Au⟩ := hx.attrs
  rcases Au with ⟨e, rfl⟩ | ⟨du, ou, ku, rfl, Du, lu, Ku, zu, Au⟩
  · exact ⟨_, .inl ⟨by rw [e]; rfl, rfl⟩, names_n hk Iu mu cu⟩
  · exact names_d hk Iu mu cu Du lu Ku Au




set_option maxHeartbeats 8000000 in
theorem code_null {w : World} {n n' k k1 : Nat} {x y : Value} {h : Heap} (hk : k < 70) (hk1 : k1 < k) (hx : VIn w (Hp h) n x .null) (hy : VIn w (Hp h) n' y .null) (D : Sy w k1 163 [x, y] h true) : Sy w k 184 [x, y] h true := by
  refine says_mk fun mean mg mb base outs s RR hs key fin => ?_
  unfold VIn at hx hy
  obtain ⟨u, tu, rfl, Iu⟩ := hx
  obtain ⟨v, tv, rfl, Iv⟩ := hy
  replace Iu := Iu.mono (P' := Hp s.heap) hs
  replace Iv := Iv.mono (P' := Hp s.heap) hs
  obtain ⟨_, _, IAu⟩ := Iu.at
  (((have KX := Amb.X key); revert KX; k_fill; intro KX; clear KX; (refine' enter (mu := []) (binds := [("u", .ref u), ("v", .ref v)]) key (fun p hp => nomatch hp) ?k6 ?k7 ?k8 ?k9 ?kB ?_ ?c2 ?c3 ?c4 ?c5); (case k6 => k_is); (case k7 => k_is); (case k8 => exact Nat.lt_of_le_of_lt (Nat.sub_le _ _) (Nat.le_of_ble_eq_true rfl)); (case k9 => exact BindsTo.of_eq rfl); (case kB => exact locs rfl); (case c2 => decide); (case c3 => exact rfl); (case c4 => exact rfl); (case c5 => exact rfl)))
  intro g' L' h' hg F' N' B' X' T'
  replace hg : g' = s.heap := hg
  subst hg
  (try dsimp only)
  (try k_fold)
  (repeat' (first | (k_unfold; (try dsimp only)) | (k_end; wrow_close) | ((fail_if_success (with_reducible show wpAny _ _ (exec (Stmt.For _ _ _ _ _) _) _ _ _)); (fail_if_success (with_reducible show wpAny _ _ (pyIter _) _ _ _)); first | ((with_reducible show wpAny _ _ (compareOp CmpOp.NotEq (Value.ref _) (Value.ref _)) _ _ _); (refine' ne_items (by k_asm) (by assumption) (by assumption) (by assumption) (by assumption) (by have hc := cLine_is; dsimp only [Around.deeper, Around.in1]; omega) ?_)) | ((with_reducible show wpAny _ _ (compareOp CmpOp.Eq (Value.ref _) (Value.ref _)) _ _ _); (refine' eq_tags ?_ ?_ (by k_asm) (by assumption) (by assumption) (by assumption) (by assumption) (by have hc := cLine_is; dsimp only [Around.deeper, Around.in1]; omega) ?_; assumption; assumption)) | ((with_reducible show wpAny _ _ (subscriptTail _ _ (Value.ref _) (Value.str _ _)) _ _ _); refine' item_dict_base (knd := PySem.strKind _ _) (by k_asm) (by assumption) (by assumption) (by exact strKind_is _ _ _ _) (by assumption) ?_) | ((with_reducible show wpAny _ _ (compareOp CmpOp.NotIn (Value.str _ _) (Value.ref _)) _ _ _); (refine' notin_base (knd := PySem.strKind _ _) (by k_asm) (by assumption) (by assumption) (by assumption) (by exact strKind_is _ _ _ _) (by assumption) ?_)) | ((with_reducible show wpAny _ _ (getAttr (Value.ref _) _ _) _ _ _); (refine' get_field (by k_asm) (by k_asm) (by assumption) (by first | assumption | simp) (by simp) (by first | assumption | k_mem) (by first | assumption | rfl) ?_)) | ((with_reducible show wpAny _ _ (call (Value.ref _) _ _) _ _ _); (refine' gives_use (by assumption) (by k_asm) (by k_asm) (by k_asm) (by k_asm) (by k_asm) (by exact rfl) (by exact rfl) (by exact rfl) (by exact rfl) (by dsimp only [Around.deeper]; omega) (by dsimp only [Around.deeper]; omega) (by first | assumption | exact stays_self) ?_; intro _ _ _ _; (try k_sweep))) | ((with_reducible show wpAny _ _ (call (Value.ref _) _ _) _ _ _); (refine' says_use (by assumption) (by k_asm) (by k_asm) (by k_asm) (by k_asm) (by k_asm) (by exact rfl) (by exact rfl) (by exact rfl) (by exact rfl) (by dsimp only [Around.deeper]; omega) (by dsimp only [Around.deeper]; omega) (by first | assumption | exact stays_self) ?_; intro _ _ _ _; (try k_sweep))) | walk1 | (dsimp only; walk1) | (leave1; try dsimp only))))
  all_goals exact fin _ _ _ _ _ (by assumption) rfl

set_option maxHeartbeats 8000000 in
theorem code_name {w : World} {n n' k k1 : Nat} {x y : Value} {p q : Str} {h : Heap} (hk : k < 70) (hk1 : k1 < k) (hx : VIn w (Hp h) n x (.name p)) (hy : VIn w (Hp h) n' y (.name q)) (D : Sy w k1 163 [x, y] h true) : Sy w k 184 [x, y] h true := by
  refine says_mk fun mean mg mb base outs s RR hs key fin => ?_
  unfold VIn at hx hy
  obtain ⟨u, tu, tu', rfl, Iu⟩ := hx
  obtain ⟨v, tv, tv', rfl, Iv⟩ := hy
  replace Iu := Iu.mono (P' := Hp s.heap) hs
  replace Iv := Iv.mono (P' := Hp s.heap) hs
  obtain ⟨_, _, IAu⟩ := Iu.at
  (((have KX := Amb.X key); revert KX; k_fill; intro KX; clear KX; (refine' enter (mu := []) (binds := [("u", .ref u), ("v", .ref v)]) key (fun p hp => nomatch hp) ?k6 ?k7 ?k8 ?k9 ?kB ?_ ?c2 ?c3 ?c4 ?c5); (case k6 => k_is); (case k7 => k_is); (case k8 => exact Nat.lt_of_le_of_lt (Nat.sub_le _ _) (Nat.le_of_ble_eq_true rfl)); (case k9 => exact BindsTo.of_eq rfl); (case kB => exact locs rfl); (case c2 => decide); (case c3 => exact rfl); (case c4 => exact rfl); (case c5 => exact rfl)))
  intro g' L' h' hg F' N' B' X' T'
  replace hg : g' = s.heap := hg
  subst hg
  (try dsimp only)
  (try k_fold)
  (repeat' (first | (k_unfold; (try dsimp only)) | (k_end; wrow_close) | ((fail_if_success (with_reducible show wpAny _ _ (exec (Stmt.For _ _ _ _ _) _) _ _ _)); (fail_if_success (with_reducible show wpAny _ _ (pyIter _) _ _ _)); first | ((with_reducible show wpAny _ _ (compareOp CmpOp.NotEq (Value.ref _) (Value.ref _)) _ _ _); (refine' ne_items (by k_asm) (by assumption) (by assumption) (by assumption) (by assumption) (by have hc := cLine_is; dsimp only [Around.deeper, Around.in1]; omega) ?_)) | ((with_reducible show wpAny _ _ (compareOp CmpOp.Eq (Value.ref _) (Value.ref _)) _ _ _); (refine' eq_tags ?_ ?_ (by k_asm) (by assumption) (by assumption) (by assumption) (by assumption) (by have hc := cLine_is; dsimp only [Around.deeper, Around.in1]; omega) ?_; assumption; assumption)) | ((with_reducible show wpAny _ _ (subscriptTail _ _ (Value.ref _) (Value.str _ _)) _ _ _); refine' item_dict_base (knd := PySem.strKind _ _) (by k_asm) (by assumption) (by assumption) (by exact strKind_is _ _ _ _) (by assumption) ?_) | ((with_reducible show wpAny _ _ (compareOp CmpOp.NotIn (Value.str _ _) (Value.ref _)) _ _ _); (refine' notin_base (knd := PySem.strKind _ _) (by k_asm) (by assumption) (by assumption) (by assumption) (by exact strKind_is _ _ _ _) (by assumption) ?_)) | ((with_reducible show wpAny _ _ (getAttr (Value.ref _) _ _) _ _ _); (refine' get_field (by k_asm) (by k_asm) (by assumption) (by first | assumption | simp) (by simp) (by first | assumption | k_mem) (by first | assumption | rfl) ?_)) | ((with_reducible show wpAny _ _ (call (Value.ref _) _ _) _ _ _); (refine' gives_use (by assumption) (by k_asm) (by k_asm) (by k_asm) (by k_asm) (by k_asm) (by exact rfl) (by exact rfl) (by exact rfl) (by exact rfl) (by dsimp only [Around.deeper]; omega) (by dsimp only [Around.deeper]; omega) (by first | assumption | exact stays_self) ?_; intro _ _ _ _; (try k_sweep))) | ((with_reducible show wpAny _ _ (call (Value.ref _) _ _) _ _ _); (refine' says_use (by assumption) (by k_asm) (by k_asm) (by k_asm) (by k_asm) (by k_asm) (by exact rfl) (by exact rfl) (by exact rfl) (by exact rfl) (by dsimp only [Around.deeper]; omega) (by dsimp only [Around.deeper]; omega) (by first | assumption | exact stays_self) ?_; intro _ _ _ _; (try k_sweep))) | walk1 | (dsimp only; walk1) | (leave1; try dsimp only))))
  all_goals exact fin _ _ _ _ _ (by assumption) rfl

set_option maxHeartbeats 8000000 in
theorem code_vec_n {w : World} {k k1 : Nat} {x y ax ay : Value} {kd : Str} {r r' : List Int} {h : Heap} (hk : k < 70) (hk1 : k1 < k) (ok : okKind kd) (hx : VecIn (Hp h) kd r x ax) (hy : VecIn (Hp h) kd r' y ay)
    (D : Sy w k1 163 [x, y] h true) (G1 : Gy w k1 177 [x] h .none) (G2 : Gy w k1 177 [y] h .none) : Sy w k 184 [x, y] h true := by
  refine says_mk fun mean mg mb base outs s RR hs key fin => ?_
  obtain ⟨u, tu, ru, us, rfl, Iu, Lu, Cu⟩ := hx
  obtain ⟨v, tv, rv, vs, rfl, Iv, Lv, Cv⟩ := hy
  replace Iu := Iu.mono (P' := Hp s.heap) hs
  replace Iv := Iv.mono (P' := Hp s.heap) hs
  have ne0 : kd ≠ ("language" : Str) := by rcases ok with rfl | rfl | rfl <;> decide +kernel
  have ne1 : kd ≠ ("list" : Str) := by rcases ok with rfl | rfl | rfl <;> decide +kernel
  have ne2 : kd ≠ ("expression" : Str) := by rcases ok with rfl | rfl | rfl <;> decide +kernel
  have ne3 : kd ≠ ("pairlist" : Str) := by rcases ok with rfl | rfl | rfl <;> decide +kernel
  have neA : (kd == ("language" : Str)) = false := by simpa using ne0
  have neB : (([("list" : Str), ("expression" : Str), ("pairlist" : Str)] : List Str).any fun x => x == kd) = false := by simp [Ne.symm ne1, Ne.symm ne2, Ne.symm ne3]
  obtain ⟨_, _, IAu⟩ := Iu.at
  (((have KX := Amb.X key); revert KX; k_fill; intro KX; clear KX; (refine' enter (mu := []) (binds := [("u", .ref u), ("v", .ref v)]) key (fun p hp => nomatch hp) ?k6 ?k7 ?k8 ?k9 ?kB ?_ ?c2 ?c3 ?c4 ?c5); (case k6 => k_is); (case k7 => k_is); (case k8 => exact Nat.lt_of_le_of_lt (Nat.sub_le _ _) (Nat.le_of_ble_eq_true rfl)); (case k9 => exact BindsTo.of_eq rfl); (case kB => exact locs rfl); (case c2 => decide); (case c3 => exact rfl); (case c4 => exact rfl); (case c5 => exact rfl)))
  intro g' L' h' hg F' N' B' X' T'
  replace hg : g' = s.heap := hg
  subst hg
  (try dsimp only)
  (try k_fold)
  (repeat' (first | (k_unfold; (try dsimp only)) | (k_end; wrow_close) | ((fail_if_success (with_reducible show wpAny _ _ (exec (Stmt.For _ _ _ _ _) _) _ _ _)); (fail_if_success (with_reducible show wpAny _ _ (pyIter _) _ _ _)); first | ((with_reducible show wpAny _ _ (compareOp CmpOp.NotEq (Value.ref _) (Value.ref _)) _ _ _); (refine' ne_items (by k_asm) (by assumption) (by assumption) (by assumption) (by assumption) (by have hc := cLine_is; dsimp only [Around.deeper, Around.in1]; omega) ?_)) | ((with_reducible show wpAny _ _ (compareOp CmpOp.Eq (Value.ref _) (Value.ref _)) _ _ _); (refine' eq_tags ?_ ?_ (by k_asm) (by assumption) (by assumption) (by assumption) (by assumption) (by have hc := cLine_is; dsimp only [Around.deeper, Around.in1]; omega) ?_; assumption; assumption)) | ((with_reducible show wpAny _ _ (subscriptTail _ _ (Value.ref _) (Value.str _ _)) _ _ _); refine' item_dict_base (knd := PySem.strKind _ _) (by k_asm) (by assumption) (by assumption) (by exact strKind_is _ _ _ _) (by assumption) ?_) | ((with_reducible show wpAny _ _ (compareOp CmpOp.NotIn (Value.str _ _) (Value.ref _)) _ _ _); (refine' notin_base (knd := PySem.strKind _ _) (by k_asm) (by assumption) (by assumption) (by assumption) (by exact strKind_is _ _ _ _) (by assumption) ?_)) | ((with_reducible show wpAny _ _ (getAttr (Value.ref _) _ _) _ _ _); (refine' get_field (by k_asm) (by k_asm) (by assumption) (by first | assumption | simp) (by simp) (by first | assumption | k_mem) (by first | assumption | rfl) ?_)) | ((with_reducible show wpAny _ _ (call (Value.ref _) _ _) _ _ _); (refine' gives_use (by assumption) (by k_asm) (by k_asm) (by k_asm) (by k_asm) (by k_asm) (by exact rfl) (by exact rfl) (by exact rfl) (by exact rfl) (by dsimp only [Around.deeper]; omega) (by dsimp only [Around.deeper]; omega) (by first | assumption | exact stays_self) ?_; intro _ _ _ _; (try k_sweep))) | ((with_reducible show wpAny _ _ (call (Value.ref _) _ _) _ _ _); (refine' says_use (by assumption) (by k_asm) (by k_asm) (by k_asm) (by k_asm) (by k_asm) (by exact rfl) (by exact rfl) (by exact rfl) (by exact rfl) (by dsimp only [Around.deeper]; omega) (by dsimp only [Around.deeper]; omega) (by first | assumption | exact stays_self) ?_; intro _ _ _ _; (try k_sweep))) | walk1 | (dsimp only; walk1) | (leave1; try dsimp only))))
  all_goals first | exact fin _ _ _ _ _ (by assumption) rfl | (exfalso; simp_all)

set_option maxHeartbeats 8000000 in
theorem code_vec_r {w : World} {k k1 : Nat} {x y ax ay : Value} {kd : Str} {r r' : List Int} {h : Heap} {la lb : Addr} {as bs : List Value} {p : Int} (hk : k < 70) (hk1 : k1 < k) (ok : okKind kd) (hx : VecIn (Hp h) kd r x ax) (hy : VecIn (Hp h) kd r' y ay)
    (D : Sy w k1 163 [x, y] h true) (G1 : Gy w k1 177 [x] h (.ref la)) (G2 : Gy w k1 177 [y] h (.ref lb)) (La : h.IsList la as.toArray) (Lb : h.IsList lb bs.toArray) (Ca : CarriedAll as ([p].map (itm "integer"))) (Cb : CarriedAll bs ([p].map (itm "integer"))) :
    Sy w k 184 [x, y] h true := by
  refine says_mk fun mean mg mb base outs s RR hs key fin => ?_
  obtain ⟨u, tu, ru, us, rfl, Iu, Lu, Cu⟩ := hx
  obtain ⟨v, tv, rv, vs, rfl, Iv, Lv, Cv⟩ := hy
  replace Iu := Iu.mono (P' := Hp s.heap) hs
  replace Iv := Iv.mono (P' := Hp s.heap) hs
  replace La := stays_list hs La
  replace Lb := stays_list hs Lb
  have ne0 : kd ≠ ("language" : Str) := by rcases ok with rfl | rfl | rfl <;> decide +kernel
  have ne1 : kd ≠ ("list" : Str) := by rcases ok with rfl | rfl | rfl <;> decide +kernel
  have ne2 : kd ≠ ("expression" : Str) := by rcases ok with rfl | rfl | rfl <;> decide +kernel
  have ne3 : kd ≠ ("pairlist" : Str) := by rcases ok with rfl | rfl | rfl <;> decide +kernel
  have neA : (kd == ("language" : Str)) = false := by simpa using ne0
  have neB : (([("list" : Str), ("expression" : Str), ("pairlist" : Str)] : List Str).any fun x => x == kd) = false := by simp [Ne.symm ne1, Ne.symm ne2, Ne.symm ne3]
  obtain ⟨_, _, IAu⟩ := Iu.at
  have eqI : itemsEq "integer" [p] [p] = true := itemsEq_refl _ _
  (((have KX := Amb.X key); revert KX; k_fill; intro KX; clear KX; (refine' enter (mu := []) (binds := [("u", .ref u), ("v", .ref v)]) key (fun p hp => nomatch hp) ?k6 ?k7 ?k8 ?k9 ?kB ?_ ?c2 ?c3 ?c4 ?c5); (case k6 => k_is); (case k7 => k_is); (case k8 => exact Nat.lt_of_le_of_lt (Nat.sub_le _ _) (Nat.le_of_ble_eq_true rfl)); (case k9 => exact BindsTo.of_eq rfl); (case kB => exact locs rfl); (case c2 => decide); (case c3 => exact rfl); (case c4 => exact rfl); (case c5 => exact rfl)))
  intro g' L' h' hg F' N' B' X' T'
  replace hg : g' = s.heap := hg
  subst hg
  (try dsimp only)
  (try k_fold)
  (repeat' (first | (k_unfold; (try dsimp only)) | (k_end; wrow_close) | ((fail_if_success (with_reducible show wpAny _ _ (exec (Stmt.For _ _ _ _ _) _) _ _ _)); (fail_if_success (with_reducible show wpAny _ _ (pyIter _) _ _ _)); first | ((with_reducible show wpAny _ _ (compareOp CmpOp.NotEq (Value.ref _) (Value.ref _)) _ _ _); (refine' ne_items (by k_asm) (by assumption) (by assumption) (by assumption) (by assumption) (by have hc := cLine_is; dsimp only [Around.deeper, Around.in1]; omega) ?_)) | ((with_reducible show wpAny _ _ (compareOp CmpOp.Eq (Value.ref _) (Value.ref _)) _ _ _); (refine' eq_tags ?_ ?_ (by k_asm) (by assumption) (by assumption) (by assumption) (by assumption) (by have hc := cLine_is; dsimp only [Around.deeper, Around.in1]; omega) ?_; assumption; assumption)) | ((with_reducible show wpAny _ _ (subscriptTail _ _ (Value.ref _) (Value.str _ _)) _ _ _); refine' item_dict_base (knd := PySem.strKind _ _) (by k_asm) (by assumption) (by assumption) (by exact strKind_is _ _ _ _) (by assumption) ?_) | ((with_reducible show wpAny _ _ (compareOp CmpOp.NotIn (Value.str _ _) (Value.ref _)) _ _ _); (refine' notin_base (knd := PySem.strKind _ _) (by k_asm) (by assumption) (by assumption) (by assumption) (by exact strKind_is _ _ _ _) (by assumption) ?_)) | ((with_reducible show wpAny _ _ (getAttr (Value.ref _) _ _) _ _ _); (refine' get_field (by k_asm) (by k_asm) (by assumption) (by first | assumption | simp) (by simp) (by first | assumption | k_mem) (by first | assumption | rfl) ?_)) | ((with_reducible show wpAny _ _ (call (Value.ref _) _ _) _ _ _); (refine' gives_use (by assumption) (by k_asm) (by k_asm) (by k_asm) (by k_asm) (by k_asm) (by exact rfl) (by exact rfl) (by exact rfl) (by exact rfl) (by dsimp only [Around.deeper]; omega) (by dsimp only [Around.deeper]; omega) (by first | assumption | exact stays_self) ?_; intro _ _ _ _; (try k_sweep))) | ((with_reducible show wpAny _ _ (call (Value.ref _) _ _) _ _ _); (refine' says_use (by assumption) (by k_asm) (by k_asm) (by k_asm) (by k_asm) (by k_asm) (by exact rfl) (by exact rfl) (by exact rfl) (by exact rfl) (by dsimp only [Around.deeper]; omega) (by dsimp only [Around.deeper]; omega) (by first | assumption | exact stays_self) ?_; intro _ _ _ _; (try k_sweep))) | walk1 | (dsimp only; walk1) | (leave1; try dsimp only))))
  all_goals first | exact fin _ _ _ _ _ (by assumption) rfl | (exfalso; simp_all)

set_option maxHeartbeats 8000000 in
theorem code_list_n {w : World} {n k k1 : Nat} {x y : Value} {us vs : List Tr} {a a' : List (Str × Int)} {h : Heap} (hk : k < 70) (hk1 : k1 < k) (hx : VIn w (Hp h) (n + 1) x (.list us a)) (hy : VIn w (Hp h) (n + 1) y (.list vs a'))
    (C : ∀ lu lv xs ys, h.IsList lu xs.toArray → h.IsList lv ys.toArray → xs.length ≤ 1000 → ys.length ≤ 1000 → All2 (VIn w (Hp h) n) xs us → All2 (VIn w (Hp h) n) ys vs → Sy w k1 135 [.ref lu, .ref lv, .ref 184] h true)
    (G1 : Gy w k1 177 [x] h .none) (G2 : Gy w k1 177 [y] h .none) : Sy w k 184 [x, y] h true := by
  refine says_mk fun mean mg mb base outs s RR hs key fin => ?_
  obtain ⟨u, tu, ru, xs, atu, rfl, Iu, Lu, Cu, _⟩ := hx
  obtain ⟨v, tv, rv, ys, atv, rfl, Iv, Lv, Cv, _⟩ := hy
  obtain ⟨lu, rfl, Lu, zu⟩ := Lu.isList
  obtain ⟨lv, rfl, Lv, zv⟩ := Lv.isList
  have D := C lu lv xs ys Lu Lv zu zv Cu Cv
  clear C
  replace Iu := Iu.mono (P' := Hp s.heap) hs
  replace Iv := Iv.mono (P' := Hp s.heap) hs
  obtain ⟨_, _, IAu⟩ := Iu.at
  (((have KX := Amb.X key); revert KX; k_fill; intro KX; clear KX; (refine' enter (mu := []) (binds := [("u", .ref u), ("v", .ref v)]) key (fun p hp => nomatch hp) ?k6 ?k7 ?k8 ?k9 ?kB ?_ ?c2 ?c3 ?c4 ?c5); (case k6 => k_is); (case k7 => k_is); (case k8 => exact Nat.lt_of_le_of_lt (Nat.sub_le _ _) (Nat.le_of_ble_eq_true rfl)); (case k9 => exact BindsTo.of_eq rfl); (case kB => exact locs rfl); (case c2 => decide); (case c3 => exact rfl); (case c4 => exact rfl); (case c5 => exact rfl)))
  intro g' L' h' hg F' N' B' X' T'
  replace hg : g' = s.heap := hg
  subst hg
  (try dsimp only)
  (try k_fold)
  (repeat' (first | (k_unfold; (try dsimp only)) | (k_end; wrow_close) | ((fail_if_success (with_reducible show wpAny _ _ (exec (Stmt.For _ _ _ _ _) _) _ _ _)); (fail_if_success (with_reducible show wpAny _ _ (pyIter _) _ _ _)); first | ((with_reducible show wpAny _ _ (compareOp CmpOp.NotEq (Value.ref _) (Value.ref _)) _ _ _); (refine' ne_items (by k_asm) (by assumption) (by assumption) (by assumption) (by assumption) (by have hc := cLine_is; dsimp only [Around.deeper, Around.in1]; omega) ?_)) | ((with_reducible show wpAny _ _ (compareOp CmpOp.Eq (Value.ref _) (Value.ref _)) _ _ _); (refine' eq_tags ?_ ?_ (by k_asm) (by assumption) (by assumption) (by assumption) (by assumption) (by have hc := cLine_is; dsimp only [Around.deeper, Around.in1]; omega) ?_; assumption; assumption)) | ((with_reducible show wpAny _ _ (subscriptTail _ _ (Value.ref _) (Value.str _ _)) _ _ _); refine' item_dict_base (knd := PySem.strKind _ _) (by k_asm) (by assumption) (by assumption) (by exact strKind_is _ _ _ _) (by assumption) ?_) | ((with_reducible show wpAny _ _ (compareOp CmpOp.NotIn (Value.str _ _) (Value.ref _)) _ _ _); (refine' notin_base (knd := PySem.strKind _ _) (by k_asm) (by assumption) (by assumption) (by assumption) (by exact strKind_is _ _ _ _) (by assumption) ?_)) | ((with_reducible show wpAny _ _ (getAttr (Value.ref _) _ _) _ _ _); (refine' get_field (by k_asm) (by k_asm) (by assumption) (by first | assumption | simp) (by simp) (by first | assumption | k_mem) (by first | assumption | rfl) ?_)) | ((with_reducible show wpAny _ _ (call (Value.ref _) _ _) _ _ _); (refine' gives_use (by assumption) (by k_asm) (by k_asm) (by k_asm) (by k_asm) (by k_asm) (by exact rfl) (by exact rfl) (by exact rfl) (by exact rfl) (by dsimp only [Around.deeper]; omega) (by dsimp only [Around.deeper]; omega) (by first | assumption | exact stays_self) ?_; intro _ _ _ _; (try k_sweep))) | ((with_reducible show wpAny _ _ (call (Value.ref _) _ _) _ _ _); (refine' says_use (by assumption) (by k_asm) (by k_asm) (by k_asm) (by k_asm) (by k_asm) (by exact rfl) (by exact rfl) (by exact rfl) (by exact rfl) (by dsimp only [Around.deeper]; omega) (by dsimp only [Around.deeper]; omega) (by first | assumption | exact stays_self) ?_; intro _ _ _ _; (try k_sweep))) | walk1 | (dsimp only; walk1) | (leave1; try dsimp only))))
  all_goals first | exact fin _ _ _ _ _ (by assumption) rfl | (exfalso; simp_all)

set_option maxHeartbeats 8000000 in
theorem code_list_r {w : World} {n k k1 : Nat} {x y : Value} {us vs : List Tr} {a a' : List (Str × Int)} {h : Heap} {la lb : Addr} {as bs : List Value} {p : Int} (hk : k < 70) (hk1 : k1 < k) (hx : VIn w (Hp h) (n + 1) x (.list us a)) (hy : VIn w (Hp h) (n + 1) y (.list vs a'))
    (C : ∀ lu lv xs ys, h.IsList lu xs.toArray → h.IsList lv ys.toArray → xs.length ≤ 1000 → ys.length ≤ 1000 → All2 (VIn w (Hp h) n) xs us → All2 (VIn w (Hp h) n) ys vs → Sy w k1 135 [.ref lu, .ref lv, .ref 184] h true)
    (G1 : Gy w k1 177 [x] h (.ref la)) (G2 : Gy w k1 177 [y] h (.ref lb)) (La : h.IsList la as.toArray) (Lb : h.IsList lb bs.toArray) (Ca : CarriedAll as ([p].map (itm "integer"))) (Cb : CarriedAll bs ([p].map (itm "integer"))) : Sy w k 184 [x, y] h true := by
  refine says_mk fun mean mg mb base outs s RR hs key fin => ?_
  obtain ⟨u, tu, ru, xs, atu, rfl, Iu, Lu, Cu, _⟩ := hx
  obtain ⟨v, tv, rv, ys, atv, rfl, Iv, Lv, Cv, _⟩ := hy
  obtain ⟨lu, rfl, Lu, zu⟩ := Lu.isList
  obtain ⟨lv, rfl, Lv, zv⟩ := Lv.isList
  have D := C lu lv xs ys Lu Lv zu zv Cu Cv
  clear C
  replace Iu := Iu.mono (P' := Hp s.heap) hs
  replace Iv := Iv.mono (P' := Hp s.heap) hs
  replace La := stays_list hs La
  replace Lb := stays_list hs Lb
  obtain ⟨_, _, IAu⟩ := Iu.at
  have eqI : itemsEq "integer" [p] [p] = true := itemsEq_refl _ _
  clear Lu Lv Cu Cv
  (((have KX := Amb.X key); revert KX; k_fill; intro KX; clear KX; (refine' enter (mu := []) (binds := [("u", .ref u), ("v", .ref v)]) key (fun p hp => nomatch hp) ?k6 ?k7 ?k8 ?k9 ?kB ?_ ?c2 ?c3 ?c4 ?c5); (case k6 => k_is); (case k7 => k_is); (case k8 => exact Nat.lt_of_le_of_lt (Nat.sub_le _ _) (Nat.le_of_ble_eq_true rfl)); (case k9 => exact BindsTo.of_eq rfl); (case kB => exact locs rfl); (case c2 => decide); (case c3 => exact rfl); (case c4 => exact rfl); (case c5 => exact rfl)))
  intro g' L' h' hg F' N' B' X' T'
  replace hg : g' = s.heap := hg
  subst hg
  (try dsimp only)
  (try k_fold)
  (repeat' (first | (k_unfold; (try dsimp only)) | (k_end; wrow_close) | ((fail_if_success (with_reducible show wpAny _ _ (exec (Stmt.For _ _ _ _ _) _) _ _ _)); (fail_if_success (with_reducible show wpAny _ _ (pyIter _) _ _ _)); first | ((with_reducible show wpAny _ _ (compareOp CmpOp.NotEq (Value.ref _) (Value.ref _)) _ _ _); (refine' ne_items (by k_asm) (by assumption) (by assumption) (by assumption) (by assumption) (by have hc := cLine_is; dsimp only [Around.deeper, Around.in1]; omega) ?_)) | ((with_reducible show wpAny _ _ (compareOp CmpOp.Eq (Value.ref _) (Value.ref _)) _ _ _); (refine' eq_tags ?_ ?_ (by k_asm) (by assumption) (by assumption) (by assumption) (by assumption) (by have hc := cLine_is; dsimp only [Around.deeper, Around.in1]; omega) ?_; assumption; assumption)) | ((with_reducible show wpAny _ _ (subscriptTail _ _ (Value.ref _) (Value.str _ _)) _ _ _); refine' item_dict_base (knd := PySem.strKind _ _) (by k_asm) (by assumption) (by assumption) (by exact strKind_is _ _ _ _) (by assumption) ?_) | ((with_reducible show wpAny _ _ (compareOp CmpOp.NotIn (Value.str _ _) (Value.ref _)) _ _ _); (refine' notin_base (knd := PySem.strKind _ _) (by k_asm) (by assumption) (by assumption) (by assumption) (by exact strKind_is _ _ _ _) (by assumption) ?_)) | ((with_reducible show wpAny _ _ (getAttr (Value.ref _) _ _) _ _ _); (refine' get_field (by k_asm) (by k_asm) (by assumption) (by first | assumption | simp) (by simp) (by first | assumption | k_mem) (by first | assumption | rfl) ?_)) | ((with_reducible show wpAny _ _ (call (Value.ref _) _ _) _ _ _); (refine' gives_use (by assumption) (by k_asm) (by k_asm) (by k_asm) (by k_asm) (by k_asm) (by exact rfl) (by exact rfl) (by exact rfl) (by exact rfl) (by dsimp only [Around.deeper]; omega) (by dsimp only [Around.deeper]; omega) (by first | assumption | exact stays_self) ?_; intro _ _ _ _; (try k_sweep))) | ((with_reducible show wpAny _ _ (call (Value.ref _) _ _) _ _ _); (refine' says_use (by assumption) (by k_asm) (by k_asm) (by k_asm) (by k_asm) (by k_asm) (by exact rfl) (by exact rfl) (by exact rfl) (by exact rfl) (by dsimp only [Around.deeper]; omega) (by dsimp only [Around.deeper]; omega) (by first | assumption | exact stays_self) ?_; intro _ _ _ _; (try k_sweep))) | walk1 | (dsimp only; walk1) | (leave1; try dsimp only))))
  all_goals first | exact fin _ _ _ _ _ (by assumption) rfl | (exfalso; simp_all)

set_option maxHeartbeats 8000000 in
theorem code_call {w : World} {n k k1 : Nat} {x y : Value} {us vs : List Tr} {a : List (Option Str)} {h : Heap} (hk : k < 70) (hk1 : k1 < k) (hx : VIn w (Hp h) (n + 1) x (.call a us)) (hy : VIn w (Hp h) (n + 1) y (.call a vs))
    (C : ∀ lu lv xs ys, h.IsList lu xs.toArray → h.IsList lv ys.toArray → xs.length ≤ 1000 → ys.length ≤ 1000 → All2 (VIn w (Hp h) n) xs us → All2 (VIn w (Hp h) n) ys vs → Sy w k1 135 [.ref lu, .ref lv, .ref 184] h true) : Sy w k 184 [x, y] h true := by
  refine says_mk fun mean mg mb base outs s RR hs key fin => ?_
  obtain ⟨u, tu, ru, xs, tgu, es, rfl, Iu, Lu, Cu, Lt, Ct, ou⟩ := hx
  obtain ⟨v, tv, rv, ys, tgv, es', rfl, Iv, Lv, Cv, Lt', Ct', ov⟩ := hy
  obtain ⟨lu, rfl, Lu, zu⟩ := Lu.isList
  obtain ⟨lv, rfl, Lv, zv⟩ := Lv.isList
  have D := C lu lv xs ys Lu Lv zu zv Cu Cv
  clear C
  obtain ⟨lt, rfl, Lt, zt⟩ := (Lt.mono (P' := Hp s.heap) hs).isList
  obtain ⟨lt', rfl, Lt', zt'⟩ := (Lt'.mono (P' := Hp s.heap) hs).isList
  replace Iu := Iu.mono (P' := Hp s.heap) hs
  replace Iv := Iv.mono (P' := Hp s.heap) hs
  (((have KX := Amb.X key); revert KX; k_fill; intro KX; clear KX; (refine' enter (mu := []) (binds := [("u", .ref u), ("v", .ref v)]) key (fun p hp => nomatch hp) ?k6 ?k7 ?k8 ?k9 ?kB ?_ ?c2 ?c3 ?c4 ?c5); (case k6 => k_is); (case k7 => k_is); (case k8 => exact Nat.lt_of_le_of_lt (Nat.sub_le _ _) (Nat.le_of_ble_eq_true rfl)); (case k9 => exact BindsTo.of_eq rfl); (case kB => exact locs rfl); (case c2 => decide); (case c3 => exact rfl); (case c4 => exact rfl); (case c5 => exact rfl)))
  intro g' L' h' hg F' N' B' X' T'
  replace hg : g' = s.heap := hg
  subst hg
  (try dsimp only)
  (try k_fold)
  (repeat' (first | (k_unfold; (try dsimp only)) | (k_end; wrow_close) | ((fail_if_success (with_reducible show wpAny _ _ (exec (Stmt.For _ _ _ _ _) _) _ _ _)); (fail_if_success (with_reducible show wpAny _ _ (pyIter _) _ _ _)); first | ((with_reducible show wpAny _ _ (compareOp CmpOp.NotEq (Value.ref _) (Value.ref _)) _ _ _); (refine' ne_items (by k_asm) (by assumption) (by assumption) (by assumption) (by assumption) (by have hc := cLine_is; dsimp only [Around.deeper, Around.in1]; omega) ?_)) | ((with_reducible show wpAny _ _ (compareOp CmpOp.Eq (Value.ref _) (Value.ref _)) _ _ _); (refine' eq_tags ?_ ?_ (by k_asm) (by assumption) (by assumption) (by assumption) (by assumption) (by have hc := cLine_is; dsimp only [Around.deeper, Around.in1]; omega) ?_; assumption; assumption)) | ((with_reducible show wpAny _ _ (subscriptTail _ _ (Value.ref _) (Value.str _ _)) _ _ _); refine' item_dict_base (knd := PySem.strKind _ _) (by k_asm) (by assumption) (by assumption) (by exact strKind_is _ _ _ _) (by assumption) ?_) | ((with_reducible show wpAny _ _ (compareOp CmpOp.NotIn (Value.str _ _) (Value.ref _)) _ _ _); (refine' notin_base (knd := PySem.strKind _ _) (by k_asm) (by assumption) (by assumption) (by assumption) (by exact strKind_is _ _ _ _) (by assumption) ?_)) | ((with_reducible show wpAny _ _ (getAttr (Value.ref _) _ _) _ _ _); (refine' get_field (by k_asm) (by k_asm) (by assumption) (by first | assumption | simp) (by simp) (by first | assumption | k_mem) (by first | assumption | rfl) ?_)) | ((with_reducible show wpAny _ _ (call (Value.ref _) _ _) _ _ _); (refine' gives_use (by assumption) (by k_asm) (by k_asm) (by k_asm) (by k_asm) (by k_asm) (by exact rfl) (by exact rfl) (by exact rfl) (by exact rfl) (by dsimp only [Around.deeper]; omega) (by dsimp only [Around.deeper]; omega) (by first | assumption | exact stays_self) ?_; intro _ _ _ _; (try k_sweep))) | ((with_reducible show wpAny _ _ (call (Value.ref _) _ _) _ _ _); (refine' says_use (by assumption) (by k_asm) (by k_asm) (by k_asm) (by k_asm) (by k_asm) (by exact rfl) (by exact rfl) (by exact rfl) (by exact rfl) (by dsimp only [Around.deeper]; omega) (by dsimp only [Around.deeper]; omega) (by first | assumption | exact stays_self) ?_; intro _ _ _ _; (try k_sweep))) | walk1 | (dsimp only; walk1) | (leave1; try dsimp only))))
  all_goals first | exact fin _ _ _ _ _ (by assumption) rfl | (exfalso; simp_all)

theorem all2_len {α β : Type} {f : α → β → Bool} : ∀ {us : List α} {vs : List β}, all2 f us vs = true → us.length = vs.length
  | [], [], _ => rfl
  | _ :: us, _ :: vs, h => by
    simp only [all2, Bool.and_eq_true] at h
    rw [List.length_cons, List.length_cons, all2_len h.2]
theorem all2_get {α β : Type} {f : α → β → Bool} : ∀ {us : List α} {vs : List β} {i : Nat} {a : α} {b : β}, all2 f us vs = true → us[i]? = some a → vs[i]? = some b → f a b = true
  | u :: us, v :: vs, 0, a, b, h, ha, hb => by
    simp only [all2, Bool.and_eq_true] at h
    cases ha; cases hb
    exact h.1
  | u :: us, v :: vs, i + 1, a, b, h, ha, hb => by
    simp only [all2, Bool.and_eq_true] at h
    exact all2_get h.2 (by simpa using ha) (by simpa using hb)
theorem code_all {w : World} : ∀ (n : Nat) (x y : Value) (U V : Tr) (h : Heap), n ≤ 5 → VIn w (Hp h) n x U → VIn w (Hp h) n y V → code n U V = true → Sy w (10 + 5 * n) 184 [x, y] h true := by
  have base : ∀ (K : Nat) (x y : Value) (U V : Tr) (h : Heap) (m : Nat), 9 < K → K < 70 → VIn w (Hp h) m x U → VIn w (Hp h) m y V → code m U V = true → kindOf U = kindOf V → (∀ us a, U ≠ .list us a) → (∀ us a, U ≠ .call us a) → Sy w K 184 [x, y] h true := by
    intro K x y U V h m hn hn' hx hy hc hk n1 n2
    rcases kinds_ne hx hy hk with ⟨rfl, rfl⟩ | ⟨p, q, rfl, rfl⟩ | ⟨k, r, a, r', a', rfl, rfl⟩ | ⟨us, a, vs, b, rfl, rfl⟩ | ⟨t, us, t', vs, rfl, rfl⟩
    · exact code_null (k1 := 9) (by omega) (by omega) hx hy (kern_null hx hy)
    · unfold code at hc
      exact code_name (k1 := 9) (by omega) (by omega) hx hy (by have := kern_name (k := 9) hx hy; rwa [hc] at this)
    · unfold code at hc
      simp only [decide_true, Bool.true_and, Bool.and_eq_true, decide_eq_true_eq] at hc
      obtain ⟨e, ei⟩ := hc
      have D : Sy w 9 163 [x, y] h true := by
        have hx' := hx
        have hy' := hy
        unfold VIn at hx' hy'
        obtain ⟨_, _, ix, _⟩ := hx'
        obtain ⟨_, _, iy, _⟩ := hy'
        have := kern_vec (w := w) (k := 9) (by omega) hx.okv ix iy; rwa [ei] at this
      obtain ⟨r1, N1, G1⟩ := names_all (k := 9) (by omega) hx
      obtain ⟨r2, N2, G2⟩ := names_all (k := 9) (by omega) hy
      have ok := hx.okv
      unfold VIn at hx hy
      obtain ⟨_, _, ix, _⟩ := hx
      obtain ⟨_, _, iy, _⟩ := hy
      have e' : nm (atsOf (.vec k r a)) = nm (atsOf (.vec k r' a')) := e
      rcases N1 with ⟨z1, rfl⟩ | ⟨v1, l1, xs1, z1, rfl, L1, C1⟩ <;> rcases N2 with ⟨z2, rfl⟩ | ⟨v2, l2, xs2, z2, rfl, L2, C2⟩
      · exact code_vec_n (by omega) (by omega) ok ix iy D G1 G2
      · rw [e', z2] at z1; cases z1
      · rw [e', z2] at z1; cases z1
      · rw [e', z2] at z1; cases z1
        exact code_vec_r (by omega) (by omega) ok ix iy D G1 G2 L1 L2 C1 C2
    · exact absurd rfl (n1 _ _)
    · exact absurd rfl (n2 _ _)
  intro n
  induction n with
  | zero =>
    intro x y U V h hn hx hy hc
    have hk : kindOf U = kindOf V := by
      by_cases e : kindOf U = kindOf V
      · exact e
      · rw [code_ne e] at hc; cases hc
    exact base _ x y U V h 0 (by omega) (by omega) hx hy hc hk (fun us a e => by subst e; exact hx) (fun us a e => by subst e; exact hx)
  | succ n ih =>
    intro x y U V h hn hx hy hc
    have hk : kindOf U = kindOf V := by
      by_cases e : kindOf U = kindOf V
      · exact e
      · rw [code_ne e] at hc; cases hc
    have items : ∀ (us vs : List Tr), all2 (code n) us vs = true → ∀ lu lv xs ys, h.IsList lu xs.toArray → h.IsList lv ys.toArray → xs.length ≤ 1000 → ys.length ≤ 1000 → All2 (VIn w (Hp h) n) xs us → All2 (VIn w (Hp h) n) ys vs →
        Sy w (13 + 5 * n) 135 [.ref lu, .ref lv, .ref 184] h true := by
      intro us vs hall lu lv xs ys Lu Lv zu zv Au Av
      have z := items_step (k := 13 + 5 * n) (k1 := 10 + 5 * n) (f := fun _ => true) (fn := 184) (by omega) (by omega) Lu Lv zu zv keep184 fun i a b ha hb => by
        obtain ⟨A', ea, va⟩ := Au.get ha
        obtain ⟨B', eb, vb⟩ := Av.get hb
        exact ih a b A' B' h (by omega) va vb (all2_get hall ea eb)
      have e : (decide (xs.length = ys.length) && (List.range xs.length).all fun _ => true) = true := by
        rw [Au.length, Av.length, all2_len hall]; simp
      rw [e] at z
      exact z
    rcases kinds_ne hx hy hk with ⟨rfl, rfl⟩ | ⟨p, q, rfl, rfl⟩ | ⟨k, r, a, r', a', rfl, rfl⟩ | ⟨us, a, vs, b, rfl, rfl⟩ | ⟨t, us, t', vs, rfl, rfl⟩
    · exact base _ x y _ _ h (n + 1) (by omega) (by omega) hx hy hc hk (fun us a e => nomatch e) fun us a e => nomatch e
    · exact base _ x y _ _ h (n + 1) (by omega) (by omega) hx hy hc hk (fun us a e => nomatch e) fun us a e => nomatch e
    · exact base _ x y _ _ h (n + 1) (by omega) (by omega) hx hy hc hk (fun us a e => nomatch e) fun us a e => nomatch e
    · unfold code at hc
      simp only [Bool.and_eq_true, decide_eq_true_eq] at hc
      obtain ⟨e, ei⟩ := hc
      obtain ⟨r1, N1, G1⟩ := names_all (k := 13 + 5 * n) (by omega) hx
      obtain ⟨r2, N2, G2⟩ := names_all (k := 13 + 5 * n) (by omega) hy
      have e' : nm (atsOf (.list us a)) = nm (atsOf (.list vs b)) := e
      rcases N1 with ⟨z1, rfl⟩ | ⟨v1, l1, xs1, z1, rfl, L1, C1⟩ <;> rcases N2 with ⟨z2, rfl⟩ | ⟨v2, l2, xs2, z2, rfl, L2, C2⟩
      · exact code_list_n (by omega) (by omega) hx hy (items us vs ei) G1 G2
      · rw [e', z2] at z1; cases z1
      · rw [e', z2] at z1; cases z1
      · rw [e', z2] at z1; cases z1
        exact code_list_r (by omega) (by omega) hx hy (items us vs ei) G1 G2 L1 L2 C1 C2
    · unfold code at hc
      simp only [Bool.and_eq_true, decide_eq_true_eq] at hc
      obtain ⟨rfl, ei⟩ := hc
      exact code_call (by omega) (by omega) hx hy (items us vs ei)
end Mine
end Code

section Cells
open PySem PySem.Spec PySem.Calls PyProof.Rows PySem.W PyProof.V
namespace Mine
/-- enter a def some of whose names are cells -/
theorem enterC {w : World} {mean : ExcName → Option Value} {mg mb : Str → Option Value} {A : Around} {base : Heap} {outs : List Env} {s : Shared} {mu : List (Addr × Obj)} {R : Result → Shared → Prop}
    {name qual : Str} {params : Arguments} {body : List Stmt} {scope : Scope} {dV kV doc pm cdv ct oc : Value} {an od : Option Addr} {osl : Array (Option Value)} {f : Addr} {args : Args} {binds : List (Str × Value)}
    (Y : Amb w mean mg mb A base outs (hid s.heap mu)) (hm : ∀ p ∈ mu, s.heap.get? p.1 = some p.2)
    (ho : (hd.heap_39 w.params).lookup f = some ⟨oc, od, .func (fnOf name qual params body scope dV kV doc pm an cdv ct), osl⟩) (hcd : codeIn (hd.heap_39 w.params) cdv qual = true) (hroom : A.depth < recursionLimit)
    (hbind : BindsTo s (fnOf name qual params body scope dV kV doc pm an cdv ct) args binds) (hkind : (binds.all fun y => scope.names.lookup y.1 == some .local || scope.names.lookup y.1 == some .cell) = true)
    (hnd : ((cellsFrom 0 scope.names []).map (·.1)).Nodup)
    (h : ∀ g L' h₁ tk cells, g = hid s.heap mu → Fr g L' h₁ (bindL (envOfC qual scope L' f cdv).kindOf binds fun _ => none) → News g L' h₁ (cells ++ mu) →
      CellsAre (bindC (envOfC qual scope L' f cdv).kindOf binds fun _ => none) (cellsFrom (L' + 1) scope.names []) cells → Below A base outs g → (hd.heap_39 w.params).In g → Tp mean mg mb g → (∀ p ∈ mu, p.1 < L') →
      wpAny (model PySem.Challenge.rw_pq1317_01.row.prog w) (A.deeper (envOfC qual scope L' f cdv)) (execs body (envOfC qual scope L' f cdv))
        (fun fl s' => R (.ok (.ret (match fl with | .ret v => v | _ => .none))) s') (fun _ _ => False)
        { s with heap := h₁, toks := tk })
    (hco : scope.isCoroutine = false) (hgen : scope.isGenerator = false) (hk : scope.kind = .function) :
    codeAny (model PySem.Challenge.rw_pq1317_01.row.prog w) A (.call (.ref f) args) R s := by
  have st : ∀ b o, (hid s.heap mu).get? b = some o → s.heap.get? b = some o := fun b o e => of_hideAll _ e
  refine codeAny_call_function hroom (st _ _ (Y.X _ _ ho)) rfl hco hgen rfl ((codeRec_of Y.X hcd).keeps st) (hbind _ _ _ _ ?_)
  refine wpAny_newFunctionEnv_cells hk (kindsX hkind _) fun env' he s' x => ?_
  subst he
  refine ⟨(Y.T.nolimit.keeps st).keeps x.toInCall.keep, codeAny_func ?_⟩
  obtain ⟨h₁, tk, rfl, _⟩ := x.done
  have hk₁ := x.toInCall.keep
  obtain ⟨cells, NC, Z⟩ := Cl.news (h₀ := s.heap) (Nat.le_refl _) fun n c hm => ⟨x.cell n c (lookup_of_mem_nodup (cellsFrom_names scope.names 0 (s.heap.objs.size + 1) [] [] rfl ▸ hnd) hm), x.above n c hm⟩
  refine wpAny_mono (h _ s.heap.objs.size h₁ tk cells rfl ⟨x.toInCall.ns, fun b o e => hk₁ b o (of_hideAll _ e), Nat.le_of_eq (hideAll_size _ _)⟩ (fun p hp => ?_) Z Y.B Y.X Y.T (fun p hp => Heap.lt_size (hm p hp))) (fun fl s' hl => hl) fun _ _ y => y.elim
  rcases List.mem_append.mp hp with hp | hp
  · refine ⟨(NC p hp).1, (NC p hp).2.1, ?_⟩
    cases q : (hid s.heap mu).get? p.1 with
    | none => rfl
    | some o => have := of_hideAll _ q; rw [(NC p hp).2.2] at this; cases this
  · exact ⟨hk₁ _ _ (hm p hp), Nat.ne_of_lt (Heap.lt_size (hm p hp)), hideAll_none _ (List.mem_map_of_mem hp)⟩

/-- two neighbours of the ledger are turned -/
inductive Two (S Q : Addr) (so qo : Obj) : List (Addr × Obj) → (Obj → Obj → List (Addr × Obj)) → Prop
  | head {r : List (Addr × Obj)} : (∀ p ∈ r, (@Ne Nat p.1 S) ∧ (@Ne Nat p.1 Q)) → Two S Q so qo ((S, so) :: (Q, qo) :: r) fun a b => (S, a) :: (Q, b) :: r
  | tail {p : Addr × Obj} {r : List (Addr × Obj)} {g : Obj → Obj → List (Addr × Obj)} : (@Ne Nat p.1 S) → (@Ne Nat p.1 Q) → Two S Q so qo r g → Two S Q so qo (p :: r) fun a b => p :: g a b
theorem Two.split {S Q : Addr} {so qo : Obj} : ∀ {l : List (Addr × Obj)} {g : Obj → Obj → List (Addr × Obj)}, Two S Q so qo l g → (S, so) ∈ l ∧ (Q, qo) ∈ l ∧ ∃ rest : List (Addr × Obj), (∀ p ∈ rest, p ∈ l ∧ p.1 ∉ [S, Q]) ∧ ∀ a b p, p ∈ g a b → p = (S, a) ∨ p = (Q, b) ∨ p ∈ rest
  | _, _, .head (r := r) h => ⟨.head _, .tail _ (.head _), r, fun p hp => ⟨.tail _ (.tail _ hp), fun q => by
      rcases List.mem_cons.mp q with q | q
      · exact (h p hp).1 q
      · exact (h p hp).2 (List.mem_singleton.mp q)⟩, fun a b p hp => by
      rcases List.mem_cons.mp hp with hp | hp
      · exact .inl hp
      · rcases List.mem_cons.mp hp with hp | hp
        · exact .inr (.inl hp)
        · exact .inr (.inr hp)⟩
  | _, _, .tail (p := p) h1 h2 t => by
    obtain ⟨m1, m2, rest, h3, h4⟩ := t.split
    refine ⟨.tail _ m1, .tail _ m2, p :: rest, fun q hq => ?_, fun a b q hq => ?_⟩
    · rcases List.mem_cons.mp hq with rfl | hq
      · refine ⟨.head _, fun z => ?_⟩
        rcases List.mem_cons.mp z with z | z
        · exact h1 z
        · exact h2 (List.mem_singleton.mp z)
      · exact ⟨.tail _ (h3 q hq).1, (h3 q hq).2⟩
    · rcases List.mem_cons.mp hq with rfl | hq
      · exact .inr (.inr (.head _))
      · rcases h4 a b q hq with e | e | e
        · exact .inl e
        · exact .inr (.inl e)
        · exact .inr (.inr (.tail _ e))

/-- the two at hand, ahead of a call -/
theorem Two.mu {S Q : Addr} {so qo : Obj} {news : List (Addr × Obj)} {g : Obj → Obj → List (Addr × Obj)} {h₀ h : Heap} {L : Addr} (U : Two S Q so qo news g) (N : News h₀ L h news) : News h₀ L h [(S, so), (Q, qo)] := fun p hp => by
  rcases List.mem_cons.mp hp with rfl | hp
  · exact N _ U.split.1
  · obtain rfl := List.mem_singleton.mp hp
    exact N _ U.split.2.1
/-- and behind it -/
theorem Two.news {S Q : Addr} {so qo a b : Obj} {news : List (Addr × Obj)} {g : Obj → Obj → List (Addr × Obj)} {h₀ h h' : Heap} {L : Addr} (U : Two S Q so qo news g) (N : News h₀ L h news) (k : Kept [S, Q] h h') (ha : h'.get? S = some a) (hb : h'.get? Q = some b) :
    News h₀ L h' (g a b) := fun p hp => by
  obtain ⟨m1, m2, rest, h3, h4⟩ := U.split
  rcases h4 a b p hp with rfl | rfl | e
  · exact ⟨ha, (N _ m1).2⟩
  · exact ⟨hb, (N _ m2).2⟩
  · exact ⟨k _ _ (h3 p e).2 (N _ (h3 p e).1).1, (N _ (h3 p e).1).2⟩
theorem Two.fr {S Q : Addr} {so qo : Obj} {news : List (Addr × Obj)} {g : Obj → Obj → List (Addr × Obj)} {h₀ h h' : Heap} {L : Addr} {m : Str → Option Value} (U : Two S Q so qo news g) (F : Fr h₀ L h m) (N : News h₀ L h news) (k : Kept [S, Q] h h') : Fr h₀ L h' m := by
  have n1 := N _ U.split.1
  have n2 := N _ U.split.2.1
  refine k.fr F (fun q => ?_) fun a ha => ?_
  · rcases List.mem_cons.mp q with q | q
    · exact n1.2.1 q.symm
    · exact n2.2.1 (List.mem_singleton.mp q).symm
  · rcases List.mem_cons.mp ha with rfl | ha
    · exact n1.2.2
    · obtain rfl := List.mem_singleton.mp ha
      exact n2.2.2

/-- what a call has made -/
theorem fresh_tl {h₀ h h' : Heap} {L : Addr} {m : Str → Option Value} (F : Fr h₀ L h m) : ∃ tl : List (Addr × Obj), News h₀ L h' tl ∧ (∀ p ∈ tl, h.objs.size ≤ p.1) ∧ ∀ a o, h.objs.size ≤ a → h'.get? a = some o → (a, o) ∈ tl := by
  let f : Nat → Option (Addr × Obj) := fun i => (h'.get? (h.objs.size + i)).map fun o => (h.objs.size + i, o)
  refine ⟨(List.range h'.objs.size).filterMap f, fun p hp => ?_, fun p hp => ?_, fun a o ha e => ?_⟩
  · obtain ⟨i, _, hi⟩ := List.mem_filterMap.mp hp
    obtain ⟨o, e, rfl⟩ := Option.map_eq_some_iff.mp hi
    refine ⟨e, Nat.ne_of_gt (Nat.lt_of_lt_of_le F.ns.lt (Nat.le_add_right ..)), ?_⟩
    cases q : h₀.get? (h.objs.size + i) with
    | none => rfl
    | some o' => exact absurd (Heap.lt_size (F.keep _ _ q)) (Nat.not_lt.mpr (Nat.le_add_right ..))
  · obtain ⟨i, _, hi⟩ := List.mem_filterMap.mp hp
    obtain ⟨o, e, rfl⟩ := Option.map_eq_some_iff.mp hi
    exact Nat.le_add_right ..
  · have hlt := Heap.lt_size e
    refine List.mem_filterMap.mpr ⟨a - h.objs.size, List.mem_range.mpr (Nat.lt_of_le_of_lt (Nat.sub_le ..) hlt), ?_⟩
    show (h'.get? (h.objs.size + (a - h.objs.size))).map _ = _
    rw [Nat.add_sub_cancel' ha, e]; rfl

theorem CompEnd.mono {h₀ : Heap} {L : Addr} {m : Str → Option Value} {s₁ s₂ : Shared} {I : Addr} {oI : Obj} {C : Addr} {oC : Obj} {D : Addr} {oD : Obj} {S : List (Addr × Obj) → Prop} {rest rest' : Value → List (Addr × Obj) → Prop} {y : Value}
    (x : LCg.CompEnd h₀ L m s₁ I oI C oC D oD S rest y s₂) (h : ∀ y n, rest y n → rest' y n) : LCg.CompEnd h₀ L m s₁ I oI C oC D oD S rest' y s₂ := by
  obtain ⟨h', tk, news', a, b, c, d, e, f⟩ := x
  exact ⟨h', tk, news', a, b, c, d, e, h _ _ f⟩
/-- a comprehension by an invariant -/
theorem rest_ind {prog : Program} {w : World} {A : Around} {h₀ : Heap} {L : Addr} {m : Str → Option Value} {env : Env} {elt : PySem.Expr} {x : Str} {scope : Scope} {cl : List (Str × Addr)} {s : Shared} {S : List (Addr × Obj) → Prop} {P : Nat → Value → Prop}
    {Fin : List Value → List (Addr × Obj) → Prop} {n : Nat} (Inv : Nat → List Value → List (Addr × Obj) → Prop)
    (step : ∀ i ys news v I oI C oC D m₂ h tk (E' : Value → Shared → Prop), i < n → Inv i ys news → P i v → LCg.NsObj oC m₂ → m₂ x = some v → Fr h₀ L h m → News h₀ L h ((I, oI) :: (C, oC) :: (D, LCg.lst ys) :: news) → LCg.Off3 I C D news → ((@Ne Nat I C) ∧ (@Ne Nat I D) ∧ (@Ne Nat C D)) →
      wpAny (model prog w) A (eval elt (compEnvC scope cl C env)) (LCg.CompEnd h₀ L m { s with heap := h, toks := tk } I oI C oC D (LCg.lst ys) S (fun y news' => Inv (i + 1) (ys ++ [y]) news')) E' { s with heap := h, toks := tk })
    (fin : ∀ ys news, Inv n ys news → Fin ys news) : ∀ k i ys news, i + k = n → Inv i ys news → LCg.CompRest prog w A h₀ L m env elt x scope cl s S P Fin k i ys news
  | 0, i, ys, news, e, hi => LCg.CompRest.zero (fin ys news (by rw [Nat.add_zero] at e; exact e ▸ hi))
  | k + 1, i, ys, news, e, hi => LCg.CompRest.succ fun v I oI C oC D m₂ h tk E' hp hC hx F N off ne =>
    wpAny_mono (step i ys news v I oI C oC D m₂ h tk E' (by omega) hi hp hC hx F N off ne) (fun y s₂ z => CompEnd.mono z fun y n hn => rest_ind Inv step fin k (i + 1) _ _ (by omega) hn) fun _ _ z => z
end Mine
end Cells

section TakeU
open PySem PySem.Spec PySem.Calls PyProof.Rows PySem.W PyProof.V
namespace Mine
theorem SrcMu.form {S Q : Addr} {mu : List (Addr × Obj)} (x : SrcMu S Q mu) : ∃ so qo, mu = [(S, so), (Q, qo)] := by cases x; exact ⟨_, _, rfl⟩
theorem Src.of {h : Heap} {S Q : Addr} {so qo : Obj} (x : SrcMu S Q [(S, so), (Q, qo)]) (h1 : h.get? S = some so) (h2 : h.get? Q = some qo) : Src h S Q := ⟨_, x, fun p hp => by
  rcases List.mem_cons.mp hp with rfl | hp
  · exact h1
  · obtain rfl := List.mem_singleton.mp hp; exact h2⟩
theorem Src.get {h : Heap} {S Q : Addr} (x : Src h S Q) : ∃ so qo, SrcMu S Q [(S, so), (Q, qo)] ∧ h.get? S = some so ∧ h.get? Q = some qo := by
  obtain ⟨mu, x, k⟩ := x
  obtain ⟨so, qo, rfl⟩ := x.form
  exact ⟨so, qo, x, k _ (.head _), k _ (.tail _ (.head _))⟩

theorem Two.re {S Q : Addr} {so qo : Obj} (a b : Obj) : ∀ {l : List (Addr × Obj)} {g : Obj → Obj → List (Addr × Obj)}, Two S Q so qo l g → Two S Q a b (g a b) g
  | _, _, .head h => .head h
  | _, _, .tail h1 h2 t => .tail h1 h2 (t.re a b)

section
variable {w : World} {mean : ExcName → Option Value} {mg mb : Str → Option Value} {A₀ A : Around} {base h₀ : Heap} {outer : List Env} {L : Addr} {m : Str → Option Value} {env : Env} {news : List (Addr × Obj)} {s : Shared} {E : Value → Shared → Prop} {Q' : Value → Shared → Prop}
  {S Q : Addr} {so qo : Obj} {gl : Obj → Obj → List (Addr × Obj)}
theorem amb_two (U : Two S Q so qo news gl) (B : Below A₀ base outer h₀) (F : Fr h₀ L s.heap m) (N : News h₀ L s.heap news) (X : (hd.heap_39 w.params).In h₀) (T : Tp mean mg mb h₀) (hA : A.frames = some (env :: outer)) (hf : env.frame = some L) (hke : env.scope.kind = .function) :
    Amb w mean mg mb A base (env :: outer) (hideAll s.heap [S, Q]) := amb_of (mu := [(S, so), (Q, qo)]) B F (U.mu N) X T hA hf hke
theorem take_use {most : Int} {tm : Tok} (N : News h₀ L s.heap news) (hS : SrcMu S Q [(S, so), (Q, qo)]) (U : Two S Q so qo news gl) (h1 : 1 ≤ most) (h2 : most < 1000)
    (B : Below A₀ base outer h₀) (F : Fr h₀ L s.heap m) (X : (hd.heap_39 w.params).In h₀) (T : Tp mean mg mb h₀) (hA : A.frames = some (env :: outer)) (hf : env.frame = some L) (hke : env.scope.kind = .function)
    (hh : A.handled = none) (hd : A.depth ≤ 900) (hu : A.units ≤ 9000)
    (ret : ∀ r t h' tk' so' qo', Fr h₀ L h' m → News h₀ L h' (gl so' qo') → SrcMu S Q [(S, so'), (Q, qo')] → 0 ≤ r → r < most → Two S Q so' qo' (gl so' qo') gl → Q' (.int r t) { s with heap := h', toks := tk' }) :
    wpAny (model PySem.Challenge.rw_pq1317_01.row.prog w) A (call (.ref 191) [.ref S, .int most tm]) Q' E s := by
  refine wpAny_call (up hh hd hu hA (take_ok (amb_two U B F N X T hA hf hke) (Src.of hS (N _ U.split.1).1 (N _ U.split.2.1).1) h1 h2 fun h' tk' r t k s' a b => ?_))
  obtain ⟨so', qo', hS', e1, e2⟩ := s'.get
  exact ret r t h' tk' so' qo' (U.fr F N k) (U.news N k e1 e2) hS' a b (U.re so' qo')
end
end Mine
end TakeU

section Comp
open PySem PySem.Spec PySem.Calls PyProof.Rows PySem.W PyProof.V
namespace Mine
abbrev OffT (S Q : Addr) (tl : List (Addr × Obj)) : Prop := ∀ p ∈ tl, (@Ne Nat p.1 S) ∧ (@Ne Nat p.1 Q)

theorem Two.keys {S Q : Addr} {so qo : Obj} : ∀ {l : List (Addr × Obj)} {g : Obj → Obj → List (Addr × Obj)}, Two S Q so qo l g → ∀ a b a' b', (g a b).map (·.1) = (g a' b').map (·.1)
  | _, _, .head _, _, _, _, _ => rfl
  | _, _, .tail _ _ t, a, b, a', b' => by simp only [List.map_cons, t.keys a b a' b']
theorem Two.self {S Q : Addr} {so qo : Obj} : ∀ {l : List (Addr × Obj)} {g : Obj → Obj → List (Addr × Obj)}, Two S Q so qo l g → l = g so qo
  | _, _, .head _ => rfl
  | _, _, .tail _ _ t => congrArg _ t.self
theorem off3_keys {I C D : Addr} : ∀ {l l' : List (Addr × Obj)}, l.map (·.1) = l'.map (·.1) → LCg.Off3 I C D l → LCg.Off3 I C D l'
  | [], [], _, _ => trivial
  | p :: l, q :: l', e, x => by
    have e' := List.cons.inj (by simpa only [List.map_cons] using e)
    exact ⟨by rw [← e'.1]; exact x.1, off3_keys e'.2 x.2⟩
  | [], _ :: _, e, _ => by simp at e
  | _ :: _, [], e, _ => by simp at e
theorem off3_app {I C D : Addr} : ∀ {l l' : List (Addr × Obj)}, LCg.Off3 I C D (l ++ l') ↔ LCg.Off3 I C D l ∧ LCg.Off3 I C D l'
  | [], _ => ⟨fun h => ⟨trivial, h⟩, fun h => h.2⟩
  | _ :: _, _ => ⟨fun h => ⟨⟨h.1, (off3_app.mp h.2).1⟩, (off3_app.mp h.2).2⟩, fun h => ⟨h.1.1, off3_app.mpr ⟨h.1.2, h.2⟩⟩⟩

theorem Two.keepm {S Q : Addr} {so qo : Obj} {p : Addr × Obj} (h1 : (@Ne Nat p.1 S)) (h2 : (@Ne Nat p.1 Q)) : ∀ {l : List (Addr × Obj)} {g : Obj → Obj → List (Addr × Obj)}, Two S Q so qo l g → p ∈ l → ∀ a b, p ∈ g a b
  | _, _, .head _, hp, _, _ => by
    rcases List.mem_cons.mp hp with rfl | hp
    · exact absurd rfl h1
    · rcases List.mem_cons.mp hp with rfl | hp
      · exact absurd rfl h2
      · exact .tail _ (.tail _ hp)
  | _, _, .tail _ _ t, hp, a, b => by
    rcases List.mem_cons.mp hp with rfl | hp
    · exact .head _
    · exact .tail _ (t.keepm h1 h2 hp a b)

theorem OffT.app {S Q : Addr} {a b : List (Addr × Obj)} (x : OffT S Q a) (y : OffT S Q b) : OffT S Q (a ++ b) := fun p hp => by
  rcases List.mem_append.mp hp with hp | hp
  · exact x p hp
  · exact y p hp
theorem Two.app {S Q : Addr} {so qo : Obj} {tl : List (Addr × Obj)} (h : OffT S Q tl) : ∀ {l : List (Addr × Obj)} {g : Obj → Obj → List (Addr × Obj)}, Two S Q so qo l g → Two S Q so qo (l ++ tl) fun a b => g a b ++ tl
  | _, _, .head k => .head (OffT.app k h)
  | _, _, .tail a b t => .tail a b (t.app h)
theorem Two.pre {S Q : Addr} {so qo : Obj} {l : List (Addr × Obj)} {g : Obj → Obj → List (Addr × Obj)} (t : Two S Q so qo l g) : ∀ {tl : List (Addr × Obj)}, OffT S Q tl → Two S Q so qo (tl ++ l) fun a b => tl ++ g a b
  | [], _ => t
  | p :: r, h => .tail (h p (.head _)).1 (h p (.head _)).2 (t.pre fun q hq => h q (.tail _ hq))
theorem off1_mem {D : Addr} : ∀ {l : List (Addr × Obj)}, LCg.Off1 D l → ∀ p ∈ l, (@Ne Nat p.1 D)
  | [], _, _, h => nomatch h
  | _ :: _, x, p, h => by
    rcases List.mem_cons.mp h with rfl | h
    · exact x.1
    · exact off1_mem x.2 p h
theorem two_fin {S Q D : Addr} {a b oD : Obj} {l tl : List (Addr × Obj)} {g : Obj → Obj → List (Addr × Obj)} (t : Two S Q a b l g) (h : OffT S Q tl) (o : LCg.Off1 D (l ++ tl)) : Two S Q a b ((D, oD) :: (l ++ tl)) fun a b => (D, oD) :: (g a b ++ tl) := by
  have z := t.split
  have o' := off1_mem o
  exact .tail (Ne.symm (o' _ (List.mem_append.mpr (.inl z.1)))) (Ne.symm (o' _ (List.mem_append.mpr (.inl z.2.1)))) (t.app h)
theorem two_step {S Q I C D : Addr} {a b oI oC oD : Obj} {l tl : List (Addr × Obj)} {g : Obj → Obj → List (Addr × Obj)} (t : Two S Q a b l g) (h : OffT S Q tl) (o : LCg.Off3 I C D (l ++ tl)) : Two S Q a b ((I, oI) :: (C, oC) :: (D, oD) :: (l ++ tl)) fun a b => (I, oI) :: (C, oC) :: (D, oD) :: (g a b ++ tl) := by
  have z := t.split
  have o1 := o.mem _ (List.mem_append.mpr (.inl z.1))
  have o2 := o.mem _ (List.mem_append.mpr (.inl z.2.1))
  exact .tail (Ne.symm o1.1) (Ne.symm o2.1) (.tail (Ne.symm o1.2.1) (Ne.symm o2.2.1) (.tail (Ne.symm o1.2.2) (Ne.symm o2.2.2) (t.app h)))

section
variable {prog : Program} {w : World} {A : Around} {h₀ : Heap} {L : Addr} {m : Str → Option Value} {env : Env} {elt : PySem.Expr} {x : Str} {scope : Scope} {cl : List (Str × Addr)} {s₁ : Shared} {S Q : Addr} {so qo : Obj} {news : List (Addr × Obj)} {gl : Obj → Obj → List (Addr × Obj)}
  {Fin : Shared → List Value → List (Addr × Obj) → Prop}

/-- the invariant of a block that draws -/
def DrawI (S Q : Addr) (gl : Obj → Obj → List (Addr × Obj)) (J : Nat → List Value → List (Addr × Obj) → Prop) (i : Nat) (ys : List Value) (news : List (Addr × Obj)) : Prop :=
  ∃ so qo tl, news = gl so qo ++ tl ∧ SrcMu S Q [(S, so), (Q, qo)] ∧ OffT S Q tl ∧ J i ys tl

theorem comp_end {s₀ : Shared} {I C D : Addr} {oI oC oD a b a₀ b₀ : Obj} {h' : Heap} {tk : Nat} {tl new : List (Addr × Obj)} {SS : List (Addr × Obj) → Prop} {rest : Value → List (Addr × Obj) → Prop} {y : Value} (U : Two S Q so qo news gl)
    (F : Fr h₀ L h' m) (N : News h₀ L h' (new ++ ((I, oI) :: (C, oC) :: (D, oD) :: (gl a b ++ tl)))) (off : LCg.Off3 I C D (gl a₀ b₀ ++ tl)) (offn : LCg.Off3 I C D new) (hS : SS (gl a b ++ (new ++ tl))) (hJ : rest y (gl a b ++ (new ++ tl))) :
    LCg.CompEnd h₀ L m s₀ I oI C oC D oD SS rest y { s₀ with heap := h', toks := tk } := by
  refine LCg.CompEnd.intro F N (gl a b ++ (new ++ tl)) (fun p hp => ?_) ?_ hS hJ
  · rcases List.mem_cons.mp hp with rfl | hp
    · exact List.mem_append.mpr (.inr (.head _))
    · rcases List.mem_cons.mp hp with rfl | hp
      · exact List.mem_append.mpr (.inr (.tail _ (.head _)))
      · rcases List.mem_cons.mp hp with rfl | hp
        · exact List.mem_append.mpr (.inr (.tail _ (.tail _ (.head _))))
        · rcases List.mem_append.mp hp with hp | hp
          · exact List.mem_append.mpr (.inr (.tail _ (.tail _ (.tail _ (List.mem_append.mpr (.inl hp))))))
          · rcases List.mem_append.mp hp with hp | hp
            · exact List.mem_append.mpr (.inl hp)
            · exact List.mem_append.mpr (.inr (.tail _ (.tail _ (.tail _ (List.mem_append.mpr (.inr hp))))))
  · have z := off3_app.mp off
    exact off3_app.mpr ⟨off3_keys (U.keys a₀ b₀ a b) z.1, off3_app.mpr ⟨offn, z.2⟩⟩

abbrev StepI (prog : Program) (w : World) (A : Around) (h₀ : Heap) (L : Addr) (m : Str → Option Value) (env : Env) (elt : PySem.Expr) (x : Str) (scope : Scope) (cl : List (Str × Addr)) (s : Shared) (P : Nat → Value → Prop) (S Q : Addr) (gl : Obj → Obj → List (Addr × Obj)) (J : Nat → List Value → List (Addr × Obj) → Prop) (n : Nat) : Prop :=
  ∀ i v ys so qo tl I oI C oC D m₂ h tk (E' : Value → Shared → Prop) (Q' : Value → Shared → Prop), i < n → P i v → SrcMu S Q [(S, so), (Q, qo)] → OffT S Q tl → J i ys tl → LCg.NsObj oC m₂ → m₂ x = some v → Fr h₀ L h m → News h₀ L h ((I, oI) :: (C, oC) :: (D, LCg.lst ys) :: (gl so qo ++ tl)) →
    Two S Q so qo ((I, oI) :: (C, oC) :: (D, LCg.lst ys) :: (gl so qo ++ tl)) (fun a b => (I, oI) :: (C, oC) :: (D, LCg.lst ys) :: (gl a b ++ tl)) →
    (∀ h' tk' so' qo' new y, Fr h₀ L h' m → News h₀ L h' (new ++ ((I, oI) :: (C, oC) :: (D, LCg.lst ys) :: (gl so' qo' ++ tl))) → LCg.Off3 I C D new → OffT S Q new → SrcMu S Q [(S, so'), (Q, qo')] → J (i + 1) (ys ++ [y]) (new ++ tl) → Q' y { s with heap := h', toks := tk' }) →
    wpAny (model prog w) A (eval elt (compEnvC scope cl C env)) Q' E' { s with heap := h, toks := tk }

theorem comp_rest {s : Shared} {SS : List (Addr × Obj) → Prop} {P : Nat → Value → Prop} {n : Nat} {F₁ : List Value → List (Addr × Obj) → Prop} (U : Two S Q so qo news gl) (hS : SrcMu S Q [(S, so), (Q, qo)]) (J : Nat → List Value → List (Addr × Obj) → Prop) (j0 : J 0 [] [])
    (hSS : ∀ a b tl, SS (gl a b ++ tl)) (step : StepI prog w A h₀ L m env elt x scope cl s P S Q gl J n) (fin : ∀ ys so qo tl, SrcMu S Q [(S, so), (Q, qo)] → OffT S Q tl → J n ys tl → Two S Q so qo (gl so qo) gl → F₁ ys (gl so qo ++ tl)) :
    LCg.CompRest prog w A h₀ L m env elt x scope cl s SS P F₁ n 0 [] news := by
  refine rest_ind (n := n) (DrawI S Q gl J) ?_ ?_ n 0 [] news (Nat.zero_add _) ⟨so, qo, [], by rw [List.append_nil]; exact U.self, hS, (fun _ h => nomatch h), j0⟩
  · rintro i ys news' v I oI C oC D m₂ h tk E' hi ⟨so', qo', tl, rfl, a, b, c⟩ hp hC hx F N off ne
    refine step i v ys so' qo' tl I oI C oC D m₂ h tk E' _ hi hp a b c hC hx F N (two_step (U.re so' qo') b off) ?_
    intro h' tk' so2 qo2 new y F' N' o1 o2 h2 j'
    refine comp_end U F' N' off o1 (hSS _ _ _) ⟨so2, qo2, new ++ tl, rfl, h2, fun p hp => ?_, j'⟩
    rcases List.mem_append.mp hp with hp | hp
    · exact o2 p hp
    · exact b p hp
  · rintro ys news' ⟨so', qo', tl, rfl, a, b, c⟩
    exact fin ys so' qo' tl a b c (U.re so' qo')

theorem comp_ledger {ax : Addr} {its : Array Value} {k : Nat} (U : Two S Q so qo news gl) (hS : SrcMu S Q [(S, so), (Q, qo)]) (J : Nat → List Value → List (Addr × Obj) → Prop) (hh : A.handled = none) (F : Fr h₀ L s₁.heap m) (N : News h₀ L s₁.heap news)
    (hm : (ax, ({ cls := .type "list", data := .seq its k } : Obj)) ∈ news) (n1 : (@Ne Nat ax S)) (n2 : (@Ne Nat ax Q)) (hsz : its.size ≤ sizeLine) (j0 : J 0 [] [])
    (step : ∀ g, StepI prog w A h₀ L m env elt x scope cl { s₁ with heap := g } (fun i v => its[i]? = some v) S Q gl J its.size)
    (fin : ∀ g ys so qo tl, SrcMu S Q [(S, so), (Q, qo)] → OffT S Q tl → J its.size ys tl → Two S Q so qo (gl so qo) gl → Fin { s₁ with heap := g } ys (gl so qo ++ tl)) : LCg.CompSrc prog w A h₀ L m env elt x scope cl Fin (.ref ax) s₁ :=
  LCg.CompSrc.ledger hh F N hm hsz fun g => comp_rest U hS J j0 (fun a b _ => .inr ⟨_, List.mem_append.mpr (.inl (U.keepm n1 n2 hm a b)), rfl, _, rfl⟩) (step g) (fin g)
theorem comp_base {ax : Addr} {its : Array Value} (U : Two S Q so qo news gl) (hS : SrcMu S Q [(S, so), (Q, qo)]) (J : Nat → List Value → List (Addr × Obj) → Prop) (hh : A.handled = none) (F : Fr h₀ L s₁.heap m) (N : News h₀ L s₁.heap news)
    (hm : h₀.IsList ax its) (hsz : its.size ≤ sizeLine) (j0 : J 0 [] [])
    (step : ∀ g, StepI prog w A h₀ L m env elt x scope cl { s₁ with heap := g } (fun i v => its[i]? = some v) S Q gl J its.size)
    (fin : ∀ g ys so qo tl, SrcMu S Q [(S, so), (Q, qo)] → OffT S Q tl → J its.size ys tl → Two S Q so qo (gl so qo) gl → Fin { s₁ with heap := g } ys (gl so qo ++ tl)) : LCg.CompSrc prog w A h₀ L m env elt x scope cl Fin (.ref ax) s₁ :=
  LCg.CompSrc.base hh F N hm hsz fun g => comp_rest U hS J j0 (fun _ _ _ => .inl hm) (step g) (fin g)
theorem comp_range {r : Addr} {t u v : Tok} {d : Int} (U : Two S Q so qo news gl) (hS : SrcMu S Q [(S, so), (Q, qo)]) (J : Nat → List Value → List (Addr × Obj) → Prop) (hh : A.handled = none) (F : Fr h₀ L s₁.heap m) (N : News h₀ L s₁.heap news)
    (hr : IsRange s₁.heap r 0 d 1 t u v) (hd : 0 ≤ d) (hn : d ≤ 1000) (j0 : J 0 [] [])
    (step : ∀ g, StepI prog w A h₀ L m env elt x scope cl { s₁ with heap := g } (fun i v => ∃ t, v = .int (0 + (i : Int)) t) S Q gl J d.toNat)
    (fin : ∀ g ys so qo tl, SrcMu S Q [(S, so), (Q, qo)] → OffT S Q tl → J d.toNat ys tl → Two S Q so qo (gl so qo) gl → Fin { s₁ with heap := g } ys (gl so qo ++ tl)) : LCg.CompSrc prog w A h₀ L m env elt x scope cl Fin (.ref r) s₁ := by
  obtain ⟨n, rfl⟩ := Int.eq_ofNat_of_zero_le hd
  have hsz : Builtin.Range.rangeSize 0 (n : Int) 1 = ((n : Nat) : Int) := by
    unfold Builtin.Range.rangeSize; simp
    try omega
  have hsm : Builtin.Range.small 0 (n : Int) 1 = true := by
    unfold Builtin.Range.small
    rw [hsz]
    unfold Builtin.Range.rangeFitsLong
    simp
    omega
  exact LCg.CompSrc.range hh F N hr hsm hsz (by rw [sizeLine_eq]; omega) fun g => comp_rest U hS J j0 (fun _ _ _ => trivial) (step g) (fin g)
end
end Mine
end Comp

section TreeU
open PySem PySem.Spec PySem.Calls PyProof.Rows PySem.W PyProof.V
namespace Mine
/-- made since h -/
abbrev New (h h' : Heap) : Addr → Obj → Prop := fun a o => h.get? a = none ∧ h'.get? a = some o
abbrev OnL (tl : List (Addr × Obj)) : Addr → Obj → Prop := fun a o => (a, o) ∈ tl
structure TreeC (w : World) (n : Nat) : Prop where
  run : ∀ {mean : ExcName → Option Value} {mg mb : Str → Option Value} {A A₁ : Around} {base : Heap} {outs : List Env} {s : Shared} {RR : Result → Shared → Prop} {S Q : Addr} {t : Tok},
    A.handled = none → A.depth ≤ 800 - 10 * n → A.units ≤ 8000 - 100 * n → A.frames = some outs → Amb w mean mg mb A₁ base outs (hideAll s.heap [S, Q]) → Src s.heap S Q →
    (∀ h' tk' r T, Kept [S, Q] s.heap h' → Src h' S Q → Wf 1 n T → TIn (New s.heap h') n r T → RR (.ok (.ret r)) { s with heap := h', toks := tk' }) →
    codeAny (model PySem.Challenge.rw_pq1317_01.row.prog w) A (.call (.ref 196) ⟨[.ref S, .int (n : Int) t], []⟩) RR s

theorem new_tl {h₀ h h' : Heap} {L : Addr} {m : Str → Option Value} (F : Fr h₀ L h m) : ∃ tl : List (Addr × Obj), News h₀ L h' tl ∧ (∀ p ∈ tl, h.get? p.1 = none) ∧ ∀ a o, New h h' a o → (a, o) ∈ tl := by
  let f : Nat → Option (Addr × Obj) := fun i => if (h.get? i).isNone then (h'.get? i).map fun o => (i, o) else none
  have hf : ∀ i p, f i = some p → h.get? p.1 = none ∧ h'.get? p.1 = some p.2 := fun i p hi => by
    dsimp only [f] at hi
    split at hi
    · rename_i q
      obtain ⟨o, e, rfl⟩ := Option.map_eq_some_iff.mp hi
      exact ⟨Option.isNone_iff_eq_none.mp q, e⟩
    · cases hi
  refine ⟨(List.range h'.objs.size).filterMap f, fun p hp => ?_, fun p hp => ?_, fun a o e => ?_⟩
  · obtain ⟨i, _, hi⟩ := List.mem_filterMap.mp hp
    obtain ⟨e1, e2⟩ := hf i p hi
    refine ⟨e2, fun q => ?_, ?_⟩
    · obtain ⟨o, es, ep, e, _⟩ := F.ns
      rw [q, e] at e1; cases e1
    · cases q : h₀.get? p.1 with
      | none => rfl
      | some o => have := F.keep _ _ q; rw [e1] at this; cases this
  · obtain ⟨i, _, hi⟩ := List.mem_filterMap.mp hp
    exact (hf i p hi).1
  · refine List.mem_filterMap.mpr ⟨a, List.mem_range.mpr (Heap.lt_size e.2), ?_⟩
    dsimp only [f]
    rw [e.1, e.2]; rfl
theorem new_ne {h₀ h : Heap} {L : Addr} {news tl : List (Addr × Obj)} (N : News h₀ L h news) (ht : ∀ p ∈ tl, h.get? p.1 = none) {a : Addr} {o : Obj} (hm : (a, o) ∈ news) : ∀ p ∈ tl, (@Ne Nat p.1 a) := fun p hp q => by
  have z := (N _ hm).1
  have y := ht p hp
  rw [q] at y
  dsimp only at z
  rw [y] at z; cases z
theorem off3_new {h₀ h : Heap} {L I C D : Addr} {oI oC oD : Obj} {news tl : List (Addr × Obj)} (N : News h₀ L h ((I, oI) :: (C, oC) :: (D, oD) :: news)) (ht : ∀ p ∈ tl, h.get? p.1 = none) : LCg.Off3 I C D tl :=
  LCg.Off3.of fun p hp => ⟨new_ne N ht (.head _) p hp, new_ne N ht (.tail _ (.head _)) p hp, new_ne N ht (.tail _ (.tail _ (.head _))) p hp⟩
theorem offT_new {h₀ h : Heap} {L S Q : Addr} {so qo : Obj} {news tl : List (Addr × Obj)} {gl : Obj → Obj → List (Addr × Obj)} (U : Two S Q so qo news gl) (N : News h₀ L h news) (ht : ∀ p ∈ tl, h.get? p.1 = none) : OffT S Q tl :=
  fun p hp => ⟨new_ne N ht U.split.1 p hp, new_ne N ht U.split.2.1 p hp⟩
theorem TIn.all {P P' : Addr → Obj → Prop} (h : ∀ a o, P a o → P' a o) {n : Nat} {vs : List Value} {ks : List Tr} (x : All2 (TIn P n) vs ks) : All2 (TIn P' n) vs ks := x.mono fun _ _ y => y.mono h
theorem AtT.all {P P' : Addr → Obj → Prop} (h : ∀ a o, P a o → P' a o) {vs : List Value} {ks : List (Str × Int)} (x : All2 (AtT P) vs ks) : All2 (AtT P') vs ks := x.mono fun _ _ y => y.mono h

section
variable {w : World} {mean : ExcName → Option Value} {mg mb : Str → Option Value} {A₀ A : Around} {base h₀ : Heap} {outer : List Env} {L : Addr} {m : Str → Option Value} {env : Env} {news : List (Addr × Obj)} {s : Shared} {E : Value → Shared → Prop} {Q' : Value → Shared → Prop}
  {S Q : Addr} {so qo : Obj} {gl : Obj → Obj → List (Addr × Obj)}
theorem tree_use {n : Nat} {d : Int} {t : Tok} (C : TreeC w n) (e : d = (n : Int)) (N : News h₀ L s.heap news) (hS : SrcMu S Q [(S, so), (Q, qo)]) (U : Two S Q so qo news gl)
    (B : Below A₀ base outer h₀) (F : Fr h₀ L s.heap m) (X : (hd.heap_39 w.params).In h₀) (T : Tp mean mg mb h₀) (hA : A.frames = some (env :: outer)) (hf : env.frame = some L) (hke : env.scope.kind = .function)
    (hh : A.handled = none) (hd : A.depth ≤ 800 - 10 * n) (hu : A.units ≤ 8000 - 100 * n)
    (ret : ∀ r V tl h' tk' so' qo', Fr h₀ L h' m → News h₀ L h' (tl ++ gl so' qo') → SrcMu S Q [(S, so'), (Q, qo')] → (∀ p ∈ tl, ∀ q ∈ news, (@Ne Nat p.1 q.1)) → Wf 1 n V → TIn (OnL tl) n r V → OffT S Q tl → Two S Q so' qo' (tl ++ gl so' qo') (fun a b => tl ++ gl a b) → Q' r { s with heap := h', toks := tk' }) :
    wpAny (model PySem.Challenge.rw_pq1317_01.row.prog w) A (call (.ref 196) [.ref S, .int d t]) Q' E s := by
  subst e
  refine wpAny_call (C.run hh hd hu hA (amb_two U B F N X T hA hf hke) (Src.of hS (N _ U.split.1).1 (N _ U.split.2.1).1) fun h' tk' r V k s' a b => ?_)
  obtain ⟨so', qo', hS', e1, e2⟩ := s'.get
  obtain ⟨tl, N', hn, ht⟩ := new_tl (h' := h') F
  exact ret r V tl h' tk' so' qo' (U.fr F N k) (fun p hp => by
    rcases List.mem_append.mp hp with hp | hp
    · exact N' p hp
    · exact U.news N k e1 e2 p hp) hS' (fun p hp q hq => new_ne N hn hq p hp) a (b.mono ht) (offT_new U N hn) ((U.re so' qo').pre (offT_new U N hn))
end

/-- the end of a body that draws -/
theorem tree_fin {g h h' : Heap} {L : Addr} {m : Str → Option Value} {news : List (Addr × Obj)} {S Q : Addr} {so qo so' qo' : Obj} {gl : Obj → Obj → List (Addr × Obj)} {n : Nat} {r : Value} {V : Tr} (hg : g = hid h [(S, so'), (Q, qo')])
    (F : Fr g L h' m) (N : News g L h' news) (U : Two S Q so qo news gl) (hS : SrcMu S Q [(S, so), (Q, qo)])
    (x : TIn (fun a o => (a, o) ∈ news ∧ (@Ne Nat a S) ∧ (@Ne Nat a Q)) n r V) : Kept [S, Q] h h' ∧ Src h' S Q ∧ TIn (New h h') n r V := by
  subst hg
  refine ⟨kept_of F, Src.of hS (N _ U.split.1).1 (N _ U.split.2.1).1, x.mono fun a o hm => ⟨?_, (N _ hm.1).1⟩⟩
  have z := (N _ hm.1).2.2
  dsimp only at z
  cases q : h.get? a with
  | none => rfl
  | some o' =>
    rw [hideAll_get _ q (fun k => by
      rcases List.mem_cons.mp k with k | k
      · exact hm.2.1 k
      · exact hm.2.2 (List.mem_singleton.mp k))] at z
    cases z
end Mine
end TreeU

section Tree
open PySem PySem.Spec PySem.Calls PyProof.Rows PySem.W PyProof.V
namespace Mine
theorem item_kind {prog : Program} {w : World} {A : Around} {E : Value → Shared → Prop} {s : Shared} {value slice : PySem.Expr} {h₀ : Heap} {L l : Addr} {news : List (Addr × Obj)} {n : Nat} {i : Int} {u t1 t2 t3 : Tok} {Q : Value → Shared → Prop}
    (N : News h₀ L s.heap news) (hm : (l, listOf #[.str ("integer" : Str) t1, .str ("character" : Str) t2, .str ("logical" : Str) t3] n) ∈ news) (h0 : 0 ≤ i) (h1 : i < 3) (h : ∀ k t, okKind k → Q (.str k t) s)
    (hs : subscripted slice false (.ref l) (.int i u) = operate [.ref l, .int i u] (getItem (.ref l) (.int i u)) := by with_unfolding_all rfl) (hg : ∀ r, letTemporaryGo value (.ref l) r = pure () := by intro _; with_unfolding_all rfl) :
    wpAny (model prog w) A (subscriptTail value slice (.ref l) (.int i u)) Q E s := by
  have hl : s.heap.IsList l #[.str ("integer" : Str) t1, .str ("character" : Str) t2, .str ("logical" : Str) t3] := ⟨_, (N _ hm).1, rfl, _, rfl⟩
  obtain rfl | rfl | rfl : i = 0 ∨ i = 1 ∨ i = 2 := by omega
  · exact item_listL (k := 0) hl (by omega) (by omega) rfl (h _ _ (.inl rfl)) hs hg
  · exact item_listL (k := 1) hl (by omega) (by omega) rfl (h _ _ (.inr (.inl rfl))) hs hg
  · exact item_listL (k := 2) hl (by omega) (by omega) rfl (h _ _ (.inr (.inr rfl))) hs hg
theorem item_tag {prog : Program} {w : World} {A : Around} {E : Value → Shared → Prop} {s : Shared} {value slice : PySem.Expr} {h₀ : Heap} {L l : Addr} {news : List (Addr × Obj)} {n : Nat} {i : Int} {u t2 t3 : Tok} {Q : Value → Shared → Prop}
    (N : News h₀ L s.heap news) (hm : (l, listOf #[.none, .str ("x" : Str) t2, .str ("y" : Str) t3] n) ∈ news) (h0 : 0 ≤ i) (h1 : i < 3) (h : ∀ x v, okTag x → x ≠ some ("z" : Str) → Carried v (tagD x) → Q v s)
    (hs : subscripted slice false (.ref l) (.int i u) = operate [.ref l, .int i u] (getItem (.ref l) (.int i u)) := by with_unfolding_all rfl) (hg : ∀ r, letTemporaryGo value (.ref l) r = pure () := by intro _; with_unfolding_all rfl) :
    wpAny (model prog w) A (subscriptTail value slice (.ref l) (.int i u)) Q E s := by
  have hl : s.heap.IsList l #[.none, .str ("x" : Str) t2, .str ("y" : Str) t3] := ⟨_, (N _ hm).1, rfl, _, rfl⟩
  obtain rfl | rfl | rfl : i = 0 ∨ i = 1 ∨ i = 2 := by omega
  · exact item_listL (k := 0) hl (by omega) (by omega) rfl (h none _ (.inl rfl) (by decide +kernel) .none) hs hg
  · exact item_listL (k := 1) hl (by omega) (by omega) rfl (h (some ("x" : Str)) _ (.inr (.inl rfl)) (by decide +kernel) (.str _ _)) hs hg
  · exact item_listL (k := 2) hl (by omega) (by omega) rfl (h (some ("y" : Str)) _ (.inr (.inr (.inl rfl))) (by decide +kernel) (.str _ _)) hs hg
noncomputable abbrev twoNames : List Str := [("names" : Str), ("mine" : Str)]
theorem pick_two {a b : Value} {r : Int} (h0 : 0 ≤ r) (h1 : r < 3) : ∃ k, k ≤ 2 ∧ slicePick #[a, b] none (some r) none = ([a, b].take k).toArray := by
  obtain rfl | rfl | rfl : r = 0 ∨ r = 1 ∨ r = 2 := by omega
  · exact ⟨0, by omega, rfl⟩
  · exact ⟨1, by omega, rfl⟩
  · exact ⟨2, by omega, rfl⟩
theorem pick_at {t t' : Tok} {k i : Nat} {v : Value} (h : ([Value.str ("names" : Str) t, Value.str ("mine" : Str) t'].take k).toArray[i]? = some v) : ∃ x u, v = .str x u ∧ twoNames.take (i + 1) = twoNames.take i ++ [x] := by
  rw [List.getElem?_toArray, List.getElem?_take] at h
  split at h
  · match i, h with
    | 0, h => cases h; exact ⟨_, _, rfl, rfl⟩
    | 1, h => cases h; exact ⟨_, _, rfl, rfl⟩
    | i + 2, h => cases h
  · cases h
theorem pick_size {a b : Value} {k : Nat} : ([a, b].take k).toArray.size ≤ sizeLine := by
  rw [sizeLine_eq, List.size_toArray, List.length_take]
  exact Nat.le_trans (Nat.min_le_right _ _) (by show 2 ≤ 16777216; omega)
def AtJ (i : Nat) (ys : List Value) (tl : List (Addr × Obj)) : Prop := ∃ as, All2 (AtT (OnL tl)) ys as ∧ as.map (·.1) = twoNames.take i
theorem AtJ.ok {i : Nat} {ys : List Value} {tl : List (Addr × Obj)} (x : AtJ i ys tl) : ∃ as, All2 (AtT (OnL tl)) ys as ∧ okAts 1 as ∧ ys.length ≤ 1000 := by
  obtain ⟨as, h1, h2⟩ := x
  have hl : as.length ≤ 2 := by
    have := congrArg List.length h2
    rw [List.length_map, List.length_take] at this
    rw [this]; exact Nat.min_le_right _ _
  have hm : ∀ p ∈ as, p.1 = ("names" : Str) ∨ p.1 = ("mine" : Str) := fun p hp => by
    have z : p.1 ∈ twoNames.take i := h2 ▸ List.mem_map_of_mem hp
    have := List.mem_of_mem_take z
    simpa using this
  refine ⟨as, h1, ⟨?_, by omega, fun _ p hp e => ?_, fun p hp e => ?_, fun p hp => ?_⟩, by rw [h1.length]; omega⟩
  · rw [h2]
    exact (List.take_sublist i twoNames).nodup (by decide +kernel)
  · rcases hm p hp with q | q <;> rw [q] at e <;> exact absurd e (by decide +kernel)
  · rcases hm p hp with q | q <;> rw [q] at e <;> exact absurd e (by decide +kernel)
  · rcases hm p hp with q | q <;> rw [q] <;> decide +kernel
theorem AtJ.snoc {i : Nat} {ys : List Value} {tl : List (Addr × Obj)} (x : AtJ i ys tl) {q : Addr} {y : Str} {t t' : Tok} {v : Int} {k : Nat} (hy : twoNames.take (i + 1) = twoNames.take i ++ [y]) : AtJ (i + 1) (ys ++ [.ref q]) ([(q, tupObj [.str y t, .int v t'] k)] ++ tl) := by
  obtain ⟨as, h1, h2⟩ := x
  refine ⟨as ++ [(y, v)], (AtT.all (fun _ _ h => List.mem_append.mpr (.inr h)) h1).append (.cons ⟨_, _, _, _, rfl, .head _⟩ .nil), ?_⟩
  rw [List.map_append, h2, hy]; rfl






local macro_rules | `(tactic| lcg_sub) => `(tactic| first | (refine List.forall_mem_cons.mpr ⟨by k_mem, by lcg_sub⟩) | (intro p hp; repeat (first | exact hp | exact List.mem_append_left _ hp | exact List.mem_append_right _ hp | refine List.mem_cons_of_mem _ ?_)))


def BitJ (i : Nat) (ys : List Value) (_ : List (Addr × Obj)) : Prop := ∃ ns : List Int, IntsAre ys ns ∧ (∀ x ∈ ns, x = 0 ∨ x = 1) ∧ ns.length = i
theorem IntsAre.snoc {x : Int} {t : Tok} : ∀ {ys : List Value} {ns : List Int}, IntsAre ys ns → IntsAre (ys ++ [.int x t]) (ns ++ [x])
  | _, _, .nil => .cons _ _ .nil
  | _, _, .cons _ _ r => .cons _ _ (IntsAre.snoc r)
theorem BitJ.snoc {i : Nat} {ys : List Value} {tl tl' : List (Addr × Obj)} (j : BitJ i ys tl) {x : Int} {t : Tok} (h0 : 0 ≤ x) (h1 : x < 2) : BitJ (i + 1) (ys ++ [.int x t]) tl' := by
  obtain ⟨ns, a, b, c⟩ := j
  refine ⟨ns ++ [x], IntsAre.snoc a, fun y hy => ?_, by rw [List.length_append, c]; rfl⟩
  rcases List.mem_append.mp hy with hy | hy
  · exact b y hy
  · obtain rfl := List.mem_singleton.mp hy; omega
theorem ints_len : ∀ {ys : List Value} {ns : List Int}, IntsAre ys ns → ys.length = ns.length
  | _, _, .nil => rfl
  | _, _, .cons _ _ r => by rw [List.length_cons, List.length_cons, ints_len r]
def KidJ (n : Nat) (i : Nat) (ys : List Value) (tl : List (Addr × Obj)) : Prop := ∃ Ts, All2 (TIn (OnL tl) n) ys Ts ∧ (∀ T ∈ Ts, Wf 1 n T) ∧ Ts.length = i
theorem KidJ.snoc {n i : Nat} {ys : List Value} {tl new : List (Addr × Obj)} (j : KidJ n i ys tl) {v : Value} {T : Tr} (h0 : Wf 1 n T) (h1 : TIn (OnL new) n v T) : KidJ n (i + 1) (ys ++ [v]) (new ++ tl) := by
  obtain ⟨Ts, a, b, c⟩ := j
  refine ⟨Ts ++ [T], (TIn.all (fun _ _ h => List.mem_append.mpr (.inr h)) a).append (.cons (h1.mono fun _ _ h => List.mem_append.mpr (.inl h)) .nil), fun y hy => ?_, by rw [List.length_append, c]; rfl⟩
  rcases List.mem_append.mp hy with hy | hy
  · exact b y hy
  · obtain rfl := List.mem_singleton.mp hy; exact h0
def TagJ (i : Nat) (ys : List Value) (_ : List (Addr × Obj)) : Prop := ∃ ts, CarriedAll ys (List.map tagD ts) ∧ (∀ x ∈ ts, okTag x ∧ x ≠ some ("z" : Str)) ∧ ts.length = i
theorem CarriedAll.snoc {v : Value} {d : PyData} (h : Carried v d) : ∀ {ys : List Value} {ns : List PyData}, CarriedAll ys ns → CarriedAll (ys ++ [v]) (ns ++ [d])
  | _, _, .nil => .cons h .nil
  | _, _, .cons x r => .cons x (CarriedAll.snoc h r)
theorem TagJ.snoc {i : Nat} {ys : List Value} {tl tl' : List (Addr × Obj)} (j : TagJ i ys tl) {v : Value} {x : Option Str} (h0 : okTag x) (h1 : x ≠ some ("z" : Str)) (h2 : Carried v (tagD x)) : TagJ (i + 1) (ys ++ [v]) tl' := by
  obtain ⟨ts, a, b, c⟩ := j
  refine ⟨ts ++ [x], by rw [List.map_append]; exact CarriedAll.snoc h2 a, fun y hy => ?_, by rw [List.length_append, c]; rfl⟩
  rcases List.mem_append.mp hy with hy | hy
  · exact b y hy
  · obtain rfl := List.mem_singleton.mp hy; exact ⟨h0, h1⟩

theorem pick_le (a : Array Value) (lo hi : Option Int) : (slicePick a lo hi none).size ≤ a.size := by
  rw [kms_pick_eq]
  unfold kms_pick
  rw [List.size_toArray, List.length_take, List.length_drop, Array.length_toList]
  exact Nat.le_trans (Nat.min_le_right _ _) (Nat.sub_le _ _)
/-- after the attributes -/
def AtJoin (g : Heap) (L : Addr) (m : Str → Option Value) (p1 p2 : Addr × Obj) (S Q : Addr) (s : Shared) (fl : Flow) (s' : Shared) : Prop :=
  fl = .next ∧ ∃ h' tk' so qo ad us ats tl, s' = { s with heap := h', toks := tk' } ∧ Fr g L h' (fun z => if z = ("attrs" : Str) then some (.ref ad) else m z) ∧ News g L h' ((ad, LCg.lst us) :: p1 :: p2 :: (S, so) :: (Q, qo) :: tl) ∧
    Two S Q so qo ((ad, LCg.lst us) :: p1 :: p2 :: (S, so) :: (Q, qo) :: tl) (fun a b => (ad, LCg.lst us) :: p1 :: p2 :: (S, a) :: (Q, b) :: tl) ∧ SrcMu S Q [(S, so), (Q, qo)] ∧ OffT S Q tl ∧ All2 (AtT (OnL tl)) us ats ∧ okAts 1 ats ∧ us.length ≤ 1000 ∧ (@Ne Nat ad S) ∧ (@Ne Nat ad Q)
theorem at_join {M : Model} {A : Around} {X : Sem Flow} {Q' : Flow → Shared → Prop} {E : Value → Shared → Prop} {g : Heap} {L : Addr} {m : Str → Option Value} {p0 p1 p2 : Addr × Obj} {S Q : Addr} {so qo : Obj} {s : Shared} {av : Value}
    (_F : Fr g L s.heap (fun z => if z = ("attrs" : Str) then some av else m z)) (_N : News g L s.heap [p0, p1, p2, (S, so), (Q, qo)]) (h1 : wpAny M A X (AtJoin g L m p1 p2 S Q s) E s)
    (h2 : ∀ h' tk' so qo ad us ats tl, Fr g L h' (fun z => if z = ("attrs" : Str) then some (.ref ad) else m z) → News g L h' ((ad, LCg.lst us) :: p1 :: p2 :: (S, so) :: (Q, qo) :: tl) →
      Two S Q so qo ((ad, LCg.lst us) :: p1 :: p2 :: (S, so) :: (Q, qo) :: tl) (fun a b => (ad, LCg.lst us) :: p1 :: p2 :: (S, a) :: (Q, b) :: tl) → SrcMu S Q [(S, so), (Q, qo)] → OffT S Q tl → All2 (AtT (OnL tl)) us ats → okAts 1 ats → us.length ≤ 1000 → (@Ne Nat ad S) → (@Ne Nat ad Q) → Q' .next { s with heap := h', toks := tk' }) :
    wpAny M A X Q' E s := wpAny_mono h1 (fun _ _ h => by
      obtain ⟨rfl, h', tk', so, qo, ad, us, ats, tl, rfl, a, b, c, d, e, f, g, i, j⟩ := h
      exact h2 h' tk' so qo ad us ats tl a b c d e f g i j.1 j.2) fun _ _ e => e
theorem fr_over {g h : Heap} {L : Addr} {x : Str} {v v' : Option Value} {m : Str → Option Value} (F : Fr g L h (fun z => if z = x then v else if z = x then v' else m z)) : Fr g L h (fun z => if z = x then v else m z) := by
  have e : (fun z => if z = x then v else if z = x then v' else m z) = fun z => if z = x then v else m z := by
    funext z
    by_cases q : z = x <;> simp [q]
  rwa [e] at F
theorem draw_join {M : Model} {A : Around} {X : Sem Value} {Q' : Value → Shared → Prop} {E : Value → Shared → Prop} {s : Shared} {P : Int → Prop} (h1 : wpAny M A X (fun v s' => ∃ d t tk', v = .int d t ∧ s' = { s with toks := tk' } ∧ P d) E s)
    (h2 : ∀ d t tk', P d → Q' (.int d t) { s with toks := tk' }) : wpAny M A X Q' E s := wpAny_mono h1 (fun _ _ ⟨_, _, _, a, b, c⟩ => by subst a b; exact h2 _ _ _ c) fun _ _ e => e

set_option maxHeartbeats 8000000 in
theorem tree_step {w : World} {n : Nat} (hn : n ≤ 5) (IH : ∀ m, n = m + 1 → TreeC w m) : TreeC w n := by
  constructor
  intro mean mg mb A A₁ base outs s RR S Q t hh hd hu hA Y hS ret
  refine up hh hd hu hA ?_
  obtain ⟨so, qo, hS, eS, eQ⟩ := hS.get
  have hm : ∀ p ∈ [(S, so), (Q, qo)], s.heap.get? p.1 = some p.2 := fun p hp => by
    rcases List.mem_cons.mp hp with rfl | hp
    · exact eS
    · obtain rfl := List.mem_singleton.mp hp; exact eQ
  have key : Amb w mean mg mb (AA (800 - 10 * n) (8000 - 100 * n) outs) base outs (hid s.heap [(S, so), (Q, qo)]) := ⟨⟨rfl, Y.B.stays, Y.B.frames⟩, Y.X, Y.T⟩
  clear hA hh hd hu Y
  have KX := key.X
  revert KX
  k_fill
  intro KX
  refine' enterC (binds := [("source", .ref S), ("deep", .int (n : Int) t)]) key hm ?k6 ?k7 ?k8 ?k9 ?kB ?kD ?_ ?c2 ?c3 ?c4
  case k6 => k_is
  case k7 => k_is
  case k8 => exact Nat.lt_of_le_of_lt (Nat.sub_le _ _) (Nat.le_of_ble_eq_true rfl)
  case k9 => exact BindsTo.of_eq rfl
  case kB => exact rfl
  case kD => decide +kernel
  case c2 => exact rfl
  case c3 => exact rfl
  case c4 => exact rfl
  intro g' L' h' tk' cells' hg F' N' Y' B' X' T' l1
  k_lt l1
  k_cells Y'
  (try simp only [List.cons_append, List.nil_append] at N')
  (try dsimp only)
  clear KX key
  have fin : ∀ h' m' news gl so qo tk r V, Fr g' L' h' m' → News g' L' h' news → Two S Q so qo news gl → SrcMu S Q [(S, so), (Q, qo)] → Wf 1 n V → TIn (fun a o => (a, o) ∈ news ∧ (@Ne Nat a S) ∧ (@Ne Nat a Q)) n r V → RR (.ok (.ret r)) { s with heap := h', toks := tk } :=
    fun h' m' news gl so qo tk r V F N U hS W x => let z := tree_fin hg F N U hS x; ret _ _ _ _ z.1 z.2.1 W z.2.2
  clear hg ret hm eS eQ
  (try k_fold)
  (repeat' (first | (k_unfold; (try dsimp only)) | (k_end; wrow_close) | ((fail_if_success (with_reducible show wpAny _ _ (exec (Stmt.For _ _ _ _ _) _) _ _ _)); (fail_if_success (with_reducible show wpAny _ _ (exec (Stmt.If _ _ _ _) _) _ _ _)); (fail_if_success (with_reducible show wpAny _ _ (eval (Expr.IfExp _ _ _ _) _) _ _ _)); (fail_if_success (with_reducible show wpAny _ _ (pyIter _) _ _ _)); (fail_if_success (with_reducible show wpAny _ _ (eval (Expr.ListComp _ _ _ _) _) _ _ _)); (fail_if_success (with_reducible show wpAny _ _ (exec (Stmt.Assign _ (Expr.ListComp _ _ _ _) _) _) _ _ _)); (fail_if_success (with_reducible show LCg.CompSrc _ _ _ _ _ _ _ _ _ _ _ _ _ _)); (fail_if_success (with_reducible show LCg.CompEnd _ _ _ _ _ _ _ _ _ _ _ _ _ _)); first | ((with_reducible show wpAny _ _ (call (Value.ref 196) [_, _]) _ _ _); refine' tree_use (by assumption) (by omega) (by k_asm) (by assumption) (by repeat' (first | ((with_reducible show Two _ _ _ _ _ _); first | assumption | (refine' Two.head ?_) | (refine' Two.tail ?_ ?_ ?_)) | k_ne | assumption | (refine' OffT.app ?_ ?_) | exact List.forall_mem_nil _ | fail)) (by k_asm) (by k_asm) (by k_asm) (by k_asm) (by exact rfl) (by exact rfl) (by exact rfl) (by exact rfl) (by dsimp only [Around.deeper]; omega) (by dsimp only [Around.deeper]; omega) ?_; intro rv rV tlk hh1 tk1 so1 qo1 F' N' hS1 hnew rW rT oTk U1; (try dsimp only at N' U1); (try k_sweep)) | ((with_reducible show wpAny _ _ (call (Value.ref 191) [_, _]) _ _ _); refine' take_use (by k_asm) (by assumption) (by repeat' (first | ((with_reducible show Two _ _ _ _ _ _); first | assumption | (refine' Two.head ?_) | (refine' Two.tail ?_ ?_ ?_)) | k_ne | assumption | (refine' OffT.app ?_ ?_) | exact List.forall_mem_nil _ | fail)) (by first | assumption | decide | omega) (by first | assumption | decide | omega) (by k_asm) (by k_asm) (by k_asm) (by k_asm) (by exact rfl) (by exact rfl) (by exact rfl) (by exact rfl) (by dsimp only [Around.deeper]; omega) (by dsimp only [Around.deeper]; omega) ?_; intro rr tt hh1 tk1 so1 qo1 F' N' hS1 rr0 rr1 U1; (try dsimp only at N' U1); (try k_sweep)) | ((with_reducible show wpAny _ _ (subscriptTail _ _ (Value.ref _) _) _ _ _); first | (refine' item_kind (by k_asm) (by k_mem) (by first | assumption | omega) (by first | assumption | omega) ?_; intro kk kt kk0) | (refine' item_tag (by k_asm) (by k_mem) (by first | assumption | omega) (by first | assumption | omega) ?_; intro tx tv tk0 tk1 tk2)) | walk1 | (dsimp only; walk1) | (leave1; try dsimp only))))
  refine draw_join (P := fun d => 1 ≤ d ∧ d < 1000 ∧ d ≤ 7 ∧ (n = 0 → d ≤ 5)) ?_ ?_
  focus (
    walk1
    (repeat' (first | (k_unfold; (try dsimp only)) | (k_end; wrow_close) | ((fail_if_success (with_reducible show wpAny _ _ (exec (Stmt.For _ _ _ _ _) _) _ _ _)); (fail_if_success (with_reducible show wpAny _ _ (exec (Stmt.If _ _ _ _) _) _ _ _)); (fail_if_success (with_reducible show wpAny _ _ (eval (Expr.IfExp _ _ _ _) _) _ _ _)); (fail_if_success (with_reducible show wpAny _ _ (pyIter _) _ _ _)); (fail_if_success (with_reducible show wpAny _ _ (eval (Expr.ListComp _ _ _ _) _) _ _ _)); (fail_if_success (with_reducible show wpAny _ _ (exec (Stmt.Assign _ (Expr.ListComp _ _ _ _) _) _) _ _ _)); (fail_if_success (with_reducible show LCg.CompSrc _ _ _ _ _ _ _ _ _ _ _ _ _ _)); (fail_if_success (with_reducible show LCg.CompEnd _ _ _ _ _ _ _ _ _ _ _ _ _ _)); first | ((with_reducible show wpAny _ _ (call (Value.ref 196) [_, _]) _ _ _); refine' tree_use (by assumption) (by omega) (by k_asm) (by assumption) (by repeat' (first | ((with_reducible show Two _ _ _ _ _ _); first | assumption | (refine' Two.head ?_) | (refine' Two.tail ?_ ?_ ?_)) | k_ne | assumption | (refine' OffT.app ?_ ?_) | exact List.forall_mem_nil _ | fail)) (by k_asm) (by k_asm) (by k_asm) (by k_asm) (by exact rfl) (by exact rfl) (by exact rfl) (by exact rfl) (by dsimp only [Around.deeper]; omega) (by dsimp only [Around.deeper]; omega) ?_; intro rv rV tlk hh1 tk1 so1 qo1 F' N' hS1 hnew rW rT oTk U1; (try dsimp only at N' U1); (try k_sweep)) | ((with_reducible show wpAny _ _ (call (Value.ref 191) [_, _]) _ _ _); refine' take_use (by k_asm) (by assumption) (by repeat' (first | ((with_reducible show Two _ _ _ _ _ _); first | assumption | (refine' Two.head ?_) | (refine' Two.tail ?_ ?_ ?_)) | k_ne | assumption | (refine' OffT.app ?_ ?_) | exact List.forall_mem_nil _ | fail)) (by first | assumption | decide | omega) (by first | assumption | decide | omega) (by k_asm) (by k_asm) (by k_asm) (by k_asm) (by exact rfl) (by exact rfl) (by exact rfl) (by exact rfl) (by dsimp only [Around.deeper]; omega) (by dsimp only [Around.deeper]; omega) ?_; intro rr tt hh1 tk1 so1 qo1 F' N' hS1 rr0 rr1 U1; (try dsimp only at N' U1); (try k_sweep)) | ((with_reducible show wpAny _ _ (subscriptTail _ _ (Value.ref _) _) _ _ _); first | (refine' item_kind (by k_asm) (by k_mem) (by first | assumption | omega) (by first | assumption | omega) ?_; intro kk kt kk0) | (refine' item_tag (by k_asm) (by k_mem) (by first | assumption | omega) (by first | assumption | omega) ?_; intro tx tv tk0 tk1 tk2)) | walk1 | (dsimp only; walk1) | (leave1; try dsimp only))))
    all_goals first | exact ⟨_, _, _, rfl, rfl, by omega, by omega, by omega, by omega⟩ | skip)
  intro dd dt dk ⟨dd1, dd2, dd3, dd4⟩
  (repeat' (first | (k_unfold; (try dsimp only)) | (k_end; wrow_close) | ((fail_if_success (with_reducible show wpAny _ _ (exec (Stmt.For _ _ _ _ _) _) _ _ _)); (fail_if_success (with_reducible show wpAny _ _ (exec (Stmt.If _ _ _ _) _) _ _ _)); (fail_if_success (with_reducible show wpAny _ _ (eval (Expr.IfExp _ _ _ _) _) _ _ _)); (fail_if_success (with_reducible show wpAny _ _ (pyIter _) _ _ _)); (fail_if_success (with_reducible show wpAny _ _ (eval (Expr.ListComp _ _ _ _) _) _ _ _)); (fail_if_success (with_reducible show wpAny _ _ (exec (Stmt.Assign _ (Expr.ListComp _ _ _ _) _) _) _ _ _)); (fail_if_success (with_reducible show LCg.CompSrc _ _ _ _ _ _ _ _ _ _ _ _ _ _)); (fail_if_success (with_reducible show LCg.CompEnd _ _ _ _ _ _ _ _ _ _ _ _ _ _)); first | ((with_reducible show wpAny _ _ (call (Value.ref 196) [_, _]) _ _ _); refine' tree_use (by assumption) (by omega) (by k_asm) (by assumption) (by repeat' (first | ((with_reducible show Two _ _ _ _ _ _); first | assumption | (refine' Two.head ?_) | (refine' Two.tail ?_ ?_ ?_)) | k_ne | assumption | (refine' OffT.app ?_ ?_) | exact List.forall_mem_nil _ | fail)) (by k_asm) (by k_asm) (by k_asm) (by k_asm) (by exact rfl) (by exact rfl) (by exact rfl) (by exact rfl) (by dsimp only [Around.deeper]; omega) (by dsimp only [Around.deeper]; omega) ?_; intro rv rV tlk hh1 tk1 so1 qo1 F' N' hS1 hnew rW rT oTk U1; (try dsimp only at N' U1); (try k_sweep)) | ((with_reducible show wpAny _ _ (call (Value.ref 191) [_, _]) _ _ _); refine' take_use (by k_asm) (by assumption) (by repeat' (first | ((with_reducible show Two _ _ _ _ _ _); first | assumption | (refine' Two.head ?_) | (refine' Two.tail ?_ ?_ ?_)) | k_ne | assumption | (refine' OffT.app ?_ ?_) | exact List.forall_mem_nil _ | fail)) (by first | assumption | decide | omega) (by first | assumption | decide | omega) (by k_asm) (by k_asm) (by k_asm) (by k_asm) (by exact rfl) (by exact rfl) (by exact rfl) (by exact rfl) (by dsimp only [Around.deeper]; omega) (by dsimp only [Around.deeper]; omega) ?_; intro rr tt hh1 tk1 so1 qo1 F' N' hS1 rr0 rr1 U1; (try dsimp only at N' U1); (try k_sweep)) | ((with_reducible show wpAny _ _ (subscriptTail _ _ (Value.ref _) _) _ _ _); first | (refine' item_kind (by k_asm) (by k_mem) (by first | assumption | omega) (by first | assumption | omega) ?_; intro kk kt kk0) | (refine' item_tag (by k_asm) (by k_mem) (by first | assumption | omega) (by first | assumption | omega) ?_; intro tx tv tk0 tk1 tk2)) | walk1 | (dsimp only; walk1) | (leave1; try dsimp only))))
  refine at_join (by k_asm) (by k_asm) ?_ ?_
  focus (
    walk1
    (repeat' (first | (k_unfold; (try dsimp only)) | (k_end; wrow_close) | ((fail_if_success (with_reducible show wpAny _ _ (exec (Stmt.For _ _ _ _ _) _) _ _ _)); (fail_if_success (with_reducible show wpAny _ _ (exec (Stmt.If _ _ _ _) _) _ _ _)); (fail_if_success (with_reducible show wpAny _ _ (eval (Expr.IfExp _ _ _ _) _) _ _ _)); (fail_if_success (with_reducible show wpAny _ _ (pyIter _) _ _ _)); (fail_if_success (with_reducible show wpAny _ _ (eval (Expr.ListComp _ _ _ _) _) _ _ _)); (fail_if_success (with_reducible show wpAny _ _ (exec (Stmt.Assign _ (Expr.ListComp _ _ _ _) _) _) _ _ _)); (fail_if_success (with_reducible show LCg.CompSrc _ _ _ _ _ _ _ _ _ _ _ _ _ _)); (fail_if_success (with_reducible show LCg.CompEnd _ _ _ _ _ _ _ _ _ _ _ _ _ _)); first | ((with_reducible show wpAny _ _ (call (Value.ref 196) [_, _]) _ _ _); refine' tree_use (by assumption) (by omega) (by k_asm) (by assumption) (by repeat' (first | ((with_reducible show Two _ _ _ _ _ _); first | assumption | (refine' Two.head ?_) | (refine' Two.tail ?_ ?_ ?_)) | k_ne | assumption | (refine' OffT.app ?_ ?_) | exact List.forall_mem_nil _ | fail)) (by k_asm) (by k_asm) (by k_asm) (by k_asm) (by exact rfl) (by exact rfl) (by exact rfl) (by exact rfl) (by dsimp only [Around.deeper]; omega) (by dsimp only [Around.deeper]; omega) ?_; intro rv rV tlk hh1 tk1 so1 qo1 F' N' hS1 hnew rW rT oTk U1; (try dsimp only at N' U1); (try k_sweep)) | ((with_reducible show wpAny _ _ (call (Value.ref 191) [_, _]) _ _ _); refine' take_use (by k_asm) (by assumption) (by repeat' (first | ((with_reducible show Two _ _ _ _ _ _); first | assumption | (refine' Two.head ?_) | (refine' Two.tail ?_ ?_ ?_)) | k_ne | assumption | (refine' OffT.app ?_ ?_) | exact List.forall_mem_nil _ | fail)) (by first | assumption | decide | omega) (by first | assumption | decide | omega) (by k_asm) (by k_asm) (by k_asm) (by k_asm) (by exact rfl) (by exact rfl) (by exact rfl) (by exact rfl) (by dsimp only [Around.deeper]; omega) (by dsimp only [Around.deeper]; omega) ?_; intro rr tt hh1 tk1 so1 qo1 F' N' hS1 rr0 rr1 U1; (try dsimp only at N' U1); (try k_sweep)) | ((with_reducible show wpAny _ _ (subscriptTail _ _ (Value.ref _) _) _ _ _); first | (refine' item_kind (by k_asm) (by k_mem) (by first | assumption | omega) (by first | assumption | omega) ?_; intro kk kt kk0) | (refine' item_tag (by k_asm) (by k_mem) (by first | assumption | omega) (by first | assumption | omega) ?_; intro tx tv tk0 tk1 tk2)) | walk1 | (dsimp only; walk1) | (leave1; try dsimp only))))
    all_goals first
      | exact ⟨rfl, _, _, _, _, _, [], [], [], rfl, by k_asm, by k_asm, (by (repeat' (first | ((with_reducible show Two _ _ _ _ _ _); first | assumption | (refine' Two.head ?_) | (refine' Two.tail ?_ ?_ ?_)) | k_ne | assumption | (refine' OffT.app ?_ ?_) | exact List.forall_mem_nil _ | fail))), by assumption, (fun _ h => nomatch h), .nil, ⟨List.nodup_nil, Nat.zero_le _, (fun _ _ h => nomatch h), (fun _ h => nomatch h), (fun _ h => nomatch h)⟩, Nat.zero_le _, by k_ne, by k_ne⟩
      | (refine LCg.Assign_ListComp_U (F₀ := by k_asm) (by rfl) (by with_unfolding_all rfl) (by with_unfolding_all rfl) (by decide) (by rfl) (by decide) (by rfl) (by rfl) (by rfl) ?_
         (repeat' (first | (k_unfold; (try dsimp only)) | (k_end; wrow_close) | ((fail_if_success (with_reducible show wpAny _ _ (exec (Stmt.For _ _ _ _ _) _) _ _ _)); (fail_if_success (with_reducible show wpAny _ _ (exec (Stmt.If _ _ _ _) _) _ _ _)); (fail_if_success (with_reducible show wpAny _ _ (eval (Expr.IfExp _ _ _ _) _) _ _ _)); (fail_if_success (with_reducible show wpAny _ _ (pyIter _) _ _ _)); (fail_if_success (with_reducible show wpAny _ _ (eval (Expr.ListComp _ _ _ _) _) _ _ _)); (fail_if_success (with_reducible show wpAny _ _ (exec (Stmt.Assign _ (Expr.ListComp _ _ _ _) _) _) _ _ _)); (fail_if_success (with_reducible show LCg.CompSrc _ _ _ _ _ _ _ _ _ _ _ _ _ _)); (fail_if_success (with_reducible show LCg.CompEnd _ _ _ _ _ _ _ _ _ _ _ _ _ _)); first | ((with_reducible show wpAny _ _ (call (Value.ref 196) [_, _]) _ _ _); refine' tree_use (by assumption) (by omega) (by k_asm) (by assumption) (by repeat' (first | ((with_reducible show Two _ _ _ _ _ _); first | assumption | (refine' Two.head ?_) | (refine' Two.tail ?_ ?_ ?_)) | k_ne | assumption | (refine' OffT.app ?_ ?_) | exact List.forall_mem_nil _ | fail)) (by k_asm) (by k_asm) (by k_asm) (by k_asm) (by exact rfl) (by exact rfl) (by exact rfl) (by exact rfl) (by dsimp only [Around.deeper]; omega) (by dsimp only [Around.deeper]; omega) ?_; intro rv rV tlk hh1 tk1 so1 qo1 F' N' hS1 hnew rW rT oTk U1; (try dsimp only at N' U1); (try k_sweep)) | ((with_reducible show wpAny _ _ (call (Value.ref 191) [_, _]) _ _ _); refine' take_use (by k_asm) (by assumption) (by repeat' (first | ((with_reducible show Two _ _ _ _ _ _); first | assumption | (refine' Two.head ?_) | (refine' Two.tail ?_ ?_ ?_)) | k_ne | assumption | (refine' OffT.app ?_ ?_) | exact List.forall_mem_nil _ | fail)) (by first | assumption | decide | omega) (by first | assumption | decide | omega) (by k_asm) (by k_asm) (by k_asm) (by k_asm) (by exact rfl) (by exact rfl) (by exact rfl) (by exact rfl) (by dsimp only [Around.deeper]; omega) (by dsimp only [Around.deeper]; omega) ?_; intro rr tt hh1 tk1 so1 qo1 F' N' hS1 rr0 rr1 U1; (try dsimp only at N' U1); (try k_sweep)) | ((with_reducible show wpAny _ _ (subscriptTail _ _ (Value.ref _) _) _ _ _); first | (refine' item_kind (by k_asm) (by k_mem) (by first | assumption | omega) (by first | assumption | omega) ?_; intro kk kt kk0) | (refine' item_tag (by k_asm) (by k_mem) (by first | assumption | omega) (by first | assumption | omega) ?_; intro tx tv tk0 tk1 tk2)) | walk1 | (dsimp only; walk1) | (leave1; try dsimp only))))
         rename News _ _ _ _ => NN
         revert NN
         rename News _ _ _ _ => NO
         intro NN
         have zS : @LT.lt Nat instLTNat S _ := Heap.lt_size (NO (S, _) (by k_mem)).1
         have zQ : @LT.lt Nat instLTNat Q _ := Heap.lt_size (NO (Q, _) (by k_mem)).1
         dsimp only at NN zS zQ ⊢
         obtain ⟨k, hk, e1⟩ := pick_two (a := Value.str (Str.ofString "names") _) (b := Value.str (Str.ofString "mine") _) rr0 rr1
         rw [e1] at NN
         refine' comp_ledger (J := AtJ) ?z1 ?z2 ?z3 ?z4 ?z5 ?z6 ?za ?zb ?z7 ⟨[], .nil, rfl⟩ ?z8 ?z9
         case z3 => exact rfl
         case z5 => exact NN
         case z6 => exact List.Mem.head _
         case z4 => k_asm
         case z2 => assumption
         case z1 => (repeat' (first | ((with_reducible show Two _ _ _ _ _ _); first | assumption | (refine' Two.head ?_) | (refine' Two.tail ?_ ?_ ?_)) | k_ne | assumption | (refine' OffT.app ?_ ?_) | exact List.forall_mem_nil _ | fail))
         case za => k_ne
         case zb => k_ne
         case z7 => exact pick_size
         case z8 =>
           clear NN
           intro gg i v ys so2 qo2 tl I oI C oC D m2 h2 tk2 E2 Q2 hi hp hS2 oT jj hC hx F2 N2 U2 ender
           obtain ⟨x, u, rfl, hxx⟩ := pick_at hp
           (try simp only [List.cons_append, List.nil_append] at N2 U2)
           (repeat' (first | (k_unfold; (try dsimp only)) | (k_end; wrow_close) | ((fail_if_success (with_reducible show wpAny _ _ (exec (Stmt.For _ _ _ _ _) _) _ _ _)); (fail_if_success (with_reducible show wpAny _ _ (exec (Stmt.If _ _ _ _) _) _ _ _)); (fail_if_success (with_reducible show wpAny _ _ (eval (Expr.IfExp _ _ _ _) _) _ _ _)); (fail_if_success (with_reducible show wpAny _ _ (pyIter _) _ _ _)); (fail_if_success (with_reducible show wpAny _ _ (eval (Expr.ListComp _ _ _ _) _) _ _ _)); (fail_if_success (with_reducible show wpAny _ _ (exec (Stmt.Assign _ (Expr.ListComp _ _ _ _) _) _) _ _ _)); (fail_if_success (with_reducible show LCg.CompSrc _ _ _ _ _ _ _ _ _ _ _ _ _ _)); (fail_if_success (with_reducible show LCg.CompEnd _ _ _ _ _ _ _ _ _ _ _ _ _ _)); first | ((with_reducible show wpAny _ _ (call (Value.ref 196) [_, _]) _ _ _); refine' tree_use (by assumption) (by omega) (by k_asm) (by assumption) (by repeat' (first | ((with_reducible show Two _ _ _ _ _ _); first | assumption | (refine' Two.head ?_) | (refine' Two.tail ?_ ?_ ?_)) | k_ne | assumption | (refine' OffT.app ?_ ?_) | exact List.forall_mem_nil _ | fail)) (by k_asm) (by k_asm) (by k_asm) (by k_asm) (by exact rfl) (by exact rfl) (by exact rfl) (by exact rfl) (by dsimp only [Around.deeper]; omega) (by dsimp only [Around.deeper]; omega) ?_; intro rv rV tlk hh1 tk1 so1 qo1 F' N' hS1 hnew rW rT oTk U1; (try dsimp only at N' U1); (try k_sweep)) | ((with_reducible show wpAny _ _ (call (Value.ref 191) [_, _]) _ _ _); refine' take_use (by k_asm) (by assumption) (by repeat' (first | ((with_reducible show Two _ _ _ _ _ _); first | assumption | (refine' Two.head ?_) | (refine' Two.tail ?_ ?_ ?_)) | k_ne | assumption | (refine' OffT.app ?_ ?_) | exact List.forall_mem_nil _ | fail)) (by first | assumption | decide | omega) (by first | assumption | decide | omega) (by k_asm) (by k_asm) (by k_asm) (by k_asm) (by exact rfl) (by exact rfl) (by exact rfl) (by exact rfl) (by dsimp only [Around.deeper]; omega) (by dsimp only [Around.deeper]; omega) ?_; intro rr tt hh1 tk1 so1 qo1 F' N' hS1 rr0 rr1 U1; (try dsimp only at N' U1); (try k_sweep)) | ((with_reducible show wpAny _ _ (subscriptTail _ _ (Value.ref _) _) _ _ _); first | (refine' item_kind (by k_asm) (by k_mem) (by first | assumption | omega) (by first | assumption | omega) ?_; intro kk kt kk0) | (refine' item_tag (by k_asm) (by k_mem) (by first | assumption | omega) (by first | assumption | omega) ?_; intro tx tv tk0 tk1 tk2)) | walk1 | (dsimp only; walk1) | (leave1; try dsimp only))))
           exact ender _ _ _ _ [(_, _)] _ (by k_asm) (by k_asm) ⟨⟨by k_ne, by k_ne, by k_ne⟩, trivial⟩ (fun p hp => by obtain rfl := List.mem_singleton.mp hp; exact ⟨by k_ne, by k_ne⟩) (by assumption) (jj.snoc hxx)
         case z9 =>
           clear NN
           intro gg ys so2 qo2 tl hS2 oT jj U2 D2 h2 tk2 F2 N2 o2
           obtain ⟨ats, ja, jb, jc⟩ := jj.ok
           (try simp only [List.cons_append, List.nil_append] at N2 o2)
           have q1 : (@Ne Nat S D2) := off1_mem o2 (S, so2) (by k_mem)
           have q2 : (@Ne Nat Q D2) := off1_mem o2 (Q, qo2) (by k_mem)
           (try dsimp only)
           (repeat' (first | (k_unfold; (try dsimp only)) | (k_end; wrow_close) | ((fail_if_success (with_reducible show wpAny _ _ (exec (Stmt.For _ _ _ _ _) _) _ _ _)); (fail_if_success (with_reducible show wpAny _ _ (exec (Stmt.If _ _ _ _) _) _ _ _)); (fail_if_success (with_reducible show wpAny _ _ (eval (Expr.IfExp _ _ _ _) _) _ _ _)); (fail_if_success (with_reducible show wpAny _ _ (pyIter _) _ _ _)); (fail_if_success (with_reducible show wpAny _ _ (eval (Expr.ListComp _ _ _ _) _) _ _ _)); (fail_if_success (with_reducible show wpAny _ _ (exec (Stmt.Assign _ (Expr.ListComp _ _ _ _) _) _) _ _ _)); (fail_if_success (with_reducible show LCg.CompSrc _ _ _ _ _ _ _ _ _ _ _ _ _ _)); (fail_if_success (with_reducible show LCg.CompEnd _ _ _ _ _ _ _ _ _ _ _ _ _ _)); first | ((with_reducible show wpAny _ _ (call (Value.ref 196) [_, _]) _ _ _); refine' tree_use (by assumption) (by omega) (by k_asm) (by assumption) (by repeat' (first | ((with_reducible show Two _ _ _ _ _ _); first | assumption | (refine' Two.head ?_) | (refine' Two.tail ?_ ?_ ?_)) | k_ne | assumption | (refine' OffT.app ?_ ?_) | exact List.forall_mem_nil _ | fail)) (by k_asm) (by k_asm) (by k_asm) (by k_asm) (by exact rfl) (by exact rfl) (by exact rfl) (by exact rfl) (by dsimp only [Around.deeper]; omega) (by dsimp only [Around.deeper]; omega) ?_; intro rv rV tlk hh1 tk1 so1 qo1 F' N' hS1 hnew rW rT oTk U1; (try dsimp only at N' U1); (try k_sweep)) | ((with_reducible show wpAny _ _ (call (Value.ref 191) [_, _]) _ _ _); refine' take_use (by k_asm) (by assumption) (by repeat' (first | ((with_reducible show Two _ _ _ _ _ _); first | assumption | (refine' Two.head ?_) | (refine' Two.tail ?_ ?_ ?_)) | k_ne | assumption | (refine' OffT.app ?_ ?_) | exact List.forall_mem_nil _ | fail)) (by first | assumption | decide | omega) (by first | assumption | decide | omega) (by k_asm) (by k_asm) (by k_asm) (by k_asm) (by exact rfl) (by exact rfl) (by exact rfl) (by exact rfl) (by dsimp only [Around.deeper]; omega) (by dsimp only [Around.deeper]; omega) ?_; intro rr tt hh1 tk1 so1 qo1 F' N' hS1 rr0 rr1 U1; (try dsimp only at N' U1); (try k_sweep)) | ((with_reducible show wpAny _ _ (subscriptTail _ _ (Value.ref _) _) _ _ _); first | (refine' item_kind (by k_asm) (by k_mem) (by first | assumption | omega) (by first | assumption | omega) ?_; intro kk kt kk0) | (refine' item_tag (by k_asm) (by k_mem) (by first | assumption | omega) (by first | assumption | omega) ?_; intro tx tv tk0 tk1 tk2)) | walk1 | (dsimp only; walk1) | (leave1; try dsimp only))))
           exact ⟨rfl, _, _, so2, qo2, D2, ys, ats, tl, rfl, fr_over F2, fun p hp => N2 p ((by lcg_sub : ∀ p ∈ (D2, LCg.lst ys) :: _ :: _ :: (S, so2) :: (Q, qo2) :: tl, p ∈ _) p hp), by (repeat' (first | ((with_reducible show Two _ _ _ _ _ _); first | assumption | (refine' Two.head ?_) | (refine' Two.tail ?_ ?_ ?_)) | k_ne | assumption | (refine' OffT.app ?_ ?_) | exact List.forall_mem_nil _ | fail)), hS2, oT, ja, jb, jc, q1.symm, q2.symm⟩))
  intro h1 tk1 so1 qo1 ad us ats tl F1 N1 U1 hS1 oT ja jb jc q3 q4
  (try dsimp only)
  (try k_sweep)
  (try dsimp only)
  (repeat' (first | (k_unfold; (try dsimp only)) | (k_end; wrow_close) | ((fail_if_success (with_reducible show wpAny _ _ (exec (Stmt.For _ _ _ _ _) _) _ _ _)); (fail_if_success (with_reducible show wpAny _ _ (exec (Stmt.If _ _ _ _) _) _ _ _)); (fail_if_success (with_reducible show wpAny _ _ (eval (Expr.IfExp _ _ _ _) _) _ _ _)); (fail_if_success (with_reducible show wpAny _ _ (pyIter _) _ _ _)); (fail_if_success (with_reducible show wpAny _ _ (eval (Expr.ListComp _ _ _ _) _) _ _ _)); (fail_if_success (with_reducible show wpAny _ _ (exec (Stmt.Assign _ (Expr.ListComp _ _ _ _) _) _) _ _ _)); (fail_if_success (with_reducible show LCg.CompSrc _ _ _ _ _ _ _ _ _ _ _ _ _ _)); (fail_if_success (with_reducible show LCg.CompEnd _ _ _ _ _ _ _ _ _ _ _ _ _ _)); first | ((with_reducible show wpAny _ _ (call (Value.ref 196) [_, _]) _ _ _); refine' tree_use (by assumption) (by omega) (by k_asm) (by assumption) (by repeat' (first | ((with_reducible show Two _ _ _ _ _ _); first | assumption | (refine' Two.head ?_) | (refine' Two.tail ?_ ?_ ?_)) | k_ne | assumption | (refine' OffT.app ?_ ?_) | exact List.forall_mem_nil _ | fail)) (by k_asm) (by k_asm) (by k_asm) (by k_asm) (by exact rfl) (by exact rfl) (by exact rfl) (by exact rfl) (by dsimp only [Around.deeper]; omega) (by dsimp only [Around.deeper]; omega) ?_; intro rv rV tlk hh1 tk1 so1 qo1 F' N' hS1 hnew rW rT oTk U1; (try dsimp only at N' U1); (try k_sweep)) | ((with_reducible show wpAny _ _ (call (Value.ref 191) [_, _]) _ _ _); refine' take_use (by k_asm) (by assumption) (by repeat' (first | ((with_reducible show Two _ _ _ _ _ _); first | assumption | (refine' Two.head ?_) | (refine' Two.tail ?_ ?_ ?_)) | k_ne | assumption | (refine' OffT.app ?_ ?_) | exact List.forall_mem_nil _ | fail)) (by first | assumption | decide | omega) (by first | assumption | decide | omega) (by k_asm) (by k_asm) (by k_asm) (by k_asm) (by exact rfl) (by exact rfl) (by exact rfl) (by exact rfl) (by dsimp only [Around.deeper]; omega) (by dsimp only [Around.deeper]; omega) ?_; intro rr tt hh1 tk1 so1 qo1 F' N' hS1 rr0 rr1 U1; (try dsimp only at N' U1); (try k_sweep)) | ((with_reducible show wpAny _ _ (subscriptTail _ _ (Value.ref _) _) _ _ _); first | (refine' item_kind (by k_asm) (by k_mem) (by first | assumption | omega) (by first | assumption | omega) ?_; intro kk kt kk0) | (refine' item_tag (by k_asm) (by k_mem) (by first | assumption | omega) (by first | assumption | omega) ?_; intro tx tv tk0 tk1 tk2)) | walk1 | (dsimp only; walk1) | (leave1; try dsimp only))))
  walk1
  (repeat' (first | (k_unfold; (try dsimp only)) | (k_end; wrow_close) | ((fail_if_success (with_reducible show wpAny _ _ (exec (Stmt.For _ _ _ _ _) _) _ _ _)); (fail_if_success (with_reducible show wpAny _ _ (exec (Stmt.If _ _ _ _) _) _ _ _)); (fail_if_success (with_reducible show wpAny _ _ (eval (Expr.IfExp _ _ _ _) _) _ _ _)); (fail_if_success (with_reducible show wpAny _ _ (pyIter _) _ _ _)); (fail_if_success (with_reducible show wpAny _ _ (eval (Expr.ListComp _ _ _ _) _) _ _ _)); (fail_if_success (with_reducible show wpAny _ _ (exec (Stmt.Assign _ (Expr.ListComp _ _ _ _) _) _) _ _ _)); (fail_if_success (with_reducible show LCg.CompSrc _ _ _ _ _ _ _ _ _ _ _ _ _ _)); (fail_if_success (with_reducible show LCg.CompEnd _ _ _ _ _ _ _ _ _ _ _ _ _ _)); first | ((with_reducible show wpAny _ _ (call (Value.ref 196) [_, _]) _ _ _); refine' tree_use (by assumption) (by omega) (by k_asm) (by assumption) (by repeat' (first | ((with_reducible show Two _ _ _ _ _ _); first | assumption | (refine' Two.head ?_) | (refine' Two.tail ?_ ?_ ?_)) | k_ne | assumption | (refine' OffT.app ?_ ?_) | exact List.forall_mem_nil _ | fail)) (by k_asm) (by k_asm) (by k_asm) (by k_asm) (by exact rfl) (by exact rfl) (by exact rfl) (by exact rfl) (by dsimp only [Around.deeper]; omega) (by dsimp only [Around.deeper]; omega) ?_; intro rv rV tlk hh1 tk1 so1 qo1 F' N' hS1 hnew rW rT oTk U1; (try dsimp only at N' U1); (try k_sweep)) | ((with_reducible show wpAny _ _ (call (Value.ref 191) [_, _]) _ _ _); refine' take_use (by k_asm) (by assumption) (by repeat' (first | ((with_reducible show Two _ _ _ _ _ _); first | assumption | (refine' Two.head ?_) | (refine' Two.tail ?_ ?_ ?_)) | k_ne | assumption | (refine' OffT.app ?_ ?_) | exact List.forall_mem_nil _ | fail)) (by first | assumption | decide | omega) (by first | assumption | decide | omega) (by k_asm) (by k_asm) (by k_asm) (by k_asm) (by exact rfl) (by exact rfl) (by exact rfl) (by exact rfl) (by dsimp only [Around.deeper]; omega) (by dsimp only [Around.deeper]; omega) ?_; intro rr tt hh1 tk1 so1 qo1 F' N' hS1 rr0 rr1 U1; (try dsimp only at N' U1); (try k_sweep)) | ((with_reducible show wpAny _ _ (subscriptTail _ _ (Value.ref _) _) _ _ _); first | (refine' item_kind (by k_asm) (by k_mem) (by first | assumption | omega) (by first | assumption | omega) ?_; intro kk kt kk0) | (refine' item_tag (by k_asm) (by k_mem) (by first | assumption | omega) (by first | assumption | omega) ?_; intro tx tv tk0 tk1 tk2)) | walk1 | (dsimp only; walk1) | (leave1; try dsimp only))))
  rotate_left 1
  focus (
    walk1
    (repeat' (first | (k_unfold; (try dsimp only)) | (k_end; wrow_close) | ((fail_if_success (with_reducible show wpAny _ _ (exec (Stmt.For _ _ _ _ _) _) _ _ _)); (fail_if_success (with_reducible show wpAny _ _ (exec (Stmt.If _ _ _ _) _) _ _ _)); (fail_if_success (with_reducible show wpAny _ _ (eval (Expr.IfExp _ _ _ _) _) _ _ _)); (fail_if_success (with_reducible show wpAny _ _ (pyIter _) _ _ _)); (fail_if_success (with_reducible show wpAny _ _ (eval (Expr.ListComp _ _ _ _) _) _ _ _)); (fail_if_success (with_reducible show wpAny _ _ (exec (Stmt.Assign _ (Expr.ListComp _ _ _ _) _) _) _ _ _)); (fail_if_success (with_reducible show LCg.CompSrc _ _ _ _ _ _ _ _ _ _ _ _ _ _)); (fail_if_success (with_reducible show LCg.CompEnd _ _ _ _ _ _ _ _ _ _ _ _ _ _)); first | ((with_reducible show wpAny _ _ (call (Value.ref 196) [_, _]) _ _ _); refine' tree_use (by assumption) (by omega) (by k_asm) (by assumption) (by repeat' (first | ((with_reducible show Two _ _ _ _ _ _); first | assumption | (refine' Two.head ?_) | (refine' Two.tail ?_ ?_ ?_)) | k_ne | assumption | (refine' OffT.app ?_ ?_) | exact List.forall_mem_nil _ | fail)) (by k_asm) (by k_asm) (by k_asm) (by k_asm) (by exact rfl) (by exact rfl) (by exact rfl) (by exact rfl) (by dsimp only [Around.deeper]; omega) (by dsimp only [Around.deeper]; omega) ?_; intro rv rV tlk hh1 tk1 so1 qo1 F' N' hS1 hnew rW rT oTk U1; (try dsimp only at N' U1); (try k_sweep)) | ((with_reducible show wpAny _ _ (call (Value.ref 191) [_, _]) _ _ _); refine' take_use (by k_asm) (by assumption) (by repeat' (first | ((with_reducible show Two _ _ _ _ _ _); first | assumption | (refine' Two.head ?_) | (refine' Two.tail ?_ ?_ ?_)) | k_ne | assumption | (refine' OffT.app ?_ ?_) | exact List.forall_mem_nil _ | fail)) (by first | assumption | decide | omega) (by first | assumption | decide | omega) (by k_asm) (by k_asm) (by k_asm) (by k_asm) (by exact rfl) (by exact rfl) (by exact rfl) (by exact rfl) (by dsimp only [Around.deeper]; omega) (by dsimp only [Around.deeper]; omega) ?_; intro rr tt hh1 tk1 so1 qo1 F' N' hS1 rr0 rr1 U1; (try dsimp only at N' U1); (try k_sweep)) | ((with_reducible show wpAny _ _ (subscriptTail _ _ (Value.ref _) _) _ _ _); first | (refine' item_kind (by k_asm) (by k_mem) (by first | assumption | omega) (by first | assumption | omega) ?_; intro kk kt kk0) | (refine' item_tag (by k_asm) (by k_mem) (by first | assumption | omega) (by first | assumption | omega) ?_; intro tx tv tk0 tk1 tk2)) | walk1 | (dsimp only; walk1) | (leave1; try dsimp only))))
    focus (
      refine' fin _ _ _ _ _ _ _ _ (.name _) ?e1a ?e2a ?e3a ?e4a ?e5a ?e6a
      case e2a => k_asm
      case e1a => k_asm
      case e4a => assumption
      case e3a => (repeat' (first | ((with_reducible show Two _ _ _ _ _ _); first | assumption | (refine' Two.head ?_) | (refine' Two.tail ?_ ?_ ?_)) | k_ne | assumption | (refine' OffT.app ?_ ?_) | exact List.forall_mem_nil _ | fail))
      case e6a =>
        unfold TIn
        refine' ⟨_, _, _, ⟨_, _, _, rfl, ?n1a, ?n2a, ?n3a⟩, ⟨_, _, rfl, ⟨?m1a, ?m2a, ?m3a⟩, Nat.zero_le _⟩, ⟨_, _, rfl, ⟨?o1a, ?o2a, ?o3a⟩, Nat.zero_le _⟩⟩
        case n1a => k_mem
        case m1a => k_mem
        case o1a => k_mem
        all_goals k_ne
      case e5a =>
        unfold Wf
        refine Nat.le_trans (Nat.le_of_eq (by assumption)) ?_
        decide)
    walk1
    (repeat' (first | (k_unfold; (try dsimp only)) | (k_end; wrow_close) | ((fail_if_success (with_reducible show wpAny _ _ (exec (Stmt.For _ _ _ _ _) _) _ _ _)); (fail_if_success (with_reducible show wpAny _ _ (exec (Stmt.If _ _ _ _) _) _ _ _)); (fail_if_success (with_reducible show wpAny _ _ (eval (Expr.IfExp _ _ _ _) _) _ _ _)); (fail_if_success (with_reducible show wpAny _ _ (pyIter _) _ _ _)); (fail_if_success (with_reducible show wpAny _ _ (eval (Expr.ListComp _ _ _ _) _) _ _ _)); (fail_if_success (with_reducible show wpAny _ _ (exec (Stmt.Assign _ (Expr.ListComp _ _ _ _) _) _) _ _ _)); (fail_if_success (with_reducible show LCg.CompSrc _ _ _ _ _ _ _ _ _ _ _ _ _ _)); (fail_if_success (with_reducible show LCg.CompEnd _ _ _ _ _ _ _ _ _ _ _ _ _ _)); first | ((with_reducible show wpAny _ _ (call (Value.ref 196) [_, _]) _ _ _); refine' tree_use (by assumption) (by omega) (by k_asm) (by assumption) (by repeat' (first | ((with_reducible show Two _ _ _ _ _ _); first | assumption | (refine' Two.head ?_) | (refine' Two.tail ?_ ?_ ?_)) | k_ne | assumption | (refine' OffT.app ?_ ?_) | exact List.forall_mem_nil _ | fail)) (by k_asm) (by k_asm) (by k_asm) (by k_asm) (by exact rfl) (by exact rfl) (by exact rfl) (by exact rfl) (by dsimp only [Around.deeper]; omega) (by dsimp only [Around.deeper]; omega) ?_; intro rv rV tlk hh1 tk1 so1 qo1 F' N' hS1 hnew rW rT oTk U1; (try dsimp only at N' U1); (try k_sweep)) | ((with_reducible show wpAny _ _ (call (Value.ref 191) [_, _]) _ _ _); refine' take_use (by k_asm) (by assumption) (by repeat' (first | ((with_reducible show Two _ _ _ _ _ _); first | assumption | (refine' Two.head ?_) | (refine' Two.tail ?_ ?_ ?_)) | k_ne | assumption | (refine' OffT.app ?_ ?_) | exact List.forall_mem_nil _ | fail)) (by first | assumption | decide | omega) (by first | assumption | decide | omega) (by k_asm) (by k_asm) (by k_asm) (by k_asm) (by exact rfl) (by exact rfl) (by exact rfl) (by exact rfl) (by dsimp only [Around.deeper]; omega) (by dsimp only [Around.deeper]; omega) ?_; intro rr tt hh1 tk1 so1 qo1 F' N' hS1 rr0 rr1 U1; (try dsimp only at N' U1); (try k_sweep)) | ((with_reducible show wpAny _ _ (subscriptTail _ _ (Value.ref _) _) _ _ _); first | (refine' item_kind (by k_asm) (by k_mem) (by first | assumption | omega) (by first | assumption | omega) ?_; intro kk kt kk0) | (refine' item_tag (by k_asm) (by k_mem) (by first | assumption | omega) (by first | assumption | omega) ?_; intro tx tv tk0 tk1 tk2)) | walk1 | (dsimp only; walk1) | (leave1; try dsimp only))))
    focus (
      refine' fin _ _ _ _ _ _ _ _ .null ?e1b ?e2b ?e3b ?e4b ?e5b ?e6b
      case e2b => k_asm
      case e1b => k_asm
      case e4b => assumption
      case e3b => (repeat' (first | ((with_reducible show Two _ _ _ _ _ _); first | assumption | (refine' Two.head ?_) | (refine' Two.tail ?_ ?_ ?_)) | k_ne | assumption | (refine' OffT.app ?_ ?_) | exact List.forall_mem_nil _ | fail))
      case e5b => unfold Wf; trivial
      case e6b =>
        unfold TIn
        refine' ⟨_, _, _, ⟨_, _, _, rfl, ?n1b, ?n2b, ?n3b⟩, ⟨_, _, rfl, ⟨?m1b, ?m2b, ?m3b⟩, Nat.zero_le _⟩, ⟨_, _, rfl, ⟨?o1b, ?o2b, ?o3b⟩, Nat.zero_le _⟩⟩
        case n1b => k_mem
        case m1b => k_mem
        case o1b => k_mem
        all_goals k_ne)
    obtain ⟨mm, hmm⟩ : ∃ mm, n = mm + 1 := ⟨n - 1, by omega⟩
    have CC := IH mm hmm
    (try dsimp only)
    refine LCg.Assign_ListComp_U (F₀ := by k_asm) (by rfl) (by with_unfolding_all rfl) (by with_unfolding_all rfl) (by decide) (by rfl) (by decide) (by rfl) (by rfl) (by rfl) ?_
    (repeat' (first | (k_unfold; (try dsimp only)) | (k_end; wrow_close) | ((fail_if_success (with_reducible show wpAny _ _ (exec (Stmt.For _ _ _ _ _) _) _ _ _)); (fail_if_success (with_reducible show wpAny _ _ (exec (Stmt.If _ _ _ _) _) _ _ _)); (fail_if_success (with_reducible show wpAny _ _ (eval (Expr.IfExp _ _ _ _) _) _ _ _)); (fail_if_success (with_reducible show wpAny _ _ (pyIter _) _ _ _)); (fail_if_success (with_reducible show wpAny _ _ (eval (Expr.ListComp _ _ _ _) _) _ _ _)); (fail_if_success (with_reducible show wpAny _ _ (exec (Stmt.Assign _ (Expr.ListComp _ _ _ _) _) _) _ _ _)); (fail_if_success (with_reducible show LCg.CompSrc _ _ _ _ _ _ _ _ _ _ _ _ _ _)); (fail_if_success (with_reducible show LCg.CompEnd _ _ _ _ _ _ _ _ _ _ _ _ _ _)); first | ((with_reducible show wpAny _ _ (call (Value.ref 196) [_, _]) _ _ _); refine' tree_use (by assumption) (by omega) (by k_asm) (by assumption) (by repeat' (first | ((with_reducible show Two _ _ _ _ _ _); first | assumption | (refine' Two.head ?_) | (refine' Two.tail ?_ ?_ ?_)) | k_ne | assumption | (refine' OffT.app ?_ ?_) | exact List.forall_mem_nil _ | fail)) (by k_asm) (by k_asm) (by k_asm) (by k_asm) (by exact rfl) (by exact rfl) (by exact rfl) (by exact rfl) (by dsimp only [Around.deeper]; omega) (by dsimp only [Around.deeper]; omega) ?_; intro rv rV tlk hh1 tk1 so1 qo1 F' N' hS1 hnew rW rT oTk U1; (try dsimp only at N' U1); (try k_sweep)) | ((with_reducible show wpAny _ _ (call (Value.ref 191) [_, _]) _ _ _); refine' take_use (by k_asm) (by assumption) (by repeat' (first | ((with_reducible show Two _ _ _ _ _ _); first | assumption | (refine' Two.head ?_) | (refine' Two.tail ?_ ?_ ?_)) | k_ne | assumption | (refine' OffT.app ?_ ?_) | exact List.forall_mem_nil _ | fail)) (by first | assumption | decide | omega) (by first | assumption | decide | omega) (by k_asm) (by k_asm) (by k_asm) (by k_asm) (by exact rfl) (by exact rfl) (by exact rfl) (by exact rfl) (by dsimp only [Around.deeper]; omega) (by dsimp only [Around.deeper]; omega) ?_; intro rr tt hh1 tk1 so1 qo1 F' N' hS1 rr0 rr1 U1; (try dsimp only at N' U1); (try k_sweep)) | ((with_reducible show wpAny _ _ (subscriptTail _ _ (Value.ref _) _) _ _ _); first | (refine' item_kind (by k_asm) (by k_mem) (by first | assumption | omega) (by first | assumption | omega) ?_; intro kk kt kk0) | (refine' item_tag (by k_asm) (by k_mem) (by first | assumption | omega) (by first | assumption | omega) ?_; intro tx tv tk0 tk1 tk2)) | walk1 | (dsimp only; walk1) | (leave1; try dsimp only))))
    refine' comp_range (J := KidJ mm) ?u1 ?u2 ?u3 ?u4 ?u5 ?u6 ?u7 ?u8 ⟨[], .nil, (fun _ h => nomatch h), rfl⟩ ?u9 ?ua
    case u3 => exact rfl
    case u5 => k_asm
    case u4 => k_asm
    case u2 => assumption
    case u1 => (repeat' (first | ((with_reducible show Two _ _ _ _ _ _); first | assumption | (refine' Two.head ?_) | (refine' Two.tail ?_ ?_ ?_)) | k_ne | assumption | (refine' OffT.app ?_ ?_) | exact List.forall_mem_nil _ | fail))
    case u6 => assumption
    case u7 => omega
    case u8 => omega
    case u9 =>
      intro gg i v ys3 so3 qo3 tl3 I oI C oC D m2 h2 tk2 E2 Q2 hi hp hS2 oT3 jj3 hC hx F2 N2 U2 ender
      (try simp only [List.cons_append, List.nil_append] at N2 U2)
      (repeat' (first | (k_unfold; (try dsimp only)) | (k_end; wrow_close) | ((fail_if_success (with_reducible show wpAny _ _ (exec (Stmt.For _ _ _ _ _) _) _ _ _)); (fail_if_success (with_reducible show wpAny _ _ (exec (Stmt.If _ _ _ _) _) _ _ _)); (fail_if_success (with_reducible show wpAny _ _ (eval (Expr.IfExp _ _ _ _) _) _ _ _)); (fail_if_success (with_reducible show wpAny _ _ (pyIter _) _ _ _)); (fail_if_success (with_reducible show wpAny _ _ (eval (Expr.ListComp _ _ _ _) _) _ _ _)); (fail_if_success (with_reducible show wpAny _ _ (exec (Stmt.Assign _ (Expr.ListComp _ _ _ _) _) _) _ _ _)); (fail_if_success (with_reducible show LCg.CompSrc _ _ _ _ _ _ _ _ _ _ _ _ _ _)); (fail_if_success (with_reducible show LCg.CompEnd _ _ _ _ _ _ _ _ _ _ _ _ _ _)); first | ((with_reducible show wpAny _ _ (call (Value.ref 196) [_, _]) _ _ _); refine' tree_use (by assumption) (by omega) (by k_asm) (by assumption) (by repeat' (first | ((with_reducible show Two _ _ _ _ _ _); first | assumption | (refine' Two.head ?_) | (refine' Two.tail ?_ ?_ ?_)) | k_ne | assumption | (refine' OffT.app ?_ ?_) | exact List.forall_mem_nil _ | fail)) (by k_asm) (by k_asm) (by k_asm) (by k_asm) (by exact rfl) (by exact rfl) (by exact rfl) (by exact rfl) (by dsimp only [Around.deeper]; omega) (by dsimp only [Around.deeper]; omega) ?_; intro rv rV tlk hh1 tk1 so1 qo1 F' N' hS1 hnew rW rT oTk U1; (try dsimp only at N' U1); (try k_sweep)) | ((with_reducible show wpAny _ _ (call (Value.ref 191) [_, _]) _ _ _); refine' take_use (by k_asm) (by assumption) (by repeat' (first | ((with_reducible show Two _ _ _ _ _ _); first | assumption | (refine' Two.head ?_) | (refine' Two.tail ?_ ?_ ?_)) | k_ne | assumption | (refine' OffT.app ?_ ?_) | exact List.forall_mem_nil _ | fail)) (by first | assumption | decide | omega) (by first | assumption | decide | omega) (by k_asm) (by k_asm) (by k_asm) (by k_asm) (by exact rfl) (by exact rfl) (by exact rfl) (by exact rfl) (by dsimp only [Around.deeper]; omega) (by dsimp only [Around.deeper]; omega) ?_; intro rr tt hh1 tk1 so1 qo1 F' N' hS1 rr0 rr1 U1; (try dsimp only at N' U1); (try k_sweep)) | ((with_reducible show wpAny _ _ (subscriptTail _ _ (Value.ref _) _) _ _ _); first | (refine' item_kind (by k_asm) (by k_mem) (by first | assumption | omega) (by first | assumption | omega) ?_; intro kk kt kk0) | (refine' item_tag (by k_asm) (by k_mem) (by first | assumption | omega) (by first | assumption | omega) ?_; intro tx tv tk0 tk1 tk2)) | walk1 | (dsimp only; walk1) | (leave1; try dsimp only))))
      exact ender _ _ _ _ tlk _ (by k_asm) (by k_asm) (LCg.Off3.of fun p hp => ⟨hnew p hp (I, _) (by k_mem), hnew p hp (C, _) (by k_mem), hnew p hp (D, _) (by k_mem)⟩) oTk (by assumption) (jj3.snoc rW rT)
    case ua =>
      intro gg ys3 so3 qo3 tl3 hS2 oT3 jj3 U2 D3 h2 tk2 F2 N2 o3
      obtain ⟨Ts, ka, kb, kc⟩ := jj3
      (try simp only [List.cons_append, List.nil_append] at N2 o3)
      have q1 : (@Ne Nat S D3) := off1_mem o3 (S, so3) (by k_mem)
      have q2 : (@Ne Nat Q D3) := off1_mem o3 (Q, qo3) (by k_mem)
      have kl : ys3.length = Ts.length := ka.length
      have Tn : Ts ≠ [] := fun e => by rw [e] at kc; simp at kc; omega
      (try dsimp only)
      (repeat' (first | (k_unfold; (try dsimp only)) | (k_end; wrow_close) | ((fail_if_success (with_reducible show wpAny _ _ (exec (Stmt.For _ _ _ _ _) _) _ _ _)); (fail_if_success (with_reducible show wpAny _ _ (exec (Stmt.If _ _ _ _) _) _ _ _)); (fail_if_success (with_reducible show wpAny _ _ (eval (Expr.IfExp _ _ _ _) _) _ _ _)); (fail_if_success (with_reducible show wpAny _ _ (pyIter _) _ _ _)); (fail_if_success (with_reducible show wpAny _ _ (eval (Expr.ListComp _ _ _ _) _) _ _ _)); (fail_if_success (with_reducible show wpAny _ _ (exec (Stmt.Assign _ (Expr.ListComp _ _ _ _) _) _) _ _ _)); (fail_if_success (with_reducible show LCg.CompSrc _ _ _ _ _ _ _ _ _ _ _ _ _ _)); (fail_if_success (with_reducible show LCg.CompEnd _ _ _ _ _ _ _ _ _ _ _ _ _ _)); first | ((with_reducible show wpAny _ _ (call (Value.ref 196) [_, _]) _ _ _); refine' tree_use (by assumption) (by omega) (by k_asm) (by assumption) (by repeat' (first | ((with_reducible show Two _ _ _ _ _ _); first | assumption | (refine' Two.head ?_) | (refine' Two.tail ?_ ?_ ?_)) | k_ne | assumption | (refine' OffT.app ?_ ?_) | exact List.forall_mem_nil _ | fail)) (by k_asm) (by k_asm) (by k_asm) (by k_asm) (by exact rfl) (by exact rfl) (by exact rfl) (by exact rfl) (by dsimp only [Around.deeper]; omega) (by dsimp only [Around.deeper]; omega) ?_; intro rv rV tlk hh1 tk1 so1 qo1 F' N' hS1 hnew rW rT oTk U1; (try dsimp only at N' U1); (try k_sweep)) | ((with_reducible show wpAny _ _ (call (Value.ref 191) [_, _]) _ _ _); refine' take_use (by k_asm) (by assumption) (by repeat' (first | ((with_reducible show Two _ _ _ _ _ _); first | assumption | (refine' Two.head ?_) | (refine' Two.tail ?_ ?_ ?_)) | k_ne | assumption | (refine' OffT.app ?_ ?_) | exact List.forall_mem_nil _ | fail)) (by first | assumption | decide | omega) (by first | assumption | decide | omega) (by k_asm) (by k_asm) (by k_asm) (by k_asm) (by exact rfl) (by exact rfl) (by exact rfl) (by exact rfl) (by dsimp only [Around.deeper]; omega) (by dsimp only [Around.deeper]; omega) ?_; intro rr tt hh1 tk1 so1 qo1 F' N' hS1 rr0 rr1 U1; (try dsimp only at N' U1); (try k_sweep)) | ((with_reducible show wpAny _ _ (subscriptTail _ _ (Value.ref _) _) _ _ _); first | (refine' item_kind (by k_asm) (by k_mem) (by first | assumption | omega) (by first | assumption | omega) ?_; intro kk kt kk0) | (refine' item_tag (by k_asm) (by k_mem) (by first | assumption | omega) (by first | assumption | omega) ?_; intro tx tv tk0 tk1 tk2)) | walk1 | (dsimp only; walk1) | (leave1; try dsimp only))))
      walk1
      (repeat' (first | (k_unfold; (try dsimp only)) | (k_end; wrow_close) | ((fail_if_success (with_reducible show wpAny _ _ (exec (Stmt.For _ _ _ _ _) _) _ _ _)); (fail_if_success (with_reducible show wpAny _ _ (exec (Stmt.If _ _ _ _) _) _ _ _)); (fail_if_success (with_reducible show wpAny _ _ (eval (Expr.IfExp _ _ _ _) _) _ _ _)); (fail_if_success (with_reducible show wpAny _ _ (pyIter _) _ _ _)); (fail_if_success (with_reducible show wpAny _ _ (eval (Expr.ListComp _ _ _ _) _) _ _ _)); (fail_if_success (with_reducible show wpAny _ _ (exec (Stmt.Assign _ (Expr.ListComp _ _ _ _) _) _) _ _ _)); (fail_if_success (with_reducible show LCg.CompSrc _ _ _ _ _ _ _ _ _ _ _ _ _ _)); (fail_if_success (with_reducible show LCg.CompEnd _ _ _ _ _ _ _ _ _ _ _ _ _ _)); first | ((with_reducible show wpAny _ _ (call (Value.ref 196) [_, _]) _ _ _); refine' tree_use (by assumption) (by omega) (by k_asm) (by assumption) (by repeat' (first | ((with_reducible show Two _ _ _ _ _ _); first | assumption | (refine' Two.head ?_) | (refine' Two.tail ?_ ?_ ?_)) | k_ne | assumption | (refine' OffT.app ?_ ?_) | exact List.forall_mem_nil _ | fail)) (by k_asm) (by k_asm) (by k_asm) (by k_asm) (by exact rfl) (by exact rfl) (by exact rfl) (by exact rfl) (by dsimp only [Around.deeper]; omega) (by dsimp only [Around.deeper]; omega) ?_; intro rv rV tlk hh1 tk1 so1 qo1 F' N' hS1 hnew rW rT oTk U1; (try dsimp only at N' U1); (try k_sweep)) | ((with_reducible show wpAny _ _ (call (Value.ref 191) [_, _]) _ _ _); refine' take_use (by k_asm) (by assumption) (by repeat' (first | ((with_reducible show Two _ _ _ _ _ _); first | assumption | (refine' Two.head ?_) | (refine' Two.tail ?_ ?_ ?_)) | k_ne | assumption | (refine' OffT.app ?_ ?_) | exact List.forall_mem_nil _ | fail)) (by first | assumption | decide | omega) (by first | assumption | decide | omega) (by k_asm) (by k_asm) (by k_asm) (by k_asm) (by exact rfl) (by exact rfl) (by exact rfl) (by exact rfl) (by dsimp only [Around.deeper]; omega) (by dsimp only [Around.deeper]; omega) ?_; intro rr tt hh1 tk1 so1 qo1 F' N' hS1 rr0 rr1 U1; (try dsimp only at N' U1); (try k_sweep)) | ((with_reducible show wpAny _ _ (subscriptTail _ _ (Value.ref _) _) _ _ _); first | (refine' item_kind (by k_asm) (by k_mem) (by first | assumption | omega) (by first | assumption | omega) ?_; intro kk kt kk0) | (refine' item_tag (by k_asm) (by k_mem) (by first | assumption | omega) (by first | assumption | omega) ?_; intro tx tv tk0 tk1 tk2)) | walk1 | (dsimp only; walk1) | (leave1; try dsimp only))))
      focus (
        refine' fin _ _ _ _ _ _ _ _ (.list Ts ats) ?e1d ?e2d ?e3d ?e4d ?e5d ?e6d
        case e2d => k_asm
        case e1d => k_asm
        case e4d => assumption
        case e3d => (repeat' (first | ((with_reducible show Two _ _ _ _ _ _); first | assumption | (refine' Two.head ?_) | (refine' Two.tail ?_ ?_ ?_)) | k_ne | assumption | (refine' OffT.app ?_ ?_) | exact List.forall_mem_nil _ | fail))
        case e5d =>
          rw [hmm]; unfold Wf; exact ⟨Tn, by omega, kb, jb⟩
        case e6d =>
          rw [hmm]; unfold TIn
          refine' ⟨_, _, _, _, _, ⟨_, _, _, rfl, ?n1d, ?n2d, ?n3d⟩, ⟨_, _, rfl, ⟨?m1d, ?m2d, ?m3d⟩, ?m4d⟩, TIn.all (fun a o h => ⟨?o5d, (oT3 _ h).1, (oT3 _ h).2⟩) ka, ⟨_, _, rfl, ⟨?o1d, ?o2d, ?o3d⟩, jc⟩, AtT.all (fun a o h => ⟨?o4d, (oT _ h).1, (oT _ h).2⟩) ja⟩
          case n1d => k_mem
          case m1d => k_mem
          case o1d => k_mem
          case m4d => omega
          case o4d => (repeat (first | exact h | exact List.mem_append_left _ h | exact List.mem_append_right _ h | refine List.mem_cons_of_mem _ ?_))
          case o5d => (repeat (first | exact h | exact List.mem_append_left _ h | exact List.mem_append_right _ h | refine List.mem_cons_of_mem _ ?_))
          all_goals k_ne)
      refine LCg.ListComp_U (F₀ := by k_asm) (by with_unfolding_all rfl) (by decide) (by rfl) (by decide) (by rfl) ?_
      (repeat' (first | (k_unfold; (try dsimp only)) | (k_end; wrow_close) | ((fail_if_success (with_reducible show wpAny _ _ (exec (Stmt.For _ _ _ _ _) _) _ _ _)); (fail_if_success (with_reducible show wpAny _ _ (exec (Stmt.If _ _ _ _) _) _ _ _)); (fail_if_success (with_reducible show wpAny _ _ (eval (Expr.IfExp _ _ _ _) _) _ _ _)); (fail_if_success (with_reducible show wpAny _ _ (pyIter _) _ _ _)); (fail_if_success (with_reducible show wpAny _ _ (eval (Expr.ListComp _ _ _ _) _) _ _ _)); (fail_if_success (with_reducible show wpAny _ _ (exec (Stmt.Assign _ (Expr.ListComp _ _ _ _) _) _) _ _ _)); (fail_if_success (with_reducible show LCg.CompSrc _ _ _ _ _ _ _ _ _ _ _ _ _ _)); (fail_if_success (with_reducible show LCg.CompEnd _ _ _ _ _ _ _ _ _ _ _ _ _ _)); first | ((with_reducible show wpAny _ _ (call (Value.ref 196) [_, _]) _ _ _); refine' tree_use (by assumption) (by omega) (by k_asm) (by assumption) (by repeat' (first | ((with_reducible show Two _ _ _ _ _ _); first | assumption | (refine' Two.head ?_) | (refine' Two.tail ?_ ?_ ?_)) | k_ne | assumption | (refine' OffT.app ?_ ?_) | exact List.forall_mem_nil _ | fail)) (by k_asm) (by k_asm) (by k_asm) (by k_asm) (by exact rfl) (by exact rfl) (by exact rfl) (by exact rfl) (by dsimp only [Around.deeper]; omega) (by dsimp only [Around.deeper]; omega) ?_; intro rv rV tlk hh1 tk1 so1 qo1 F' N' hS1 hnew rW rT oTk U1; (try dsimp only at N' U1); (try k_sweep)) | ((with_reducible show wpAny _ _ (call (Value.ref 191) [_, _]) _ _ _); refine' take_use (by k_asm) (by assumption) (by repeat' (first | ((with_reducible show Two _ _ _ _ _ _); first | assumption | (refine' Two.head ?_) | (refine' Two.tail ?_ ?_ ?_)) | k_ne | assumption | (refine' OffT.app ?_ ?_) | exact List.forall_mem_nil _ | fail)) (by first | assumption | decide | omega) (by first | assumption | decide | omega) (by k_asm) (by k_asm) (by k_asm) (by k_asm) (by exact rfl) (by exact rfl) (by exact rfl) (by exact rfl) (by dsimp only [Around.deeper]; omega) (by dsimp only [Around.deeper]; omega) ?_; intro rr tt hh1 tk1 so1 qo1 F' N' hS1 rr0 rr1 U1; (try dsimp only at N' U1); (try k_sweep)) | ((with_reducible show wpAny _ _ (subscriptTail _ _ (Value.ref _) _) _ _ _); first | (refine' item_kind (by k_asm) (by k_mem) (by first | assumption | omega) (by first | assumption | omega) ?_; intro kk kt kk0) | (refine' item_tag (by k_asm) (by k_mem) (by first | assumption | omega) (by first | assumption | omega) ?_; intro tx tv tk0 tk1 tk2)) | walk1 | (dsimp only; walk1) | (leave1; try dsimp only))))
      rename News _ _ _ _ => NN
      revert NN
      rename News _ _ _ _ => NO
      intro NN
      have zS : @LT.lt Nat instLTNat S _ := Heap.lt_size (NO (S, _) (by k_mem)).1
      have zQ : @LT.lt Nat instLTNat Q _ := Heap.lt_size (NO (Q, _) (by k_mem)).1
      have zD : @LT.lt Nat instLTNat D3 _ := Heap.lt_size (NO (D3, _) (by k_mem)).1
      dsimp only at NN zS zQ zD ⊢
      refine' comp_ledger (J := TagJ) ?v1 ?v2 ?v3 ?v4 ?v5 ?v6 ?va ?vb ?v7 ⟨[], .nil, (fun _ h => nomatch h), rfl⟩ ?v8 ?v9
      case v3 => exact rfl
      case v5 => exact NN
      case v6 => exact List.Mem.head _
      case v4 => k_asm
      case v2 => assumption
      case v1 => (repeat' (first | ((with_reducible show Two _ _ _ _ _ _); first | assumption | (refine' Two.head ?_) | (refine' Two.tail ?_ ?_ ?_)) | k_ne | assumption | (refine' OffT.app ?_ ?_) | exact List.forall_mem_nil _ | fail))
      case va => k_ne
      case vb => k_ne
      case v7 => exact Nat.le_trans (pick_le _ _ _) (by rw [List.size_toArray, sizeLine_eq]; omega)
      case v8 =>
        clear NN
        intro gg i v ys4 so4 qo4 tl4 I oI C oC D m2 h2 tk2 E2 Q2 hi hp hS2 oT4 jj4 hC hx F2 N2 U2 ender
        (try simp only [List.cons_append, List.nil_append] at N2 U2)
        (repeat' (first | (k_unfold; (try dsimp only)) | (k_end; wrow_close) | ((fail_if_success (with_reducible show wpAny _ _ (exec (Stmt.For _ _ _ _ _) _) _ _ _)); (fail_if_success (with_reducible show wpAny _ _ (exec (Stmt.If _ _ _ _) _) _ _ _)); (fail_if_success (with_reducible show wpAny _ _ (eval (Expr.IfExp _ _ _ _) _) _ _ _)); (fail_if_success (with_reducible show wpAny _ _ (pyIter _) _ _ _)); (fail_if_success (with_reducible show wpAny _ _ (eval (Expr.ListComp _ _ _ _) _) _ _ _)); (fail_if_success (with_reducible show wpAny _ _ (exec (Stmt.Assign _ (Expr.ListComp _ _ _ _) _) _) _ _ _)); (fail_if_success (with_reducible show LCg.CompSrc _ _ _ _ _ _ _ _ _ _ _ _ _ _)); (fail_if_success (with_reducible show LCg.CompEnd _ _ _ _ _ _ _ _ _ _ _ _ _ _)); first | ((with_reducible show wpAny _ _ (call (Value.ref 196) [_, _]) _ _ _); refine' tree_use (by assumption) (by omega) (by k_asm) (by assumption) (by repeat' (first | ((with_reducible show Two _ _ _ _ _ _); first | assumption | (refine' Two.head ?_) | (refine' Two.tail ?_ ?_ ?_)) | k_ne | assumption | (refine' OffT.app ?_ ?_) | exact List.forall_mem_nil _ | fail)) (by k_asm) (by k_asm) (by k_asm) (by k_asm) (by exact rfl) (by exact rfl) (by exact rfl) (by exact rfl) (by dsimp only [Around.deeper]; omega) (by dsimp only [Around.deeper]; omega) ?_; intro rv rV tlk hh1 tk1 so1 qo1 F' N' hS1 hnew rW rT oTk U1; (try dsimp only at N' U1); (try k_sweep)) | ((with_reducible show wpAny _ _ (call (Value.ref 191) [_, _]) _ _ _); refine' take_use (by k_asm) (by assumption) (by repeat' (first | ((with_reducible show Two _ _ _ _ _ _); first | assumption | (refine' Two.head ?_) | (refine' Two.tail ?_ ?_ ?_)) | k_ne | assumption | (refine' OffT.app ?_ ?_) | exact List.forall_mem_nil _ | fail)) (by first | assumption | decide | omega) (by first | assumption | decide | omega) (by k_asm) (by k_asm) (by k_asm) (by k_asm) (by exact rfl) (by exact rfl) (by exact rfl) (by exact rfl) (by dsimp only [Around.deeper]; omega) (by dsimp only [Around.deeper]; omega) ?_; intro rr tt hh1 tk1 so1 qo1 F' N' hS1 rr0 rr1 U1; (try dsimp only at N' U1); (try k_sweep)) | ((with_reducible show wpAny _ _ (subscriptTail _ _ (Value.ref _) _) _ _ _); first | (refine' item_kind (by k_asm) (by k_mem) (by first | assumption | omega) (by first | assumption | omega) ?_; intro kk kt kk0) | (refine' item_tag (by k_asm) (by k_mem) (by first | assumption | omega) (by first | assumption | omega) ?_; intro tx tv tk0 tk1 tk2)) | walk1 | (dsimp only; walk1) | (leave1; try dsimp only))))
        exact ender _ _ _ _ [(_, _)] _ (by k_asm) (by k_asm) ⟨⟨by k_ne, by k_ne, by k_ne⟩, trivial⟩ (fun p hp => by obtain rfl := List.mem_singleton.mp hp; exact ⟨by k_ne, by k_ne⟩) (by assumption) (jj4.snoc tk0 tk1 tk2)
      case v9 =>
        clear NN
        intro gg ys4 so4 qo4 tl4 hS2 oT4 jj4 U2 D4 h2 tk2 F2 N2 o4
        obtain ⟨ts, ta, tb, tc⟩ := jj4
        (try simp only [List.cons_append, List.nil_append] at N2 o4)
        have p1 : (@Ne Nat S D4) := off1_mem o4 (S, so4) (by k_mem)
        have p2 : (@Ne Nat Q D4) := off1_mem o4 (Q, qo4) (by k_mem)
        have zS2 : @LT.lt Nat instLTNat S _ := Heap.lt_size (N2 (S, _) (by k_mem)).1
        have zQ2 : @LT.lt Nat instLTNat Q _ := Heap.lt_size (N2 (Q, _) (by k_mem)).1
        have hle : ts.length ≤ 3 := by
          have : _ ≤ ys3.length := pick_le ys3.toArray (some 1) none
          omega
        have hlt : ys4.length = ts.length := by rw [CarriedAll.length_eq ta, List.length_map]
        (try dsimp only)
        (repeat' (first | (k_unfold; (try dsimp only)) | (k_end; wrow_close) | ((fail_if_success (with_reducible show wpAny _ _ (exec (Stmt.For _ _ _ _ _) _) _ _ _)); (fail_if_success (with_reducible show wpAny _ _ (exec (Stmt.If _ _ _ _) _) _ _ _)); (fail_if_success (with_reducible show wpAny _ _ (eval (Expr.IfExp _ _ _ _) _) _ _ _)); (fail_if_success (with_reducible show wpAny _ _ (pyIter _) _ _ _)); (fail_if_success (with_reducible show wpAny _ _ (eval (Expr.ListComp _ _ _ _) _) _ _ _)); (fail_if_success (with_reducible show wpAny _ _ (exec (Stmt.Assign _ (Expr.ListComp _ _ _ _) _) _) _ _ _)); (fail_if_success (with_reducible show LCg.CompSrc _ _ _ _ _ _ _ _ _ _ _ _ _ _)); (fail_if_success (with_reducible show LCg.CompEnd _ _ _ _ _ _ _ _ _ _ _ _ _ _)); first | ((with_reducible show wpAny _ _ (call (Value.ref 196) [_, _]) _ _ _); refine' tree_use (by assumption) (by omega) (by k_asm) (by assumption) (by repeat' (first | ((with_reducible show Two _ _ _ _ _ _); first | assumption | (refine' Two.head ?_) | (refine' Two.tail ?_ ?_ ?_)) | k_ne | assumption | (refine' OffT.app ?_ ?_) | exact List.forall_mem_nil _ | fail)) (by k_asm) (by k_asm) (by k_asm) (by k_asm) (by exact rfl) (by exact rfl) (by exact rfl) (by exact rfl) (by dsimp only [Around.deeper]; omega) (by dsimp only [Around.deeper]; omega) ?_; intro rv rV tlk hh1 tk1 so1 qo1 F' N' hS1 hnew rW rT oTk U1; (try dsimp only at N' U1); (try k_sweep)) | ((with_reducible show wpAny _ _ (call (Value.ref 191) [_, _]) _ _ _); refine' take_use (by k_asm) (by assumption) (by repeat' (first | ((with_reducible show Two _ _ _ _ _ _); first | assumption | (refine' Two.head ?_) | (refine' Two.tail ?_ ?_ ?_)) | k_ne | assumption | (refine' OffT.app ?_ ?_) | exact List.forall_mem_nil _ | fail)) (by first | assumption | decide | omega) (by first | assumption | decide | omega) (by k_asm) (by k_asm) (by k_asm) (by k_asm) (by exact rfl) (by exact rfl) (by exact rfl) (by exact rfl) (by dsimp only [Around.deeper]; omega) (by dsimp only [Around.deeper]; omega) ?_; intro rr tt hh1 tk1 so1 qo1 F' N' hS1 rr0 rr1 U1; (try dsimp only at N' U1); (try k_sweep)) | ((with_reducible show wpAny _ _ (subscriptTail _ _ (Value.ref _) _) _ _ _); first | (refine' item_kind (by k_asm) (by k_mem) (by first | assumption | omega) (by first | assumption | omega) ?_; intro kk kt kk0) | (refine' item_tag (by k_asm) (by k_mem) (by first | assumption | omega) (by first | assumption | omega) ?_; intro tx tv tk0 tk1 tk2)) | walk1 | (dsimp only; walk1) | (leave1; try dsimp only))))
        refine' fin _ _ _ _ _ _ _ _ (.call (none :: ts) Ts) ?e1e ?e2e ?e3e ?e4e ?e5e ?e6e
        case e2e => k_asm
        case e1e => k_asm
        case e4e => assumption
        case e3e => (repeat' (first | ((with_reducible show Two _ _ _ _ _ _); first | assumption | (refine' Two.head ?_) | (refine' Two.tail ?_ ?_ ?_)) | k_ne | assumption | (refine' OffT.app ?_ ?_) | exact List.forall_mem_nil _ | fail))
        case e5e =>
          rw [hmm]; unfold Wf
          refine ⟨Tn, List.cons_ne_nil _ _, by rw [List.length_cons]; omega, by omega, fun _ x hx => ?_, kb, fun x hx => ?_⟩
          · rcases List.mem_cons.mp hx with rfl | hx
            · exact fun e => nomatch e
            · exact (tb x hx).2
          · rcases List.mem_cons.mp hx with rfl | hx
            · exact .inl rfl
            · exact (tb x hx).1
        case e6e =>
          rw [hmm]; unfold TIn
          refine' ⟨_, _, _, _, _, ⟨_, _, _, rfl, ?n1e, ?n2e, ?n3e⟩, ⟨_, _, rfl, ⟨?m1e, ?m2e, ?m3e⟩, ?m4e⟩, CarriedAll.cons .none ta, ⟨_, _, rfl, ⟨?o1e, ?o2e, ?o3e⟩, ?o6e⟩, TIn.all (fun a o h => ⟨?o5e, (oT3 _ h).1, (oT3 _ h).2⟩) ka, ⟨_, _, rfl, ⟨?r1e, ?r2e, ?r3e⟩, Nat.zero_le _⟩⟩
          case n1e => k_mem
          case m1e => k_mem
          case o1e => k_mem
          case r1e => k_mem
          case m4e => rw [List.length_cons]; omega
          case o6e => omega
          case o5e => (repeat (first | exact h | exact List.mem_append_left _ h | exact List.mem_append_right _ h | exact List.mem_append_left _ (List.mem_append_right _ h) | refine List.mem_cons_of_mem _ ?_))
          all_goals k_ne)
  refine LCg.ListComp_U (F₀ := by k_asm) (by with_unfolding_all rfl) (by decide) (by rfl) (by decide) (by rfl) ?_
  (repeat' (first | (k_unfold; (try dsimp only)) | (k_end; wrow_close) | ((fail_if_success (with_reducible show wpAny _ _ (exec (Stmt.For _ _ _ _ _) _) _ _ _)); (fail_if_success (with_reducible show wpAny _ _ (exec (Stmt.If _ _ _ _) _) _ _ _)); (fail_if_success (with_reducible show wpAny _ _ (eval (Expr.IfExp _ _ _ _) _) _ _ _)); (fail_if_success (with_reducible show wpAny _ _ (pyIter _) _ _ _)); (fail_if_success (with_reducible show wpAny _ _ (eval (Expr.ListComp _ _ _ _) _) _ _ _)); (fail_if_success (with_reducible show wpAny _ _ (exec (Stmt.Assign _ (Expr.ListComp _ _ _ _) _) _) _ _ _)); (fail_if_success (with_reducible show LCg.CompSrc _ _ _ _ _ _ _ _ _ _ _ _ _ _)); (fail_if_success (with_reducible show LCg.CompEnd _ _ _ _ _ _ _ _ _ _ _ _ _ _)); first | ((with_reducible show wpAny _ _ (call (Value.ref 196) [_, _]) _ _ _); refine' tree_use (by assumption) (by omega) (by k_asm) (by assumption) (by repeat' (first | ((with_reducible show Two _ _ _ _ _ _); first | assumption | (refine' Two.head ?_) | (refine' Two.tail ?_ ?_ ?_)) | k_ne | assumption | (refine' OffT.app ?_ ?_) | exact List.forall_mem_nil _ | fail)) (by k_asm) (by k_asm) (by k_asm) (by k_asm) (by exact rfl) (by exact rfl) (by exact rfl) (by exact rfl) (by dsimp only [Around.deeper]; omega) (by dsimp only [Around.deeper]; omega) ?_; intro rv rV tlk hh1 tk1 so1 qo1 F' N' hS1 hnew rW rT oTk U1; (try dsimp only at N' U1); (try k_sweep)) | ((with_reducible show wpAny _ _ (call (Value.ref 191) [_, _]) _ _ _); refine' take_use (by k_asm) (by assumption) (by repeat' (first | ((with_reducible show Two _ _ _ _ _ _); first | assumption | (refine' Two.head ?_) | (refine' Two.tail ?_ ?_ ?_)) | k_ne | assumption | (refine' OffT.app ?_ ?_) | exact List.forall_mem_nil _ | fail)) (by first | assumption | decide | omega) (by first | assumption | decide | omega) (by k_asm) (by k_asm) (by k_asm) (by k_asm) (by exact rfl) (by exact rfl) (by exact rfl) (by exact rfl) (by dsimp only [Around.deeper]; omega) (by dsimp only [Around.deeper]; omega) ?_; intro rr tt hh1 tk1 so1 qo1 F' N' hS1 rr0 rr1 U1; (try dsimp only at N' U1); (try k_sweep)) | ((with_reducible show wpAny _ _ (subscriptTail _ _ (Value.ref _) _) _ _ _); first | (refine' item_kind (by k_asm) (by k_mem) (by first | assumption | omega) (by first | assumption | omega) ?_; intro kk kt kk0) | (refine' item_tag (by k_asm) (by k_mem) (by first | assumption | omega) (by first | assumption | omega) ?_; intro tx tv tk0 tk1 tk2)) | walk1 | (dsimp only; walk1) | (leave1; try dsimp only))))
  refine' comp_range (J := BitJ) ?z1 ?z2 ?z3 ?z4 ?z5 ?z6 ?z7 ?z8 ⟨[], .nil, (fun _ h => nomatch h), rfl⟩ ?z9 ?za
  case z3 => exact rfl
  case z5 => k_asm
  case z4 => k_asm
  case z2 => assumption
  case z1 => (repeat' (first | ((with_reducible show Two _ _ _ _ _ _); first | assumption | (refine' Two.head ?_) | (refine' Two.tail ?_ ?_ ?_)) | k_ne | assumption | (refine' OffT.app ?_ ?_) | exact List.forall_mem_nil _ | fail))
  case z6 => assumption
  case z7 => first | assumption | omega
  case z8 => omega
  case z9 =>
    intro gg i v ys3 so3 qo3 tl3 I oI C oC D m2 h2 tk2 E2 Q2 hi hp hS2 oT3 jj3 hC hx F2 N2 U2 ender
    (try simp only [List.cons_append, List.nil_append] at N2 U2)
    (repeat' (first | (k_unfold; (try dsimp only)) | (k_end; wrow_close) | ((fail_if_success (with_reducible show wpAny _ _ (exec (Stmt.For _ _ _ _ _) _) _ _ _)); (fail_if_success (with_reducible show wpAny _ _ (exec (Stmt.If _ _ _ _) _) _ _ _)); (fail_if_success (with_reducible show wpAny _ _ (eval (Expr.IfExp _ _ _ _) _) _ _ _)); (fail_if_success (with_reducible show wpAny _ _ (pyIter _) _ _ _)); (fail_if_success (with_reducible show wpAny _ _ (eval (Expr.ListComp _ _ _ _) _) _ _ _)); (fail_if_success (with_reducible show wpAny _ _ (exec (Stmt.Assign _ (Expr.ListComp _ _ _ _) _) _) _ _ _)); (fail_if_success (with_reducible show LCg.CompSrc _ _ _ _ _ _ _ _ _ _ _ _ _ _)); (fail_if_success (with_reducible show LCg.CompEnd _ _ _ _ _ _ _ _ _ _ _ _ _ _)); first | ((with_reducible show wpAny _ _ (call (Value.ref 196) [_, _]) _ _ _); refine' tree_use (by assumption) (by omega) (by k_asm) (by assumption) (by repeat' (first | ((with_reducible show Two _ _ _ _ _ _); first | assumption | (refine' Two.head ?_) | (refine' Two.tail ?_ ?_ ?_)) | k_ne | assumption | (refine' OffT.app ?_ ?_) | exact List.forall_mem_nil _ | fail)) (by k_asm) (by k_asm) (by k_asm) (by k_asm) (by exact rfl) (by exact rfl) (by exact rfl) (by exact rfl) (by dsimp only [Around.deeper]; omega) (by dsimp only [Around.deeper]; omega) ?_; intro rv rV tlk hh1 tk1 so1 qo1 F' N' hS1 hnew rW rT oTk U1; (try dsimp only at N' U1); (try k_sweep)) | ((with_reducible show wpAny _ _ (call (Value.ref 191) [_, _]) _ _ _); refine' take_use (by k_asm) (by assumption) (by repeat' (first | ((with_reducible show Two _ _ _ _ _ _); first | assumption | (refine' Two.head ?_) | (refine' Two.tail ?_ ?_ ?_)) | k_ne | assumption | (refine' OffT.app ?_ ?_) | exact List.forall_mem_nil _ | fail)) (by first | assumption | decide | omega) (by first | assumption | decide | omega) (by k_asm) (by k_asm) (by k_asm) (by k_asm) (by exact rfl) (by exact rfl) (by exact rfl) (by exact rfl) (by dsimp only [Around.deeper]; omega) (by dsimp only [Around.deeper]; omega) ?_; intro rr tt hh1 tk1 so1 qo1 F' N' hS1 rr0 rr1 U1; (try dsimp only at N' U1); (try k_sweep)) | ((with_reducible show wpAny _ _ (subscriptTail _ _ (Value.ref _) _) _ _ _); first | (refine' item_kind (by k_asm) (by k_mem) (by first | assumption | omega) (by first | assumption | omega) ?_; intro kk kt kk0) | (refine' item_tag (by k_asm) (by k_mem) (by first | assumption | omega) (by first | assumption | omega) ?_; intro tx tv tk0 tk1 tk2)) | walk1 | (dsimp only; walk1) | (leave1; try dsimp only))))
    exact ender _ _ _ _ [] _ (by k_asm) (by k_asm) trivial (fun _ h => nomatch h) (by assumption) (jj3.snoc (by assumption) (by assumption))
  case za =>
    intro gg ys3 so3 qo3 tl3 hS2 oT3 jj3 U2 D3 h2 tk2 F2 N2 o3
    obtain ⟨ns, ka, kb, kc⟩ := jj3
    (try simp only [List.cons_append, List.nil_append] at N2 o3)
    have q1 : (@Ne Nat S D3) := off1_mem o3 (S, so3) (by k_mem)
    have q2 : (@Ne Nat Q D3) := off1_mem o3 (Q, qo3) (by k_mem)
    (try dsimp only)
    (repeat' (first | (k_unfold; (try dsimp only)) | (k_end; wrow_close) | ((fail_if_success (with_reducible show wpAny _ _ (exec (Stmt.For _ _ _ _ _) _) _ _ _)); (fail_if_success (with_reducible show wpAny _ _ (exec (Stmt.If _ _ _ _) _) _ _ _)); (fail_if_success (with_reducible show wpAny _ _ (eval (Expr.IfExp _ _ _ _) _) _ _ _)); (fail_if_success (with_reducible show wpAny _ _ (pyIter _) _ _ _)); (fail_if_success (with_reducible show wpAny _ _ (eval (Expr.ListComp _ _ _ _) _) _ _ _)); (fail_if_success (with_reducible show wpAny _ _ (exec (Stmt.Assign _ (Expr.ListComp _ _ _ _) _) _) _ _ _)); (fail_if_success (with_reducible show LCg.CompSrc _ _ _ _ _ _ _ _ _ _ _ _ _ _)); (fail_if_success (with_reducible show LCg.CompEnd _ _ _ _ _ _ _ _ _ _ _ _ _ _)); first | ((with_reducible show wpAny _ _ (call (Value.ref 196) [_, _]) _ _ _); refine' tree_use (by assumption) (by omega) (by k_asm) (by assumption) (by repeat' (first | ((with_reducible show Two _ _ _ _ _ _); first | assumption | (refine' Two.head ?_) | (refine' Two.tail ?_ ?_ ?_)) | k_ne | assumption | (refine' OffT.app ?_ ?_) | exact List.forall_mem_nil _ | fail)) (by k_asm) (by k_asm) (by k_asm) (by k_asm) (by exact rfl) (by exact rfl) (by exact rfl) (by exact rfl) (by dsimp only [Around.deeper]; omega) (by dsimp only [Around.deeper]; omega) ?_; intro rv rV tlk hh1 tk1 so1 qo1 F' N' hS1 hnew rW rT oTk U1; (try dsimp only at N' U1); (try k_sweep)) | ((with_reducible show wpAny _ _ (call (Value.ref 191) [_, _]) _ _ _); refine' take_use (by k_asm) (by assumption) (by repeat' (first | ((with_reducible show Two _ _ _ _ _ _); first | assumption | (refine' Two.head ?_) | (refine' Two.tail ?_ ?_ ?_)) | k_ne | assumption | (refine' OffT.app ?_ ?_) | exact List.forall_mem_nil _ | fail)) (by first | assumption | decide | omega) (by first | assumption | decide | omega) (by k_asm) (by k_asm) (by k_asm) (by k_asm) (by exact rfl) (by exact rfl) (by exact rfl) (by exact rfl) (by dsimp only [Around.deeper]; omega) (by dsimp only [Around.deeper]; omega) ?_; intro rr tt hh1 tk1 so1 qo1 F' N' hS1 rr0 rr1 U1; (try dsimp only at N' U1); (try k_sweep)) | ((with_reducible show wpAny _ _ (subscriptTail _ _ (Value.ref _) _) _ _ _); first | (refine' item_kind (by k_asm) (by k_mem) (by first | assumption | omega) (by first | assumption | omega) ?_; intro kk kt kk0) | (refine' item_tag (by k_asm) (by k_mem) (by first | assumption | omega) (by first | assumption | omega) ?_; intro tx tv tk0 tk1 tk2)) | walk1 | (dsimp only; walk1) | (leave1; try dsimp only))))
    refine' fin _ _ _ _ _ _ _ _ (.vec kk ns ats) ?e1c ?e2c ?e3c ?e4c ?e5c ?e6c
    case e2c => k_asm
    case e1c => k_asm
    case e4c => assumption
    case e3c => (repeat' (first | ((with_reducible show Two _ _ _ _ _ _); first | assumption | (refine' Two.head ?_) | (refine' Two.tail ?_ ?_ ?_)) | k_ne | assumption | (refine' OffT.app ?_ ?_) | exact List.forall_mem_nil _ | fail))
    case e5c => unfold Wf; exact ⟨kk0, kb, by omega, jb⟩
    case e6c =>
      unfold TIn
      refine' ⟨_, _, _, _, _, ⟨_, _, _, rfl, ?n1c, ?n2c, ?n3c⟩, ⟨_, _, rfl, ⟨?m1c, ?m2c, ?m3c⟩, ?m4c⟩, ka, ⟨_, _, rfl, ⟨?o1c, ?o2c, ?o3c⟩, jc⟩, AtT.all (fun a o h => ⟨?o4c, (oT _ h).1, (oT _ h).2⟩) ja⟩
      case n1c => k_mem
      case m1c => k_mem
      case o1c => k_mem
      case m4c => rw [ints_len ka, kc]; omega
      case o4c => (repeat (first | exact h | exact List.mem_append_left _ h | exact List.mem_append_right _ h | refine List.mem_cons_of_mem _ ?_))
      all_goals k_ne
end Mine
end Tree

section BuiltU
open PySem PySem.Spec PySem.Calls PyProof.Rows PySem.W PyProof.V
namespace Mine
/-- what hangs at a built vector -/
inductive VRest (w : World) (P : Addr → Obj → Prop) : Nat → Tr → Str → Value → Value → Prop
  | vec {n : Nat} {k : Str} {r : List Int} {a : List (Str × Int)} {rows atv : Value} {vs : List Value} : okKind k → Lst P rows vs → CarriedAll vs (r.map (itm k)) → AtV w P atv a → VRest w P n (.vec k r a) k rows atv
  | list {n : Nat} {ks : List Tr} {a : List (Str × Int)} {rows atv : Value} {vs : List Value} : Lst P rows vs → All2 (VIn w P n) vs ks → AtV w P atv a → VRest w P (n + 1) (.list ks a) "list" rows atv
theorem VRest.mono {w : World} {P P' : Addr → Obj → Prop} (h : ∀ a o, P a o → P' a o) {n : Nat} {T : Tr} {k : Str} {rows atv : Value} (x : VRest w P n T k rows atv) : VRest w P' n T k rows atv := by
  cases x with
  | vec a b c d => exact .vec a (b.mono h) c (d.mono h)
  | list b c d => exact .list (b.mono h) (c.mono fun _ _ y => y.mono h) (d.mono h)
theorem VRest.vin {w : World} {P : Addr → Obj → Prop} {n : Nat} {T : Tr} {k : Str} {t : Tok} {x : Addr} {rows atv : Value} (y : VRest w P n T k rows atv) (i : Inst P 67 x [("kind", .str k t), ("items", rows), ("attrs", atv)]) : VIn w P n (.ref x) T := by
  cases y with
  | vec a b c d => unfold VIn; exact ⟨a, _, ⟨x, t, rows, _, rfl, i, b, c⟩, d⟩
  | list b c d => unfold VIn; exact ⟨x, t, rows, _, _, rfl, i, b, c, d⟩
inductive IsV : Tr → Prop
  | vec {k : Str} {r : List Int} {a : List (Str × Int)} : IsV (.vec k r a)
  | list {ks : List Tr} {a : List (Str × Int)} : IsV (.list ks a)
/-- a vector's own dict, as it is made -/
noncomputable abbrev vecEs (w : World) (k : Str) (t : Tok) (rows atv : Value) (t1 t2 t3 t4 t5 : Tok) : List DictEntry :=
  [{ hash := PyData.keyHash w.params ("kind" : Str), key := .str ("kind" : Str) t1, val := .str k t }, { hash := PyData.keyHash w.params ("items" : Str), key := .str ("items" : Str) t2, val := rows },
    { hash := PyData.keyHash w.params ("attrs" : Str), key := .str ("attrs" : Str) t3, val := atv }, { hash := PyData.keyHash w.params ("shared" : Str), key := .str ("shared" : Str) t4, val := .bool false },
    { hash := PyData.keyHash w.params ("loose" : Str), key := .str ("loose" : Str) t5, val := .bool false }]
def VTop (w : World) (P : Addr → Obj → Prop) (n : Nat) (r : Value) (T : Tr) : Prop :=
  ∃ x dx k t rows atv t1 t2 t3 t4 t5, r = .ref x ∧ P x (instObj 67 dx) ∧ P dx (dictOf (vecEs w k t rows atv t1 t2 t3 t4 t5) 5) ∧ (@Ne Nat x dx) ∧ VRest w (fun a o => P a o ∧ (@Ne Nat a dx)) n T k rows atv
theorem inst_of {w : World} {P : Addr → Obj → Prop} {x dx : Addr} {k : Str} {t : Tok} {rows atv : Value} {t1 t2 t3 t4 t5 : Tok} (h1 : P x (instObj 67 dx)) (h2 : P dx (dictOf (vecEs w k t rows atv t1 t2 t3 t4 t5) 5)) : Inst P 67 x [("kind", .str k t), ("items", rows), ("attrs", atv)] :=
  ⟨dx, _, _, h1, h2, List.forall_mem_cons.mpr ⟨rfl, List.forall_mem_cons.mpr ⟨rfl, List.forall_mem_cons.mpr ⟨rfl, fun _ h => nomatch h⟩⟩⟩⟩
theorem VTop.vin {w : World} {P : Addr → Obj → Prop} {n : Nat} {r : Value} {T : Tr} (h : VTop w P n r T) : VIn w P n r T := by
  obtain ⟨x, dx, k, t, rows, atv, t1, t2, t3, t4, t5, rfl, h1, h2, _, h3⟩ := h
  exact (h3.mono fun _ _ z => z.1).vin (inst_of h1 h2)
theorem VTop.mono {w : World} {P P' : Addr → Obj → Prop} (h : ∀ a o, P a o → P' a o) {n : Nat} {r : Value} {T : Tr} (y : VTop w P n r T) : VTop w P' n r T := by
  obtain ⟨x, dx, k, t, rows, atv, t1, t2, t3, t4, t5, e, h1, h2, h4, h3⟩ := y
  exact ⟨x, dx, k, t, rows, atv, t1, t2, t3, t4, t5, e, h _ _ h1, h _ _ h2, h4, h3.mono fun _ _ z => ⟨h _ _ z.1, z.2⟩⟩

section
variable {prog : Program} {w : World} {A : Around} {E : Value → Shared → Prop} {s : Shared} {h₀ : Heap} {L : Addr} {m : Str → Option Value} {env : Env} {elt : PySem.Expr} {x : Str} {scope : Scope} {cl : List (Str × Addr)}
abbrev StepZ (prog : Program) (w : World) (A : Around) (h₀ : Heap) (L : Addr) (m : Str → Option Value) (env : Env) (elt : PySem.Expr) (x : Str) (scope : Scope) (cl : List (Str × Addr)) (s : Shared) (P : Nat → Value → Prop) (c : List (Addr × Obj)) (J : Nat → List Value → List (Addr × Obj) → Prop) (n : Nat) : Prop :=
  ∀ i v ys tl I oI C oC D m₂ h tk (E' : Value → Shared → Prop) (Q' : Value → Shared → Prop), i < n → P i v → J i ys tl → LCg.NsObj oC m₂ → m₂ x = some v → Fr h₀ L h m → News h₀ L h ((I, oI) :: (C, oC) :: (D, LCg.lst ys) :: (c ++ tl)) →
    (∀ h' tk' new y, Fr h₀ L h' m → News h₀ L h' (new ++ ((I, oI) :: (C, oC) :: (D, LCg.lst ys) :: (c ++ tl))) → LCg.Off3 I C D new → J (i + 1) (ys ++ [y]) (new ++ tl) → Q' y { s with heap := h', toks := tk' }) →
    wpAny (model prog w) A (eval elt (compEnvC scope cl C env)) Q' E' { s with heap := h, toks := tk }
theorem compz_rest {s : Shared} {SS : List (Addr × Obj) → Prop} {P : Nat → Value → Prop} {n : Nat} {F₁ : List Value → List (Addr × Obj) → Prop} {c : List (Addr × Obj)} (J : Nat → List Value → List (Addr × Obj) → Prop) (j0 : J 0 [] [])
    (hSS : ∀ tl, SS (c ++ tl)) (step : StepZ prog w A h₀ L m env elt x scope cl s P c J n) (fin : ∀ ys tl, J n ys tl → F₁ ys (c ++ tl)) :
    LCg.CompRest prog w A h₀ L m env elt x scope cl s SS P F₁ n 0 [] c := by
  refine rest_ind (n := n) (fun i ys news => ∃ tl, news = c ++ tl ∧ J i ys tl) ?_ ?_ n 0 [] c (Nat.zero_add _) ⟨[], by rw [List.append_nil], j0⟩
  · rintro i ys news' v I oI C oC D m₂ h tk E' hi ⟨tl, rfl, j⟩ hp hC hx F N off ne
    refine step i v ys tl I oI C oC D m₂ h tk E' _ hi hp j hC hx F N ?_
    intro h' tk' new y F' N' o1 j'
    have z := off3_app.mp off
    refine LCg.CompEnd.intro F' N' (c ++ (new ++ tl)) (fun p hp => ?_) (off3_app.mpr ⟨z.1, off3_app.mpr ⟨o1, z.2⟩⟩) (hSS _) ⟨new ++ tl, rfl, j'⟩
    simp only [List.mem_cons, List.mem_append] at hp ⊢
    rcases hp with h | h | h | h | h | h <;> simp [h]
  · rintro ys news' ⟨tl, rfl, j⟩
    exact fin ys tl j
theorem compz_base {Fin : Shared → List Value → List (Addr × Obj) → Prop} {s₁ : Shared} {ax : Addr} {its : Array Value} {c : List (Addr × Obj)} (J : Nat → List Value → List (Addr × Obj) → Prop) (hh : A.handled = none) (F : Fr h₀ L s₁.heap m) (N : News h₀ L s₁.heap c)
    (hm : h₀.IsList ax its) (hsz : its.size ≤ sizeLine) (j0 : J 0 [] [])
    (step : ∀ g, StepZ prog w A h₀ L m env elt x scope cl { s₁ with heap := g } (fun i v => its[i]? = some v) c J its.size)
    (fin : ∀ g ys tl, J its.size ys tl → Fin { s₁ with heap := g } ys (c ++ tl)) : LCg.CompSrc prog w A h₀ L m env elt x scope cl Fin (.ref ax) s₁ :=
  LCg.CompSrc.base hh F N hm hsz fun g => compz_rest J j0 (fun _ => .inl hm) (step g) (fin g)
end

section
variable {prog : Program} {w : World} {A : Around} {E : Value → Shared → Prop} {s : Shared} {env : Env} {h₀ : Heap} {body : List Stmt} {Q : Flow → Shared → Prop}
def PairPost (h₀ : Heap) (L : Addr) (m : Str → Option Value) (I : Addr) (oI : Obj) (SS : List (Addr × Obj) → Prop) (J : List (Addr × Obj) → Prop) (s : Shared) (f : Flow) (s' : Shared) : Prop :=
  f = .next ∧ ∃ h' tk' news₂, s' = { s with heap := h', toks := tk' } ∧ Fr h₀ L h' m ∧ News h₀ L h' ((I, oI) :: news₂) ∧ (∀ p ∈ news₂, (@Ne Nat p.1 I)) ∧ SS news₂ ∧ J news₂
def SrcO (h₀ : Heap) (ax : Addr) (its : Array Value) (so : Obj) (news : List (Addr × Obj)) : Prop := h₀.IsList ax its ∨ ((ax, so) ∈ news ∧ so.cls = .type "list" ∧ ∃ n, so.data = .seq its n)
/-- over a list of pairs -/
theorem iter_pairs {ax : Addr} {so : Obj} {us : List Value} {ps : List (Str × Int)} {m₀ : Str → Option Value} {news : List (Addr × Obj)} {xi xc : Str} {pk pv pt : Pos} {x1 : Nat} (J : Nat → List (Addr × Obj) → Prop) (hh : A.handled = none)
    (hxi : env.kindOf xi = some .local) (hxc : env.kindOf xc = some .local) (hp : (env.scope.kind == .class || (env.scope.kind == .module && env.locals != env.globals)) = false)
    (F : Fr h₀ env.locals s.heap m₀) (N : News h₀ env.locals s.heap news) (hl : SrcO h₀ ax us.toArray so news) (hu : All2 (AtT (Hp h₀)) us ps) (hj : J 0 news)
    (turn : ∀ i p t t' I oI (s₁ : Shared) news₁, ps[i]? = some p → J i news₁ → Fr h₀ env.locals s₁.heap (fun y => if y = xc then some (.int p.2 t') else if y = xi then some (.str p.1 t) else m₀ y) → News h₀ env.locals s₁.heap ((I, oI) :: news₁) →
      (∀ p ∈ news₁, (@Ne Nat p.1 I)) → SrcO h₀ ax us.toArray so news₁ →
      wpAny (model prog w) A (execs body env) (PairPost h₀ env.locals (fun y => if y = xc then some (.int p.2 t') else if y = xi then some (.str p.1 t) else m₀ y) I oI (SrcO h₀ ax us.toArray so) (J (i + 1)) s₁) E s₁)
    (done : ∀ (u v : Str → Option Value) h tk news₁, J ps.length news₁ → Fr h₀ env.locals h (fun y => if y = xc then u y else if y = xi then v y else m₀ y) → News h₀ env.locals h news₁ → Q .next { s with heap := h, toks := tk }) :
    wpAny (model prog w) A (pyIter (.ref ax)) (fun it s₂ => LoopAtT prog w A h₀ env (.Tuple [.Name xi pk, .Name xc pv] x1 pt) body Q E it s₂) E s := by
  have hls : s.heap.IsList ax us.toArray := by
    rcases hl with ⟨o, e, r⟩ | ⟨hm, r⟩
    · exact ⟨o, F.keep _ _ e, r⟩
    · exact ⟨_, (N _ hm).1, r⟩
  have hlt : ax < s.heap.objs.size := by obtain ⟨_, e, _⟩ := hls; exact Heap.lt_size e
  have hne : ax ≠ s.heap.objs.size := Nat.ne_of_lt hlt
  have hlen : us.toArray.size = ps.length := by rw [List.size_toArray]; exact hu.length
  refine wpAny_pyIter_list hls ?_
  have W := Walks.list (prog := prog) (w := w) hh s.heap.objs.size ax hne us.toArray
  rw [hlen] at W
  have hI0 : h₀.get? s.heap.objs.size = none := next_is_new F
  have hLI : env.locals ≠ s.heap.objs.size := Nat.ne_of_lt F.ns.lt
  let m' : (Str → Option Value) → Prop := fun m₁ => ∃ u v : Str → Option Value, m₁ = fun y => if y = xc then u y else if y = xi then v y else m₀ y
  by_cases hb : env.locals ∈ [s.heap.objs.size, ax]
  · exfalso
    rcases List.mem_cons.mp hb with q | q
    · exact hLI q
    · have q := List.mem_singleton.mp q
      rcases hl with ⟨o, e, _⟩ | ⟨hm, _⟩
      · have := Heap.get?_none_of_le F.above
        rw [q, e] at this; cases this
      · exact (N _ hm).2.1 q.symm
  refine ⟨s.heap.objs.size, _, _, ps.length, _, _, m₀, news, (fun i m₁ n₁ => m' m₁ ∧ SrcO h₀ ax us.toArray so n₁ ∧ J i n₁), rfl, W, hb, fun b hb => (List.mem_singleton.mp hb) ▸ hI0, fun p hp hI => Nat.ne_of_lt (Heap.lt_size (N p hp).1) (List.mem_singleton.mp hI),
    ⟨⟨_, Heap.get?_push_size _ rfl, rfl, rfl⟩, hls.at fun o e => Heap.get?_push_of_some _ e⟩, F.push _, (fun p hp => ⟨Heap.get?_push_of_some _ (N p hp).1, (N p hp).2⟩), (fun i s' v Q' st hQ' => letGo_listiter st.1 hQ'), ⟨⟨m₀, m₀, ?_⟩, hl, hj⟩, ?_, ?_⟩
  · funext y; by_cases h1 : y = xc <;> by_cases h2 : y = xi <;> simp [h1, h2]
  · rintro i v m₁ news₁ s₁ own hi hP ⟨⟨u, w', rfl⟩, hs, hJ⟩ hoff hsub hown hall st F₁ N₁
    obtain ⟨p, hp1, hq⟩ := hu.get (i := i) (a := v) (by simpa using hP)
    obtain ⟨q, t, t', k, rfl, hqo⟩ := hq
    have ht : s₁.heap.IsTuple q #[.str p.1 t, .int p.2 t'] := ⟨_, F₁.keep _ _ hqo, rfl, k, rfl⟩
    obtain ⟨oI, eI, rI⟩ := st.1
    refine wpAny_assign_Tuple hh ht rfl rfl fun h₃ hx₃ => ?_
    replace hx₃ : Heap.ExtBut s₁.heap.objs.size s₁.heap h₃ := hx₃
    have up₃ : ∀ b o, s₁.heap.get? b = some o → h₃.get? b = some o := fun b o x => hx₃ b o (Nat.ne_of_lt (Heap.lt_size x)) x
    show wpAny _ A (do holding [.int p.2 t'] (assign (.Name xi pk) env (.str p.1 t)); do holding [] (assign (.Name xc pv) env (.int p.2 t')); pure ()) _ _ _
    have F₃ := F₁.keeps up₃
    refine wpAny_bind (wpAny_holding (wpAny_assign_Name (wpAny_storeName_local hxi F₃.ns (fun h₄ hn₄ hs₄ => ?_) hp)))
    replace hs₄ : Heap.SameBut env.locals h₃ h₄ := hs₄
    have F₄ := F₃.set hn₄ hs₄
    refine wpAny_bind (wpAny_holding (wpAny_assign_Name (wpAny_storeName_local hxc F₄.ns (fun h₅ hn₅ hs₅ => wpAny_pure ?_) hp)))
    replace hs₅ : Heap.SameBut env.locals h₄ h₅ := hs₅
    have F₅ := F₄.set hn₅ hs₅
    have N₅ := ((N₁.grown up₃).set hs₄).set hs₅
    have ef : (fun z => if z = xc then some (Value.int p.2 t') else (fun z => if z = xi then some (Value.str p.1 t) else (fun y => if y = xc then u y else if y = xi then w' y else m₀ y) z) z) = fun y => if y = xc then some (.int p.2 t') else if y = xi then some (.str p.1 t) else m₀ y := by
      funext y; by_cases h1 : y = xc <;> by_cases h2 : y = xi <;> simp [h1, h2]
    rw [ef] at F₅
    have zI : h₅.get? s.heap.objs.size = some oI := hs₅.extBut _ _ (Ne.symm hLI) (hs₄.extBut _ _ (Ne.symm hLI) (up₃ _ _ eI))
    have Nn : News h₀ env.locals h₅ ((s.heap.objs.size, oI) :: news₁) := fun p hp => by
      rcases List.mem_cons.mp hp with rfl | hp
      · exact ⟨zI, Ne.symm hLI, hI0⟩
      · exact N₅ p (List.mem_append.mpr (.inr hp))
    refine wpAny_mono (turn i p t t' s.heap.objs.size oI _ news₁ hp1 hJ F₅ Nn (fun p hp q => hoff p hp (List.mem_singleton.mpr q)) hs) (fun f s₃ h₃' => ?_) fun _ _ e => e
    obtain ⟨rfl, h', tk', news₂, rfl, F', N', o', S', J'⟩ := h₃'
    refine ⟨rfl, h', tk', _, news₂, rfl, F', fun r hr => ?_, fun p hp hI => o' p hp (List.mem_singleton.mp hI), ⟨⟨_, _, rfl⟩, S', J'⟩⟩
    rcases List.mem_append.mp hr with hr | hr
    · have e1 := hown r hr
      rcases List.mem_cons.mp (hsub r hr) with e | e
      · have : r.2 = oI := by rw [e, eI] at e1; exact (Option.some.inj e1).symm
        have z := N' _ (List.Mem.head _)
        rw [show r = (s.heap.objs.size, oI) from Prod.ext e this]; exact z
      · have e := List.mem_singleton.mp e
        have z := N₁ r (List.mem_append.mpr (.inl hr))
        refine ⟨?_, z.2⟩
        rcases S' with ⟨o, eo, _⟩ | ⟨hm, hc⟩
        · have := z.2.2; rw [e, eo] at this; cases this
        · have y := (N' _ (List.Mem.tail _ hm)).1
          rcases hs with ⟨o₁, eo, _⟩ | ⟨hm₁, hc₁⟩
          · have := z.2.2; rw [e, eo] at this; cases this
          · have y₁ := (N₁ _ (List.mem_append.mpr (.inr hm₁))).1
            rw [e, y₁] at e1
            rw [e, ← Option.some.inj e1]; exact y
    · exact N' r (List.Mem.tail _ hr)
  · rintro h' tk m₁ news' F' N' hoff ⟨⟨u, v, rfl⟩, _, hJ⟩
    exact done u v h' tk news' hJ F' N'
end
end Mine
end BuiltU

section Pairs
open PySem PySem.Spec PySem.Calls PyProof.Rows PySem.W PyProof.V
namespace Mine
noncomputable def pairD (p : Str × Int) : PyData := .tuple [.str p.1, .int p.2]
theorem pairs_read {h : Heap} : ∀ {us : List Value} {ps : List (Str × Int)}, All2 (AtT (Hp h)) us ps → ReadsAll h us (ps.map pairD) []
  | _, _, .nil => .nil
  | _, _, .cons ⟨_, t, t', _, e, hq⟩ r => by
    subst e
    exact ReadsAll.cons (as := []) (reads_tuple_at hq rfl rfl (readsAll_cons_val (Reads.str _ _) (readsAll_cons_val (Reads.int _ _) .nil))) (pairs_read r)
theorem pairs_lay : ∀ {ps : List (Str × Int)}, (∀ p ∈ ps, PyData.strOk p.1 = true) → PyData.canLayAll0 (ps.map pairD) = true ∧ PyData.depthAll (ps.map pairD) ≤ 2
  | [], _ => ⟨rfl, by simp [PyData.depthAll]⟩
  | p :: ps, h => by
    have z := pairs_lay fun q hq => h q (.tail _ hq)
    have y := h p (.head _)
    constructor
    · simp [PyData.canLayAll0, pairD, PyData.canLay0, y, z.1]
    · have := z.2
      simp only [List.map_cons, PyData.depthAll, pairD, PyData.depth]
      omega
theorem pairs_shaped {ps : List (Str × Int)} (h : ∀ p ∈ ps, PyData.strOk p.1 = true) : SeqAt.shaped (.list (ps.map pairD)) = true := by
  have z := pairs_lay h
  have := z.2
  simp only [SeqAt.shaped, PyData.canLay0, z.1, PyData.depth, Bool.true_and]
  exact decide_eq_true (by omega)
theorem ne_nil {prog : Program} {w : World} {A : Around} {E : Value → Shared → Prop} {Q : Value → Shared → Prop} {s : Shared} {h₀ : Heap} {L a b : Addr} {m : Str → Option Value} {us : List Value} {ps : List (Str × Int)} {news : List (Addr × Obj)} {n : Nat}
    (F : Fr h₀ L s.heap m) (N : News h₀ L s.heap news) (hl : h₀.IsList a us.toArray) (hu : All2 (AtT (Hp h₀)) us ps) (ok : ∀ p ∈ ps, PyData.strOk p.1 = true) (hb : (b, listOf #[] n) ∈ news) (hr : A.units + 64 < cLine) (h : Q (.bool (!decide (ps = []))) s) :
    wpAny (model prog w) A (compareOp .NotEq (.ref a) (.ref b)) Q E s := by
  have hl' : s.heap.IsList a us.toArray := hl.at fun o e => F.keep a o e
  obtain ⟨o, eo, hc, k, hd⟩ := hl'
  refine ne_dataH (reads_list_at eo hc hd (pairs_read (hu.mono fun _ _ y => y.mono fun a o e => F.keep a o e))) (reads_list_at (N _ hb).1 rfl rfl ReadsAll.nil) (pairs_shaped ok) rfl hr ?_
  have e : PyData.eqv (.list (ps.map pairD)) (.list []) = decide (ps = []) := by
    cases ps <;> simp [PyData.eqv, PyData.eqvAll]
  rw [e]; exact h
end Mine
end Pairs

section Built
open PySem PySem.Spec PySem.Calls PyProof.Rows PySem.W PyProof.V
namespace Mine
structure BuiltC (w : World) (n : Nat) : Prop where
  run : ∀ {mean : ExcName → Option Value} {mg mb : Str → Option Value} {A A₁ : Around} {base : Heap} {outs : List Env} {s : Shared} {RR : Result → Shared → Prop} {v : Value} {b : Bool} {T : Tr},
    A.handled = none → A.depth ≤ 800 - 10 * n → A.units ≤ 8000 - 100 * n → A.frames = some outs → Amb w mean mg mb A₁ base outs s.heap → TIn (Hp s.heap) n v T → Wf 2 n T →
    (∀ h' tk' r, Kept [] s.heap h' → VIn w (New s.heap h') n r (turnIf n b T) → (IsV T → VTop w (New s.heap h') n r (turnIf n b T)) → RR (.ok (.ret r)) { s with heap := h', toks := tk' }) →
    codeAny (model PySem.Challenge.rw_pq1317_01.row.prog w) A (.call (.ref 201) ⟨[v, .bool b], []⟩) RR s
theorem base_list {h₀ h : Heap} {L l : Addr} {m : Str → Option Value} {its : Array Value} (F : Fr h₀ L h m) (hl : h₀.IsList l its) : h.IsList l its := hl.at fun o e => F.keep l o e
local macro_rules | `(tactic| k_room) => `(tactic| ((try simp only [depth_under_make, depth_under_kw, depth_in1, depth_deeper, depth_caller]); (try dsimp only); refine Nat.lt_of_lt_of_le (m := 990) ?_ (Nat.le_of_ble_eq_true rfl); omega))



theorem turnIf_null {n : Nat} {b : Bool} : turnIf n b .null = .null := by unfold turnIf; split <;> (try unfold turn) <;> rfl
theorem turnIf_name {n : Nat} {b : Bool} {x : Str} : turnIf n b (.name x) = .name x := by unfold turnIf; split <;> (try unfold turn) <;> rfl
theorem turnIf_vec {n : Nat} {b : Bool} {k : Str} {r : List Int} {a : List (Str × Int)} : turnIf n b (.vec k r a) = .vec k r (if b then a.reverse else a) := by unfold turnIf; cases b <;> simp [turn]
theorem turnIf_list {n : Nat} {b : Bool} {ks : List Tr} {a : List (Str × Int)} : turnIf (n + 1) b (.list ks a) = .list (ks.map (turnIf n b)) (if b then a.reverse else a) := by
  have e : ∀ ks : List Tr, ks.map (turnIf n false) = ks := fun ks => by rw [show turnIf n false = id from funext fun T => rfl]; exact List.map_id ks
  have e' : ∀ ks : List Tr, ks.map (turnIf n true) = ks.map (turn n) := fun ks => by rw [show turnIf n true = turn n from funext fun T => rfl]
  cases b
  · rw [e]; rfl
  · rw [e']; simp [turnIf, turn]
theorem turnIf_call {n : Nat} {b : Bool} {t : List (Option Str)} {ks : List Tr} : turnIf (n + 1) b (.call t ks) = .call t (ks.map (turnIf n b)) := by
  have e : ∀ ks : List Tr, ks.map (turnIf n false) = ks := fun ks => by rw [show turnIf n false = id from funext fun T => rfl]; exact List.map_id ks
  have e' : ∀ ks : List Tr, ks.map (turnIf n true) = ks.map (turn n) := fun ks => by rw [show turnIf n true = turn n from funext fun T => rfl]
  cases b
  · rw [e]; rfl
  · rw [e']; simp [turnIf, turn]

section
variable {w : World} {mean : ExcName → Option Value} {mg mb : Str → Option Value} {A₀ A : Around} {base h₀ : Heap} {outer : List Env} {L : Addr} {m : Str → Option Value} {env : Env} {news : List (Addr × Obj)} {s : Shared} {E : Value → Shared → Prop} {Q' : Value → Shared → Prop}
theorem built_use {n : Nat} {v : Value} {b : Bool} {T : Tr} (C : BuiltC w n) (hT : TIn (Hp h₀) n v T) (hw : Wf 2 n T)
    (B : Below A₀ base outer h₀) (F : Fr h₀ L s.heap m) (N : News h₀ L s.heap news) (X : (hd.heap_39 w.params).In h₀) (T' : Tp mean mg mb h₀) (hA : A.frames = some (env :: outer)) (hf : env.frame = some L) (hke : env.scope.kind = .function)
    (hh : A.handled = none) (hd : A.depth ≤ 800 - 10 * n) (hu : A.units ≤ 8000 - 100 * n)
    (ret : ∀ r tl h' tk', Fr h₀ L h' m → News h₀ L h' (tl ++ news) → (∀ p ∈ tl, ∀ q ∈ news, (@Ne Nat p.1 q.1)) → VIn w (OnL tl) n r (turnIf n b T) → (IsV T → VTop w (OnL tl) n r (turnIf n b T)) → Q' r { s with heap := h', toks := tk' }) :
    wpAny (model PySem.Challenge.rw_pq1317_01.row.prog w) A (call (.ref 201) [v, .bool b]) Q' E s := by
  refine wpAny_call (C.run hh hd hu hA (amb_of (mu := []) B F News.nil X T' hA hf hke) (hT.mono fun a o e => F.keep a o e) hw fun h' tk' r k x y => ?_)
  obtain ⟨tl, N', hn, ht⟩ := new_tl (h' := h') F
  exact ret r tl h' tk' (k.fr F (fun x => nomatch x) fun _ x => nomatch x) (fun p hp => by
    rcases List.mem_append.mp hp with hp | hp
    · exact N' p hp
    · exact k.news N (fun _ _ x => nomatch x) p hp) (fun p hp q hq => new_ne N hn hq p hp) (x.mono ht) fun z => (y z).mono ht
end
def BKJ (w : World) (n : Nat) (b : Bool) (ks : List Tr) (i : Nat) (ys : List Value) (tl : List (Addr × Obj)) : Prop := All2 (VIn w (OnL tl) n) ys ((ks.take i).map (turnIf n b))
theorem BKJ.snoc {w : World} {n i : Nat} {b : Bool} {ks : List Tr} {ys : List Value} {tl new : List (Addr × Obj)} (j : BKJ w n b ks i ys tl) {v : Value} {T : Tr} (hk : ks[i]? = some T) (h : VIn w (OnL new) n v (turnIf n b T)) : BKJ w n b ks (i + 1) (ys ++ [v]) (new ++ tl) := by
  unfold BKJ at j ⊢
  rw [List.take_add_one, hk, List.map_append]
  exact (j.mono fun _ _ y => y.mono fun _ _ h => List.mem_append.mpr (.inr h)).append (.cons (h.mono fun _ _ h => List.mem_append.mpr (.inl h)) .nil)

def SrcJ (g : Heap) (L : Addr) (m : Str → Option Value) (s : Shared) (news : List (Addr × Obj)) (us : List Value) (v : Value) (s' : Shared) : Prop :=
  ∃ ax so h' tk' new, v = .ref ax ∧ s' = { s with heap := h', toks := tk' } ∧ Fr g L h' m ∧ News g L h' (new ++ news) ∧ SrcO g ax us.toArray so new ∧ ∀ p ∈ new, ∀ q ∈ news, (@Ne Nat p.1 q.1)
theorem src_join {M : Model} {A : Around} {X : Sem Value} {Q' : Value → Shared → Prop} {E : Value → Shared → Prop} {g : Heap} {L : Addr} {m : Str → Option Value} {s : Shared} {news : List (Addr × Obj)} {us : List Value} {b : Bool}
    (_F : Fr g L s.heap m) (_N : News g L s.heap news)
    (h1 : wpAny M A X (SrcJ g L m s news (if b then us.reverse else us)) E s)
    (h2 : ∀ ax so h' tk' new, Fr g L h' m → News g L h' (news ++ new) → SrcO g ax (if b then us.reverse else us).toArray so new → (∀ p ∈ new, ∀ q ∈ news, (@Ne Nat p.1 q.1)) → Q' (.ref ax) { s with heap := h', toks := tk' }) :
    wpAny M A X Q' E s := wpAny_mono h1 (fun _ _ h => by
      obtain ⟨ax, so, h', tk', new, rfl, rfl, a, b, c, d⟩ := h
      exact h2 ax so h' tk' new a (fun p hp => b p (by
        rcases List.mem_append.mp hp with hp | hp
        · exact List.mem_append.mpr (.inr hp)
        · exact List.mem_append.mpr (.inl hp))) c d) fun _ _ e => e
def AtsJ (w : World) (d dx : Addr) (c : List (Addr × Obj)) (qs : List (Str × Int)) (i : Nat) (news : List (Addr × Obj)) : Prop :=
  ∃ od kvs nw, news = (d, od) :: (c ++ nw) ∧ od.IsDictOf (PySem.strKind PySem.Challenge.rw_pq1317_01.row.prog w) kvs ∧ All2 (AtP (OnL nw)) kvs (qs.take i) ∧ ∀ p ∈ nw, (@Ne Nat p.1 d) ∧ (@Ne Nat p.1 dx)

theorem allLt_ne {d : Nat} : ∀ {l : List (Addr × Obj)}, AllLt d l → ∀ p ∈ l, (@Ne Nat p.1 d)
  | [], _, _, h => nomatch h
  | _ :: _, x, p, h => by
    rcases List.mem_cons.mp h with rfl | h
    · exact Nat.ne_of_lt x.1
    · exact allLt_ne x.2 p h
noncomputable abbrev dxOf {d : Nat} {l : List (Addr × Obj)} (_ : ∀ p ∈ l, (@Ne Nat p.1 d)) : Addr := d
theorem mem_shuffle {x y p : Addr × Obj} {a c nw : List (Addr × Obj)} (h : p ∈ x :: y :: (c ++ (a ++ nw))) : p ∈ a ++ (x :: y :: (c ++ nw)) := by
  simp only [List.mem_cons, List.mem_append] at h ⊢
  rcases h with h | h | h | h | h <;> simp [h]
theorem off_shuffle {I d : Addr} {od od' : Obj} {a c nw : List (Addr × Obj)} (h : ∀ p ∈ (d, od) :: (c ++ nw), (@Ne Nat p.1 I)) (ha : ∀ p ∈ a, (@Ne Nat p.1 I)) : ∀ p ∈ (d, od') :: (c ++ (a ++ nw)), (@Ne Nat p.1 I) := fun p hp => by
  rcases List.mem_cons.mp hp with rfl | hp
  · exact h (d, od) (.head _)
  · rcases List.mem_append.mp hp with hp | hp
    · exact h p (.tail _ (List.mem_append.mpr (.inl hp)))
    · rcases List.mem_append.mp hp with hp | hp
      · exact ha p hp
      · exact h p (.tail _ (List.mem_append.mpr (.inr hp)))
theorem off_app {d : Addr} {a b : List (Addr × Obj)} (x : ∀ p ∈ a, (@Ne Nat p.1 d)) (y : ∀ p ∈ b, (@Ne Nat p.1 d)) : ∀ p ∈ a ++ b, (@Ne Nat p.1 d) := fun p hp => (List.mem_append.mp hp).elim (x p) (y p)
theorem pair_end {w : World} {h₀ h5 : Heap} {L I d dx : Addr} {m : Str → Option Value} {oI od o5 : Obj} {SS : List (Addr × Obj) → Prop} {c nw : List (Addr × Obj)} {qs : List (Str × Int)} {i tk : Nat} {s : Shared} {kvs : List (Str × Value)} {a1 a2 a3 : Addr × Obj}
    (F5 : Fr h₀ L h5 m) (N5 : News h₀ L h5 (a1 :: a2 :: a3 :: (I, oI) :: (d, o5) :: (c ++ nw))) (hI : ∀ p ∈ (d, od) :: (c ++ nw), (@Ne Nat p.1 I)) (h1 : (@Ne Nat a1.1 I)) (h2 : (@Ne Nat a2.1 I)) (h3 : (@Ne Nat a3.1 I))
    (g1 : (@Ne Nat a1.1 d) ∧ (@Ne Nat a1.1 dx)) (g2 : (@Ne Nat a2.1 d) ∧ (@Ne Nat a2.1 dx)) (g3 : (@Ne Nat a3.1 d) ∧ (@Ne Nat a3.1 dx)) (hnd : ∀ p ∈ nw, (@Ne Nat p.1 d) ∧ (@Ne Nat p.1 dx)) (hS : ∀ nw', SS ((d, o5) :: (c ++ nw'))) (hd : o5.IsDictOf (PySem.strKind PySem.Challenge.rw_pq1317_01.row.prog w) kvs)
    (hk : All2 (AtP (OnL (a1 :: a2 :: a3 :: nw))) kvs (qs.take (i + 1))) : PairPost h₀ L m I oI SS (AtsJ w d dx c qs (i + 1)) s .next { s with heap := h5, toks := tk } :=
  ⟨rfl, h5, tk, (d, o5) :: (c ++ ([a1, a2, a3] ++ nw)), rfl, F5, fun _ hp => N5 _ (mem_shuffle (a := [a1, a2, a3]) hp),
    off_shuffle (a := [a1, a2, a3]) hI (List.forall_mem_cons.mpr ⟨h1, List.forall_mem_cons.mpr ⟨h2, List.forall_mem_cons.mpr ⟨h3, fun _ h => nomatch h⟩⟩⟩), hS _,
    ⟨o5, kvs, a1 :: a2 :: a3 :: nw, rfl, hd, hk, List.forall_mem_cons.mpr ⟨g1, List.forall_mem_cons.mpr ⟨g2, List.forall_mem_cons.mpr ⟨g3, hnd⟩⟩⟩⟩⟩
theorem ats_more {nw nw' : List (Addr × Obj)} {kvs : List (Str × Value)} {qs : List (Str × Int)} {i : Nat} {p : Str × Int} {v : Value} (hn : (qs.map (·.1)).Nodup) (h : All2 (AtP (OnL nw)) kvs (qs.take i)) (hp : qs[i]? = some p) (hs : ∀ q ∈ nw, q ∈ nw')
    (hv : AtP (OnL nw') (p.1, v) p) : All2 (AtP (OnL nw')) (stored kvs p.1 v) (qs.take (i + 1)) := by
  have ni : p.1 ∉ (qs.take i).map (·.1) := fun hm => by
    have ht : qs.take (i + 1) = qs.take i ++ [p] := by rw [List.take_add_one, hp]; rfl
    have hn' : ((qs.take (i + 1)).map (·.1)).Nodup := by rw [List.map_take]; exact (List.take_sublist _ _).nodup hn
    rw [ht, List.map_append] at hn'
    exact (List.nodup_append.mp hn').2.2 _ hm _ (List.mem_singleton.mpr rfl) rfl
  have hva : valueAt kvs p.1 = none := by
    rcases atP_value (k := p.1) h with z | ⟨x, v', _, z, _⟩
    · exact z.1
    · rw [at?_none ni] at z; cases z
  rw [stored_absent hva, List.take_add_one, hp]
  exact (h.mono fun _ _ y => ⟨y.1, y.2.mono fun a o m => hs _ m⟩).append (.cons hv .nil)

def ItJ (k : Str) (r : List Int) (i : Nat) (ys : List Value) (_ : List (Addr × Obj)) : Prop := CarriedAll ys ((r.take i).map (itm k))
theorem carried_snoc {v : Value} {d : PyData} (h : Carried v d) : ∀ {ys : List Value} {ns : List PyData}, CarriedAll ys ns → CarriedAll (ys ++ [v]) (ns ++ [d])
  | _, _, .nil => .cons h .nil
  | _, _, .cons x r => .cons x (carried_snoc h r)
theorem ItJ.snoc {k : Str} {r : List Int} {i : Nat} {ys : List Value} {tl tl' : List (Addr × Obj)} (j : ItJ k r i ys tl) {v : Value} {x : Int} (hx : r[i]? = some x) (h : Carried v (itm k x)) : ItJ k r (i + 1) (ys ++ [v]) tl' := by
  unfold ItJ at j ⊢
  rw [List.take_add_one, hx, List.map_append]
  exact carried_snoc h j
theorem ints_at : ∀ {vs : List Value} {ns : List Int} {i : Nat} {v : Value}, IntsAre vs ns → vs[i]? = some v → ∃ x t, v = .int x t ∧ ns[i]? = some x
  | _, _, 0, _, .cons x t _, h => by cases h; exact ⟨x, t, rfl, rfl⟩
  | _, _, i + 1, _, .cons _ _ r, h => ints_at (i := i) r (by simpa using h)
theorem item_pq {prog : Program} {w : World} {A : Around} {E : Value → Shared → Prop} {s : Shared} {value slice : PySem.Expr} {h₀ : Heap} {L l : Addr} {news : List (Addr × Obj)} {n : Nat} {i : Int} {u t1 t2 : Tok} {Q : Value → Shared → Prop}
    (N : News h₀ L s.heap news) (hm : (l, listOf #[.str ("p" : Str) t1, .str ("q" : Str) t2] n) ∈ news) (h0 : i = 0 ∨ i = 1) (h : ∀ t, Q (.str (pq i) t) s)
    (hs : subscripted slice false (.ref l) (.int i u) = operate [.ref l, .int i u] (getItem (.ref l) (.int i u)) := by with_unfolding_all rfl) (hg : ∀ r, letTemporaryGo value (.ref l) r = pure () := by intro _; with_unfolding_all rfl) :
    wpAny (model prog w) A (subscriptTail value slice (.ref l) (.int i u)) Q E s := by
  have hl : s.heap.IsList l #[.str ("p" : Str) t1, .str ("q" : Str) t2] := ⟨_, (N _ hm).1, rfl, _, rfl⟩
  obtain rfl | rfl := h0
  · exact item_listL (k := 0) hl (by omega) (by omega) rfl (h t1) hs hg
  · exact item_listL (k := 1) hl (by omega) (by omega) rfl (h t2) hs hg

set_option maxHeartbeats 8000000 in
theorem built_null {w : World} {n : Nat} {mean : ExcName → Option Value} {mg mb : Str → Option Value} {base : Heap} {outs : List Env} {s : Shared} {RR : Result → Shared → Prop} {b : Bool} {a0 : Addr} {t te : Tok} {k : Nat} {rows ats : Value} 
    (Y : Amb w mean mg mb (AA (800 - 10 * n) (8000 - 100 * n) outs) base outs s.heap) (M : s.heap.get? a0 = some (listOf #[.str ("NULL" : Str) t, .str ("" : Str) te, rows, ats] k)) 
    (ret : ∀ h' tk' r, Kept [] s.heap h' → VIn w (New s.heap h') n r (turnIf n b (.null)) → (IsV (.null) → VTop w (New s.heap h') n r (turnIf n b (.null))) → RR (.ok (.ret r)) { s with heap := h', toks := tk' }) :
    codeAny (model PySem.Challenge.rw_pq1317_01.row.prog w) (AA (800 - 10 * n) (8000 - 100 * n) outs) (.call (.ref 201) ⟨[.ref a0, .bool b], []⟩) RR s := by
  have key : Amb w mean mg mb (AA (800 - 10 * n) (8000 - 100 * n) outs) base outs (hid s.heap []) := Y
  have KX := key.X
  revert KX
  k_fill
  intro KX
  refine' enterC (mu := []) (binds := [("tree", .ref a0), ("turned_round", .bool b)]) key (fun _ h => nomatch h) ?k6 ?k7 ?k8 ?k9 ?kB ?kD ?_ ?c2 ?c3 ?c4
  case k6 => k_is
  case k7 => k_is
  case k8 => exact Nat.lt_of_le_of_lt (Nat.sub_le _ _) (Nat.le_of_ble_eq_true rfl)
  case k9 => exact BindsTo.of_eq rfl
  case kB => exact rfl
  case kD => decide +kernel
  case c2 => exact rfl
  case c3 => exact rfl
  case c4 => exact rfl
  intro g' L' h' tk' cells' hg F' N' Y' B' X' T' l1
  clear l1
  k_cells Y'
  (try simp only [List.cons_append, List.nil_append] at N')
  (try dsimp only)
  clear KX key
  have fin : ∀ h' m' news tk r, Fr g' L' h' m' → News g' L' h' news → VIn w (OnL news) n r (turnIf n b (.null)) → (IsV (.null) → VTop w (OnL news) n r (turnIf n b (.null))) → RR (.ok (.ret r)) { s with heap := h', toks := tk } := fun h' m' news tk r F N x y =>
    have up : ∀ a o, OnL news a o → New s.heap h' a o := fun a o hm => ⟨by have := (N _ hm).2.2; rw [hg] at this; exact this, (N _ hm).1⟩
    ret h' tk r (fun c o _ e => F.keep c o (hg ▸ e)) (x.mono up) fun z => (y z).mono up
  have L0 : g'.IsList a0 #[.str ("NULL" : Str) t, .str ("" : Str) te, rows, ats] := hg ▸ ⟨_, M, rfl, _, rfl⟩
  clear hg ret
  (try k_fold)
  (repeat' (first | (k_unfold; (try dsimp only)) | (k_end; wrow_close) | ((fail_if_success (with_reducible show wpAny _ _ (exec (Stmt.For _ _ _ _ _) _) _ _ _)); (fail_if_success (with_reducible show wpAny _ _ (eval (Expr.IfExp _ _ _ _) _) _ _ _)); (fail_if_success (with_reducible show wpAny _ _ (pyIter _) _ _ _)); (fail_if_success (with_reducible show wpAny _ _ (call (Value.ref 201) _) _ _ _)); (fail_if_success (with_reducible show wpAny _ _ (subscriptTail _ (PySem.Expr.Slice _ _ _ _) (Value.ref _) (Value.ref _)) _ _ _)); (fail_if_success (with_reducible show wpAny _ _ (eval (Expr.ListComp _ _ _ _) _) _ _ _)); (fail_if_success (with_reducible show wpAny _ _ (exec (Stmt.Assign _ (Expr.ListComp _ _ _ _) _) _) _ _ _)); (fail_if_success (with_reducible show LCg.CompSrc _ _ _ _ _ _ _ _ _ _ _ _ _ _)); (fail_if_success (with_reducible show LCg.CompEnd _ _ _ _ _ _ _ _ _ _ _ _ _ _)); first | ((with_reducible show wpAny _ _ (assign (Expr.Tuple _ _ _) _ (Value.ref _)) _ _ _); refine' kun_list (by k_asm) (by k_asm) (by exact base_list (by assumption) (by assumption)) (by exact rfl) (by exact rfl) (by exact rfl) ?_; intro _ _ _; (try k_sweep)) | walk1 | (dsimp only; walk1) | (leave1; try dsimp only))))
  rename News _ _ _ _ => NN
  rename Fr _ _ _ _ => FF
  refine fin _ _ _ _ _ FF NN ?_ (fun h => nomatch h)
  rw [turnIf_null]
  unfold VIn
  refine' ⟨_, _, rfl, _, _, _, ?n1, ?n2, List.forall_mem_cons.mpr ⟨?n3, List.forall_mem_cons.mpr ⟨?n4, fun _ h => nomatch h⟩⟩⟩
  case n1 => k_mem
  case n2 => k_mem
  case n3 => rfl
  case n4 => rfl

set_option maxHeartbeats 8000000 in
theorem built_name {w : World} {n : Nat} {mean : ExcName → Option Value} {mg mb : Str → Option Value} {base : Heap} {outs : List Env} {s : Shared} {RR : Result → Shared → Prop} {b : Bool} {a0 : Addr} {t te : Tok} {k : Nat} {rows ats : Value} {x : Str}
    (Y : Amb w mean mg mb (AA (800 - 10 * n) (8000 - 100 * n) outs) base outs s.heap) (M : s.heap.get? a0 = some (listOf #[.str ("name" : Str) t, .str x te, rows, ats] k)) 
    (ret : ∀ h' tk' r, Kept [] s.heap h' → VIn w (New s.heap h') n r (turnIf n b (.name x)) → (IsV (.name x) → VTop w (New s.heap h') n r (turnIf n b (.name x))) → RR (.ok (.ret r)) { s with heap := h', toks := tk' }) :
    codeAny (model PySem.Challenge.rw_pq1317_01.row.prog w) (AA (800 - 10 * n) (8000 - 100 * n) outs) (.call (.ref 201) ⟨[.ref a0, .bool b], []⟩) RR s := by
  have key : Amb w mean mg mb (AA (800 - 10 * n) (8000 - 100 * n) outs) base outs (hid s.heap []) := Y
  have KX := key.X
  revert KX
  k_fill
  intro KX
  refine' enterC (mu := []) (binds := [("tree", .ref a0), ("turned_round", .bool b)]) key (fun _ h => nomatch h) ?k6 ?k7 ?k8 ?k9 ?kB ?kD ?_ ?c2 ?c3 ?c4
  case k6 => k_is
  case k7 => k_is
  case k8 => exact Nat.lt_of_le_of_lt (Nat.sub_le _ _) (Nat.le_of_ble_eq_true rfl)
  case k9 => exact BindsTo.of_eq rfl
  case kB => exact rfl
  case kD => decide +kernel
  case c2 => exact rfl
  case c3 => exact rfl
  case c4 => exact rfl
  intro g' L' h' tk' cells' hg F' N' Y' B' X' T' l1
  clear l1
  k_cells Y'
  (try simp only [List.cons_append, List.nil_append] at N')
  (try dsimp only)
  clear KX key
  have fin : ∀ h' m' news tk r, Fr g' L' h' m' → News g' L' h' news → VIn w (OnL news) n r (turnIf n b (.name x)) → (IsV (.name x) → VTop w (OnL news) n r (turnIf n b (.name x))) → RR (.ok (.ret r)) { s with heap := h', toks := tk } := fun h' m' news tk r F N x y =>
    have up : ∀ a o, OnL news a o → New s.heap h' a o := fun a o hm => ⟨by have := (N _ hm).2.2; rw [hg] at this; exact this, (N _ hm).1⟩
    ret h' tk r (fun c o _ e => F.keep c o (hg ▸ e)) (x.mono up) fun z => (y z).mono up
  have L0 : g'.IsList a0 #[.str ("name" : Str) t, .str x te, rows, ats] := hg ▸ ⟨_, M, rfl, _, rfl⟩
  clear hg ret
  (try k_fold)
  (repeat' (first | (k_unfold; (try dsimp only)) | (k_end; wrow_close) | ((fail_if_success (with_reducible show wpAny _ _ (exec (Stmt.For _ _ _ _ _) _) _ _ _)); (fail_if_success (with_reducible show wpAny _ _ (eval (Expr.IfExp _ _ _ _) _) _ _ _)); (fail_if_success (with_reducible show wpAny _ _ (pyIter _) _ _ _)); (fail_if_success (with_reducible show wpAny _ _ (call (Value.ref 201) _) _ _ _)); (fail_if_success (with_reducible show wpAny _ _ (subscriptTail _ (PySem.Expr.Slice _ _ _ _) (Value.ref _) (Value.ref _)) _ _ _)); (fail_if_success (with_reducible show wpAny _ _ (eval (Expr.ListComp _ _ _ _) _) _ _ _)); (fail_if_success (with_reducible show wpAny _ _ (exec (Stmt.Assign _ (Expr.ListComp _ _ _ _) _) _) _ _ _)); (fail_if_success (with_reducible show LCg.CompSrc _ _ _ _ _ _ _ _ _ _ _ _ _ _)); (fail_if_success (with_reducible show LCg.CompEnd _ _ _ _ _ _ _ _ _ _ _ _ _ _)); first | ((with_reducible show wpAny _ _ (assign (Expr.Tuple _ _ _) _ (Value.ref _)) _ _ _); refine' kun_list (by k_asm) (by k_asm) (by exact base_list (by assumption) (by assumption)) (by exact rfl) (by exact rfl) (by exact rfl) ?_; intro _ _ _; (try k_sweep)) | walk1 | (dsimp only; walk1) | (leave1; try dsimp only))))
  rename News _ _ _ _ => NN
  rename Fr _ _ _ _ => FF
  refine fin _ _ _ _ _ FF NN ?_ (fun h => nomatch h)
  rw [turnIf_name]
  unfold VIn
  refine' ⟨_, _, _, rfl, _, _, _, ?n1, ?n2, List.forall_mem_cons.mpr ⟨?n3, List.forall_mem_cons.mpr ⟨?n4, List.forall_mem_cons.mpr ⟨?n5, fun _ h => nomatch h⟩⟩⟩⟩
  case n1 => k_mem
  case n2 => k_mem
  case n3 => rfl
  case n4 => rfl
  case n5 => rfl

set_option maxHeartbeats 8000000 in
theorem built_call {w : World} {n : Nat} {mean : ExcName → Option Value} {mg mb : Str → Option Value} {base : Heap} {outs : List Env} {s : Shared} {RR : Result → Shared → Prop} {b : Bool} {a0 : Addr} {t : Tok} {k : Nat} {ats : Value} {mm : Nat} {tg : List (Option Str)} {ks : List Tr} {ra ea : Addr} {vs es : List Value}
    (Y : Amb w mean mg mb (AA (800 - 10 * n) (8000 - 100 * n) outs) base outs s.heap) (M : s.heap.get? a0 = some (listOf #[.str ("call" : Str) t, .ref ea, .ref ra, ats] k)) (hn5 : n ≤ 5) (hn : n = mm + 1) (CC : BuiltC w mm) (hr : s.heap.IsList ra vs.toArray) (hrl : vs.length ≤ 1000) (hvs : All2 (TIn (Hp s.heap) mm) vs ks) (hwf : ∀ k ∈ ks, Wf 2 mm k)
    (he : s.heap.IsList ea es.toArray) (hel : es.length ≤ 1000) (hes : CarriedAll es (tg.map tagD)) (hok : ∀ x ∈ tg, okTag x)
    (ret : ∀ h' tk' r, Kept [] s.heap h' → VIn w (New s.heap h') n r (turnIf n b (.call tg ks)) → (IsV (.call tg ks) → VTop w (New s.heap h') n r (turnIf n b (.call tg ks))) → RR (.ok (.ret r)) { s with heap := h', toks := tk' }) :
    codeAny (model PySem.Challenge.rw_pq1317_01.row.prog w) (AA (800 - 10 * n) (8000 - 100 * n) outs) (.call (.ref 201) ⟨[.ref a0, .bool b], []⟩) RR s := by
  have key : Amb w mean mg mb (AA (800 - 10 * n) (8000 - 100 * n) outs) base outs (hid s.heap []) := Y
  have KX := key.X
  revert KX
  k_fill
  intro KX
  refine' enterC (mu := []) (binds := [("tree", .ref a0), ("turned_round", .bool b)]) key (fun _ h => nomatch h) ?k6 ?k7 ?k8 ?k9 ?kB ?kD ?_ ?c2 ?c3 ?c4
  case k6 => k_is
  case k7 => k_is
  case k8 => exact Nat.lt_of_le_of_lt (Nat.sub_le _ _) (Nat.le_of_ble_eq_true rfl)
  case k9 => exact BindsTo.of_eq rfl
  case kB => exact rfl
  case kD => decide +kernel
  case c2 => exact rfl
  case c3 => exact rfl
  case c4 => exact rfl
  intro g' L' h' tk' cells' hg F' N' Y' B' X' T' l1
  clear l1
  k_cells Y'
  (try simp only [List.cons_append, List.nil_append] at N')
  (try dsimp only)
  clear KX key
  have fin : ∀ h' m' news tk r, Fr g' L' h' m' → News g' L' h' news → VIn w (OnL news) n r (turnIf n b (.call tg ks)) → (IsV (.call tg ks) → VTop w (OnL news) n r (turnIf n b (.call tg ks))) → RR (.ok (.ret r)) { s with heap := h', toks := tk } := fun h' m' news tk r F N x y =>
    have up : ∀ a o, OnL news a o → New s.heap h' a o := fun a o hm => ⟨by have := (N _ hm).2.2; rw [hg] at this; exact this, (N _ hm).1⟩
    ret h' tk r (fun c o _ e => F.keep c o (hg ▸ e)) (x.mono up) fun z => (y z).mono up
  have L0 : g'.IsList a0 #[.str ("call" : Str) t, .ref ea, .ref ra, ats] := hg ▸ ⟨_, M, rfl, _, rfl⟩
  have hr' : g'.IsList ra vs.toArray := hg ▸ hr
  have he' : g'.IsList ea es.toArray := hg ▸ he
  replace hvs : All2 (TIn (Hp g') mm) vs ks := hg ▸ hvs
  clear hg ret hr he
  (try k_fold)
  (repeat' (first | (k_unfold; (try dsimp only)) | (k_end; wrow_close) | ((fail_if_success (with_reducible show wpAny _ _ (exec (Stmt.For _ _ _ _ _) _) _ _ _)); (fail_if_success (with_reducible show wpAny _ _ (eval (Expr.IfExp _ _ _ _) _) _ _ _)); (fail_if_success (with_reducible show wpAny _ _ (pyIter _) _ _ _)); (fail_if_success (with_reducible show wpAny _ _ (call (Value.ref 201) _) _ _ _)); (fail_if_success (with_reducible show wpAny _ _ (subscriptTail _ (PySem.Expr.Slice _ _ _ _) (Value.ref _) (Value.ref _)) _ _ _)); (fail_if_success (with_reducible show wpAny _ _ (eval (Expr.ListComp _ _ _ _) _) _ _ _)); (fail_if_success (with_reducible show wpAny _ _ (exec (Stmt.Assign _ (Expr.ListComp _ _ _ _) _) _) _ _ _)); (fail_if_success (with_reducible show LCg.CompSrc _ _ _ _ _ _ _ _ _ _ _ _ _ _)); (fail_if_success (with_reducible show LCg.CompEnd _ _ _ _ _ _ _ _ _ _ _ _ _ _)); first | ((with_reducible show wpAny _ _ (assign (Expr.Tuple _ _ _) _ (Value.ref _)) _ _ _); refine' kun_list (by k_asm) (by k_asm) (by exact base_list (by assumption) (by assumption)) (by exact rfl) (by exact rfl) (by exact rfl) ?_; intro _ _ _; (try k_sweep)) | walk1 | (dsimp only; walk1) | (leave1; try dsimp only))))
  refine LCg.ListComp_U (F₀ := by k_asm) (by with_unfolding_all rfl) (by decide) (by rfl) (by decide) (by rfl) ?_
  (repeat' (first | (k_unfold; (try dsimp only)) | (k_end; wrow_close) | ((fail_if_success (with_reducible show wpAny _ _ (exec (Stmt.For _ _ _ _ _) _) _ _ _)); (fail_if_success (with_reducible show wpAny _ _ (eval (Expr.IfExp _ _ _ _) _) _ _ _)); (fail_if_success (with_reducible show wpAny _ _ (pyIter _) _ _ _)); (fail_if_success (with_reducible show wpAny _ _ (call (Value.ref 201) _) _ _ _)); (fail_if_success (with_reducible show wpAny _ _ (subscriptTail _ (PySem.Expr.Slice _ _ _ _) (Value.ref _) (Value.ref _)) _ _ _)); (fail_if_success (with_reducible show wpAny _ _ (eval (Expr.ListComp _ _ _ _) _) _ _ _)); (fail_if_success (with_reducible show wpAny _ _ (exec (Stmt.Assign _ (Expr.ListComp _ _ _ _) _) _) _ _ _)); (fail_if_success (with_reducible show LCg.CompSrc _ _ _ _ _ _ _ _ _ _ _ _ _ _)); (fail_if_success (with_reducible show LCg.CompEnd _ _ _ _ _ _ _ _ _ _ _ _ _ _)); first | ((with_reducible show wpAny _ _ (assign (Expr.Tuple _ _ _) _ (Value.ref _)) _ _ _); refine' kun_list (by k_asm) (by k_asm) (by exact base_list (by assumption) (by assumption)) (by exact rfl) (by exact rfl) (by exact rfl) ?_; intro _ _ _; (try k_sweep)) | walk1 | (dsimp only; walk1) | (leave1; try dsimp only))))
  refine' compz_base (J := BKJ w mm b ks) ?u3 ?u4 ?u5 ?u6 ?u7 (by unfold BKJ; exact .nil) ?u8 ?u9
  case u3 => exact rfl
  case u5 => k_asm
  case u4 => k_asm
  case u6 => assumption
  case u7 => rw [sizeLine_eq, List.size_toArray]; omega
  case u8 =>
    intro gg i v ys tl I oI C oC D m2 h2 tk2 E2 Q2 hi hp jj hC hx F2 N2 ender
    obtain ⟨T, hT1, hT2⟩ := hvs.get (i := i) (a := v) (by simpa using hp)
    have hT3 := hwf _ (List.mem_of_getElem? hT1)
    (try simp only [List.cons_append, List.nil_append] at N2)
    (repeat' (first | (k_unfold; (try dsimp only)) | (k_end; wrow_close) | ((fail_if_success (with_reducible show wpAny _ _ (exec (Stmt.For _ _ _ _ _) _) _ _ _)); (fail_if_success (with_reducible show wpAny _ _ (eval (Expr.IfExp _ _ _ _) _) _ _ _)); (fail_if_success (with_reducible show wpAny _ _ (pyIter _) _ _ _)); (fail_if_success (with_reducible show wpAny _ _ (call (Value.ref 201) _) _ _ _)); (fail_if_success (with_reducible show wpAny _ _ (subscriptTail _ (PySem.Expr.Slice _ _ _ _) (Value.ref _) (Value.ref _)) _ _ _)); (fail_if_success (with_reducible show wpAny _ _ (eval (Expr.ListComp _ _ _ _) _) _ _ _)); (fail_if_success (with_reducible show wpAny _ _ (exec (Stmt.Assign _ (Expr.ListComp _ _ _ _) _) _) _ _ _)); (fail_if_success (with_reducible show LCg.CompSrc _ _ _ _ _ _ _ _ _ _ _ _ _ _)); (fail_if_success (with_reducible show LCg.CompEnd _ _ _ _ _ _ _ _ _ _ _ _ _ _)); first | ((with_reducible show wpAny _ _ (assign (Expr.Tuple _ _ _) _ (Value.ref _)) _ _ _); refine' kun_list (by k_asm) (by k_asm) (by exact base_list (by assumption) (by assumption)) (by exact rfl) (by exact rfl) (by exact rfl) ?_; intro _ _ _; (try k_sweep)) | walk1 | (dsimp only; walk1) | (leave1; try dsimp only))))
    (try dsimp only)
    refine' built_use ?z0 ?z1 ?z2 ?y2 ?y3 ?y4 ?y5 ?y6 ?y7 ?y8 ?y9 ?ya ?yb ?yc ?_; (case z1 => assumption); (case z2 => assumption); (case z0 => assumption); (case y4 => k_asm); (case y2 => k_asm); (case y3 => k_asm); (case y5 => k_asm); (case y6 => k_asm); (case y7 => exact rfl); (case y8 => exact rfl); (case y9 => exact rfl); (case ya => exact rfl); (case yb => (dsimp only [Around.deeper]; omega)); (case yc => (dsimp only [Around.deeper]; omega))
    intro rv tlk hh1 tk1 F' N' hnew rV rW; (try dsimp only at N'); (try k_sweep)
    (repeat' (first | (k_unfold; (try dsimp only)) | (k_end; wrow_close) | ((fail_if_success (with_reducible show wpAny _ _ (exec (Stmt.For _ _ _ _ _) _) _ _ _)); (fail_if_success (with_reducible show wpAny _ _ (eval (Expr.IfExp _ _ _ _) _) _ _ _)); (fail_if_success (with_reducible show wpAny _ _ (pyIter _) _ _ _)); (fail_if_success (with_reducible show wpAny _ _ (call (Value.ref 201) _) _ _ _)); (fail_if_success (with_reducible show wpAny _ _ (subscriptTail _ (PySem.Expr.Slice _ _ _ _) (Value.ref _) (Value.ref _)) _ _ _)); (fail_if_success (with_reducible show wpAny _ _ (eval (Expr.ListComp _ _ _ _) _) _ _ _)); (fail_if_success (with_reducible show wpAny _ _ (exec (Stmt.Assign _ (Expr.ListComp _ _ _ _) _) _) _ _ _)); (fail_if_success (with_reducible show LCg.CompSrc _ _ _ _ _ _ _ _ _ _ _ _ _ _)); (fail_if_success (with_reducible show LCg.CompEnd _ _ _ _ _ _ _ _ _ _ _ _ _ _)); first | ((with_reducible show wpAny _ _ (assign (Expr.Tuple _ _ _) _ (Value.ref _)) _ _ _); refine' kun_list (by k_asm) (by k_asm) (by exact base_list (by assumption) (by assumption)) (by exact rfl) (by exact rfl) (by exact rfl) ?_; intro _ _ _; (try k_sweep)) | walk1 | (dsimp only; walk1) | (leave1; try dsimp only))))
    exact ender _ _ tlk _ (by k_asm) (by k_asm) (LCg.Off3.of fun p hp => ⟨hnew p hp (I, _) (by k_mem), hnew p hp (C, _) (by k_mem), hnew p hp (D, _) (by k_mem)⟩) (jj.snoc hT1 rV)
  case u9 =>
    intro gg ys tl jj D2 h2 tk2 F2 N2 o2
    rw [List.size_toArray, hvs.length] at jj
    unfold BKJ at jj
    rw [List.take_length] at jj
    (try simp only [List.cons_append, List.nil_append] at N2)
    (try dsimp only)
    have hysl : ys.length ≤ 1000 := by
      have := jj.length
      rw [List.length_map] at this
      rw [this, ← hvs.length]; exact hrl
    (repeat' (first | (k_unfold; (try dsimp only)) | (k_end; wrow_close) | ((fail_if_success (with_reducible show wpAny _ _ (exec (Stmt.For _ _ _ _ _) _) _ _ _)); (fail_if_success (with_reducible show wpAny _ _ (eval (Expr.IfExp _ _ _ _) _) _ _ _)); (fail_if_success (with_reducible show wpAny _ _ (pyIter _) _ _ _)); (fail_if_success (with_reducible show wpAny _ _ (call (Value.ref 201) _) _ _ _)); (fail_if_success (with_reducible show wpAny _ _ (subscriptTail _ (PySem.Expr.Slice _ _ _ _) (Value.ref _) (Value.ref _)) _ _ _)); (fail_if_success (with_reducible show wpAny _ _ (eval (Expr.ListComp _ _ _ _) _) _ _ _)); (fail_if_success (with_reducible show wpAny _ _ (exec (Stmt.Assign _ (Expr.ListComp _ _ _ _) _) _) _ _ _)); (fail_if_success (with_reducible show LCg.CompSrc _ _ _ _ _ _ _ _ _ _ _ _ _ _)); (fail_if_success (with_reducible show LCg.CompEnd _ _ _ _ _ _ _ _ _ _ _ _ _ _)); first | ((with_reducible show wpAny _ _ (assign (Expr.Tuple _ _ _) _ (Value.ref _)) _ _ _); refine' kun_list (by k_asm) (by k_asm) (by exact base_list (by assumption) (by assumption)) (by exact rfl) (by exact rfl) (by exact rfl) ?_; intro _ _ _; (try k_sweep)) | walk1 | (dsimp only; walk1) | (leave1; try dsimp only))))
    rename News _ _ _ _ => NN
    rename Fr _ _ _ _ => FF
    refine fin _ _ _ _ _ FF NN ?_ (fun h => nomatch h)
    rw [hn, turnIf_call]
    unfold VIn
    refine' ⟨_, _, _, _, _, _, rfl, ⟨_, _, _, ?n1, ?n2, List.forall_mem_cons.mpr ⟨?n3, List.forall_mem_cons.mpr ⟨?n4, List.forall_mem_cons.mpr ⟨?n5, List.forall_mem_cons.mpr ⟨?n6, fun _ h => nomatch h⟩⟩⟩⟩⟩, ⟨_, _, ?n7, ?n8, ?n9⟩, jj.mono fun _ _ y => y.mono fun a o h => ?na, ⟨_, _, ?nb, ?nc, hel⟩, hes, hok⟩
    case n1 => k_mem
    case n2 => k_mem
    case n3 => rfl
    case n4 => rfl
    case n5 => rfl
    case n6 => rfl
    case n7 => rfl
    case n8 => k_mem
    case n9 =>
      have := jj.length
      rw [List.length_map] at this
      rw [this, ← hvs.length]; exact hrl
    case na => (repeat (first | exact h | refine List.mem_cons_of_mem _ ?_))
    case nb => rfl
    case nc => k_mem

set_option maxHeartbeats 8000000 in
theorem built_list {w : World} {n : Nat} {mean : ExcName → Option Value} {mg mb : Str → Option Value} {base : Heap} {outs : List Env} {s : Shared} {RR : Result → Shared → Prop} {b : Bool} {a0 : Addr} {t te : Tok} {k : Nat}  {mm : Nat} {ps : List (Str × Int)} {ks : List Tr} {ra at0 : Addr} {vs us : List Value}
    (Y : Amb w mean mg mb (AA (800 - 10 * n) (8000 - 100 * n) outs) base outs s.heap) (M : s.heap.get? a0 = some (listOf #[.str ("list" : Str) t, .str ("" : Str) te, .ref ra, .ref at0] k)) (hn5 : n ≤ 5) (hn : n = mm + 1) (CC : BuiltC w mm) (hr : s.heap.IsList ra vs.toArray) (hrl : vs.length ≤ 1000) (hvs : All2 (TIn (Hp s.heap) mm) vs ks) (hwf : ∀ k ∈ ks, Wf 2 mm k)
    (ha : s.heap.IsList at0 us.toArray) (hau : All2 (AtT (Hp s.heap)) us ps) (hak : ∀ p ∈ ps, PyData.strOk p.1 = true) (hul : us.length ≤ 1000) (hpn : (ps.map (·.1)).Nodup)
    (ret : ∀ h' tk' r, Kept [] s.heap h' → VIn w (New s.heap h') n r (turnIf n b (.list ks ps)) → (IsV (.list ks ps) → VTop w (New s.heap h') n r (turnIf n b (.list ks ps))) → RR (.ok (.ret r)) { s with heap := h', toks := tk' }) :
    codeAny (model PySem.Challenge.rw_pq1317_01.row.prog w) (AA (800 - 10 * n) (8000 - 100 * n) outs) (.call (.ref 201) ⟨[.ref a0, .bool b], []⟩) RR s := by
  have key : Amb w mean mg mb (AA (800 - 10 * n) (8000 - 100 * n) outs) base outs (hid s.heap []) := Y
  have KX := key.X
  revert KX
  k_fill
  intro KX
  refine' enterC (mu := []) (binds := [("tree", .ref a0), ("turned_round", .bool b)]) key (fun _ h => nomatch h) ?k6 ?k7 ?k8 ?k9 ?kB ?kD ?_ ?c2 ?c3 ?c4
  case k6 => k_is
  case k7 => k_is
  case k8 => exact Nat.lt_of_le_of_lt (Nat.sub_le _ _) (Nat.le_of_ble_eq_true rfl)
  case k9 => exact BindsTo.of_eq rfl
  case kB => exact rfl
  case kD => decide +kernel
  case c2 => exact rfl
  case c3 => exact rfl
  case c4 => exact rfl
  intro g' L' h' tk' cells' hg F' N' Y' B' X' T' l1
  clear l1
  k_cells Y'
  (try simp only [List.cons_append, List.nil_append] at N')
  (try dsimp only)
  clear KX key
  have fin : ∀ h' m' news tk r, Fr g' L' h' m' → News g' L' h' news → VIn w (OnL news) n r (turnIf n b (.list ks ps)) → (IsV (.list ks ps) → VTop w (OnL news) n r (turnIf n b (.list ks ps))) → RR (.ok (.ret r)) { s with heap := h', toks := tk } := fun h' m' news tk r F N x y =>
    have up : ∀ a o, OnL news a o → New s.heap h' a o := fun a o hm => ⟨by have := (N _ hm).2.2; rw [hg] at this; exact this, (N _ hm).1⟩
    ret h' tk r (fun c o _ e => F.keep c o (hg ▸ e)) (x.mono up) fun z => (y z).mono up
  have L0 : g'.IsList a0 #[.str ("list" : Str) t, .str ("" : Str) te, .ref ra, .ref at0] := hg ▸ ⟨_, M, rfl, _, rfl⟩
  have hr' : g'.IsList ra vs.toArray := hg ▸ hr
  replace hvs : All2 (TIn (Hp g') mm) vs ks := hg ▸ hvs
  have hat' : g'.IsList at0 us.toArray := hg ▸ ha
  replace hau : All2 (AtT (Hp g')) us ps := hg ▸ hau
  clear hg ret hr ha
  (try k_fold)
  (repeat' (first | (k_unfold; (try dsimp only)) | (k_end; wrow_close) | ((fail_if_success (with_reducible show wpAny _ _ (exec (Stmt.For _ _ _ _ _) _) _ _ _)); (fail_if_success (with_reducible show wpAny _ _ (eval (Expr.IfExp _ _ _ _) _) _ _ _)); (fail_if_success (with_reducible show wpAny _ _ (pyIter _) _ _ _)); (fail_if_success (with_reducible show wpAny _ _ (call (Value.ref 201) _) _ _ _)); (fail_if_success (with_reducible show wpAny _ _ (subscriptTail _ (PySem.Expr.Slice _ _ _ _) (Value.ref _) (Value.ref _)) _ _ _)); (fail_if_success (with_reducible show wpAny _ _ (eval (Expr.ListComp _ _ _ _) _) _ _ _)); (fail_if_success (with_reducible show wpAny _ _ (exec (Stmt.Assign _ (Expr.ListComp _ _ _ _) _) _) _ _ _)); (fail_if_success (with_reducible show LCg.CompSrc _ _ _ _ _ _ _ _ _ _ _ _ _ _)); (fail_if_success (with_reducible show LCg.CompEnd _ _ _ _ _ _ _ _ _ _ _ _ _ _)); first | ((with_reducible show wpAny _ _ (assign (Expr.Tuple _ _ _) _ (Value.ref _)) _ _ _); refine' kun_list (by k_asm) (by k_asm) (by exact base_list (by assumption) (by assumption)) (by exact rfl) (by exact rfl) (by exact rfl) ?_; intro _ _ _; (try k_sweep)) | walk1 | (dsimp only; walk1) | (leave1; try dsimp only))))
  walk1
  (repeat' (first | (k_unfold; (try dsimp only)) | (k_end; wrow_close) | ((fail_if_success (with_reducible show wpAny _ _ (exec (Stmt.For _ _ _ _ _) _) _ _ _)); (fail_if_success (with_reducible show wpAny _ _ (eval (Expr.IfExp _ _ _ _) _) _ _ _)); (fail_if_success (with_reducible show wpAny _ _ (pyIter _) _ _ _)); (fail_if_success (with_reducible show wpAny _ _ (call (Value.ref 201) _) _ _ _)); (fail_if_success (with_reducible show wpAny _ _ (subscriptTail _ (PySem.Expr.Slice _ _ _ _) (Value.ref _) (Value.ref _)) _ _ _)); (fail_if_success (with_reducible show wpAny _ _ (eval (Expr.ListComp _ _ _ _) _) _ _ _)); (fail_if_success (with_reducible show wpAny _ _ (exec (Stmt.Assign _ (Expr.ListComp _ _ _ _) _) _) _ _ _)); (fail_if_success (with_reducible show LCg.CompSrc _ _ _ _ _ _ _ _ _ _ _ _ _ _)); (fail_if_success (with_reducible show LCg.CompEnd _ _ _ _ _ _ _ _ _ _ _ _ _ _)); first | ((with_reducible show wpAny _ _ (assign (Expr.Tuple _ _ _) _ (Value.ref _)) _ _ _); refine' kun_list (by k_asm) (by k_asm) (by exact base_list (by assumption) (by assumption)) (by exact rfl) (by exact rfl) (by exact rfl) ?_; intro _ _ _; (try k_sweep)) | walk1 | (dsimp only; walk1) | (leave1; try dsimp only))))
  refine LCg.ListComp_U (F₀ := by k_asm) (by with_unfolding_all rfl) (by decide) (by rfl) (by decide) (by rfl) ?_
  (repeat' (first | (k_unfold; (try dsimp only)) | (k_end; wrow_close) | ((fail_if_success (with_reducible show wpAny _ _ (exec (Stmt.For _ _ _ _ _) _) _ _ _)); (fail_if_success (with_reducible show wpAny _ _ (eval (Expr.IfExp _ _ _ _) _) _ _ _)); (fail_if_success (with_reducible show wpAny _ _ (pyIter _) _ _ _)); (fail_if_success (with_reducible show wpAny _ _ (call (Value.ref 201) _) _ _ _)); (fail_if_success (with_reducible show wpAny _ _ (subscriptTail _ (PySem.Expr.Slice _ _ _ _) (Value.ref _) (Value.ref _)) _ _ _)); (fail_if_success (with_reducible show wpAny _ _ (eval (Expr.ListComp _ _ _ _) _) _ _ _)); (fail_if_success (with_reducible show wpAny _ _ (exec (Stmt.Assign _ (Expr.ListComp _ _ _ _) _) _) _ _ _)); (fail_if_success (with_reducible show LCg.CompSrc _ _ _ _ _ _ _ _ _ _ _ _ _ _)); (fail_if_success (with_reducible show LCg.CompEnd _ _ _ _ _ _ _ _ _ _ _ _ _ _)); first | ((with_reducible show wpAny _ _ (assign (Expr.Tuple _ _ _) _ (Value.ref _)) _ _ _); refine' kun_list (by k_asm) (by k_asm) (by exact base_list (by assumption) (by assumption)) (by exact rfl) (by exact rfl) (by exact rfl) ?_; intro _ _ _; (try k_sweep)) | walk1 | (dsimp only; walk1) | (leave1; try dsimp only))))
  refine' compz_base (J := BKJ w mm b ks) ?u3 ?u4 ?u5 ?u6 ?u7 (by unfold BKJ; exact .nil) ?u8 ?u9
  case u3 => exact rfl
  case u5 => k_asm
  case u4 => k_asm
  case u6 => assumption
  case u7 => rw [sizeLine_eq, List.size_toArray]; omega
  case u8 =>
    intro gg i v ys tl I oI C oC D m2 h2 tk2 E2 Q2 hi hp jj hC hx F2 N2 ender
    obtain ⟨T, hT1, hT2⟩ := hvs.get (i := i) (a := v) (by simpa using hp)
    have hT3 := hwf _ (List.mem_of_getElem? hT1)
    (try simp only [List.cons_append, List.nil_append] at N2)
    (repeat' (first | (k_unfold; (try dsimp only)) | (k_end; wrow_close) | ((fail_if_success (with_reducible show wpAny _ _ (exec (Stmt.For _ _ _ _ _) _) _ _ _)); (fail_if_success (with_reducible show wpAny _ _ (eval (Expr.IfExp _ _ _ _) _) _ _ _)); (fail_if_success (with_reducible show wpAny _ _ (pyIter _) _ _ _)); (fail_if_success (with_reducible show wpAny _ _ (call (Value.ref 201) _) _ _ _)); (fail_if_success (with_reducible show wpAny _ _ (subscriptTail _ (PySem.Expr.Slice _ _ _ _) (Value.ref _) (Value.ref _)) _ _ _)); (fail_if_success (with_reducible show wpAny _ _ (eval (Expr.ListComp _ _ _ _) _) _ _ _)); (fail_if_success (with_reducible show wpAny _ _ (exec (Stmt.Assign _ (Expr.ListComp _ _ _ _) _) _) _ _ _)); (fail_if_success (with_reducible show LCg.CompSrc _ _ _ _ _ _ _ _ _ _ _ _ _ _)); (fail_if_success (with_reducible show LCg.CompEnd _ _ _ _ _ _ _ _ _ _ _ _ _ _)); first | ((with_reducible show wpAny _ _ (assign (Expr.Tuple _ _ _) _ (Value.ref _)) _ _ _); refine' kun_list (by k_asm) (by k_asm) (by exact base_list (by assumption) (by assumption)) (by exact rfl) (by exact rfl) (by exact rfl) ?_; intro _ _ _; (try k_sweep)) | walk1 | (dsimp only; walk1) | (leave1; try dsimp only))))
    (try dsimp only)
    refine' built_use ?z0 ?z1 ?z2 ?y2 ?y3 ?y4 ?y5 ?y6 ?y7 ?y8 ?y9 ?ya ?yb ?yc ?_; (case z1 => assumption); (case z2 => assumption); (case z0 => assumption); (case y4 => k_asm); (case y2 => k_asm); (case y3 => k_asm); (case y5 => k_asm); (case y6 => k_asm); (case y7 => exact rfl); (case y8 => exact rfl); (case y9 => exact rfl); (case ya => exact rfl); (case yb => (dsimp only [Around.deeper]; omega)); (case yc => (dsimp only [Around.deeper]; omega))
    intro rv tlk hh1 tk1 F' N' hnew rV rW; (try dsimp only at N'); (try k_sweep)
    (repeat' (first | (k_unfold; (try dsimp only)) | (k_end; wrow_close) | ((fail_if_success (with_reducible show wpAny _ _ (exec (Stmt.For _ _ _ _ _) _) _ _ _)); (fail_if_success (with_reducible show wpAny _ _ (eval (Expr.IfExp _ _ _ _) _) _ _ _)); (fail_if_success (with_reducible show wpAny _ _ (pyIter _) _ _ _)); (fail_if_success (with_reducible show wpAny _ _ (call (Value.ref 201) _) _ _ _)); (fail_if_success (with_reducible show wpAny _ _ (subscriptTail _ (PySem.Expr.Slice _ _ _ _) (Value.ref _) (Value.ref _)) _ _ _)); (fail_if_success (with_reducible show wpAny _ _ (eval (Expr.ListComp _ _ _ _) _) _ _ _)); (fail_if_success (with_reducible show wpAny _ _ (exec (Stmt.Assign _ (Expr.ListComp _ _ _ _) _) _) _ _ _)); (fail_if_success (with_reducible show LCg.CompSrc _ _ _ _ _ _ _ _ _ _ _ _ _ _)); (fail_if_success (with_reducible show LCg.CompEnd _ _ _ _ _ _ _ _ _ _ _ _ _ _)); first | ((with_reducible show wpAny _ _ (assign (Expr.Tuple _ _ _) _ (Value.ref _)) _ _ _); refine' kun_list (by k_asm) (by k_asm) (by exact base_list (by assumption) (by assumption)) (by exact rfl) (by exact rfl) (by exact rfl) ?_; intro _ _ _; (try k_sweep)) | walk1 | (dsimp only; walk1) | (leave1; try dsimp only))))
    exact ender _ _ tlk _ (by k_asm) (by k_asm) (LCg.Off3.of fun p hp => ⟨hnew p hp (I, _) (by k_mem), hnew p hp (C, _) (by k_mem), hnew p hp (D, _) (by k_mem)⟩) (jj.snoc hT1 rV)
  case u9 =>
    intro gg ys tl jj D2 h2 tk2 F2 N2 o2
    rw [List.size_toArray, hvs.length] at jj
    unfold BKJ at jj
    rw [List.take_length] at jj
    (try simp only [List.cons_append, List.nil_append] at N2)
    (try dsimp only)
    have hysl : ys.length ≤ 1000 := by
      have := jj.length
      rw [List.length_map] at this
      rw [this, ← hvs.length]; exact hrl
    (repeat' (first | (k_unfold; (try dsimp only)) | (k_end; wrow_close) | ((fail_if_success (with_reducible show wpAny _ _ (exec (Stmt.For _ _ _ _ _) _) _ _ _)); (fail_if_success (with_reducible show wpAny _ _ (eval (Expr.IfExp _ _ _ _) _) _ _ _)); (fail_if_success (with_reducible show wpAny _ _ (pyIter _) _ _ _)); (fail_if_success (with_reducible show wpAny _ _ (call (Value.ref 201) _) _ _ _)); (fail_if_success (with_reducible show wpAny _ _ (subscriptTail _ (PySem.Expr.Slice _ _ _ _) (Value.ref _) (Value.ref _)) _ _ _)); (fail_if_success (with_reducible show wpAny _ _ (eval (Expr.ListComp _ _ _ _) _) _ _ _)); (fail_if_success (with_reducible show wpAny _ _ (exec (Stmt.Assign _ (Expr.ListComp _ _ _ _) _) _) _ _ _)); (fail_if_success (with_reducible show LCg.CompSrc _ _ _ _ _ _ _ _ _ _ _ _ _ _)); (fail_if_success (with_reducible show LCg.CompEnd _ _ _ _ _ _ _ _ _ _ _ _ _ _)); first | ((with_reducible show wpAny _ _ (assign (Expr.Tuple _ _ _) _ (Value.ref _)) _ _ _); refine' kun_list (by k_asm) (by k_asm) (by exact base_list (by assumption) (by assumption)) (by exact rfl) (by exact rfl) (by exact rfl) ?_; intro _ _ _; (try k_sweep)) | walk1 | (dsimp only; walk1) | (leave1; try dsimp only))))
    (try dsimp only)
    refine' ne_nil ?v1 ?v2 ?v3 ?v4 ?v5 ?v6 ?v7 ?_
    case v2 => k_asm
    case v1 => k_asm
    case v3 => exact hat'
    case v4 => exact hau
    case v5 => exact hak
    case v6 => k_mem
    case v7 => (dsimp only [Around.deeper]; rw [show cLine = 9900 from rfl]; omega)
    rename _ ∧ _ ∧ _ ∧ AllLt _ _ => LD
    have htx := allLt_ne LD.2.2.2
    obtain ⟨dx, hde⟩ : ∃ dx, dx = dxOf htx := ⟨_, rfl⟩
    dsimp only [dxOf] at hde
    subst hde
    by_cases hps : ps = []
    · rw [decide_eq_true hps]
      (try dsimp only [Bool.not_true])
      (repeat' (first | (k_unfold; (try dsimp only)) | (k_end; wrow_close) | ((fail_if_success (with_reducible show wpAny _ _ (exec (Stmt.For _ _ _ _ _) _) _ _ _)); (fail_if_success (with_reducible show wpAny _ _ (eval (Expr.IfExp _ _ _ _) _) _ _ _)); (fail_if_success (with_reducible show wpAny _ _ (pyIter _) _ _ _)); (fail_if_success (with_reducible show wpAny _ _ (call (Value.ref 201) _) _ _ _)); (fail_if_success (with_reducible show wpAny _ _ (subscriptTail _ (PySem.Expr.Slice _ _ _ _) (Value.ref _) (Value.ref _)) _ _ _)); (fail_if_success (with_reducible show wpAny _ _ (eval (Expr.ListComp _ _ _ _) _) _ _ _)); (fail_if_success (with_reducible show wpAny _ _ (exec (Stmt.Assign _ (Expr.ListComp _ _ _ _) _) _) _ _ _)); (fail_if_success (with_reducible show LCg.CompSrc _ _ _ _ _ _ _ _ _ _ _ _ _ _)); (fail_if_success (with_reducible show LCg.CompEnd _ _ _ _ _ _ _ _ _ _ _ _ _ _)); first | ((with_reducible show wpAny _ _ (assign (Expr.Tuple _ _ _) _ (Value.ref _)) _ _ _); refine' kun_list (by k_asm) (by k_asm) (by exact base_list (by assumption) (by assumption)) (by exact rfl) (by exact rfl) (by exact rfl) ?_; intro _ _ _; (try k_sweep)) | walk1 | (dsimp only; walk1) | (leave1; try dsimp only))))
      (try dsimp only)
      rename News _ _ _ _ => NN
      rename Fr _ _ _ _ => FF
      refine (fun hT => fin _ _ _ _ _ FF NN (VTop.vin hT) fun _ => hT) ?_
      rw [hn, turnIf_list]
      rw [hps, show (if b then ([] : List (Str × Int)).reverse else []) = [] by cases b <;> rfl]
      refine' ⟨_, _, _, _, _, .none, _, _, _, _, _, rfl, ?n1, ?n2, ?n3, .list ⟨_, _, ?n7, ⟨?n8, ?nb⟩, ?n9⟩ (jj.mono fun _ _ y => y.mono fun a o h => ⟨?na, htx _ h⟩) (.inl ⟨rfl, rfl⟩)⟩
      case n1 => k_mem
      case n2 => k_mem
      case n3 => k_ne
      case n7 => rfl
      case n8 => k_mem
      case nb => k_ne
      case n9 => exact hysl
      case na => (repeat (first | exact h | refine List.mem_cons_of_mem _ ?_))
    · rw [decide_eq_false hps]
      (try dsimp only [Bool.not_false])
      (repeat' (first | (k_unfold; (try dsimp only)) | (k_end; wrow_close) | ((fail_if_success (with_reducible show wpAny _ _ (exec (Stmt.For _ _ _ _ _) _) _ _ _)); (fail_if_success (with_reducible show wpAny _ _ (eval (Expr.IfExp _ _ _ _) _) _ _ _)); (fail_if_success (with_reducible show wpAny _ _ (pyIter _) _ _ _)); (fail_if_success (with_reducible show wpAny _ _ (call (Value.ref 201) _) _ _ _)); (fail_if_success (with_reducible show wpAny _ _ (subscriptTail _ (PySem.Expr.Slice _ _ _ _) (Value.ref _) (Value.ref _)) _ _ _)); (fail_if_success (with_reducible show wpAny _ _ (eval (Expr.ListComp _ _ _ _) _) _ _ _)); (fail_if_success (with_reducible show wpAny _ _ (exec (Stmt.Assign _ (Expr.ListComp _ _ _ _) _) _) _ _ _)); (fail_if_success (with_reducible show LCg.CompSrc _ _ _ _ _ _ _ _ _ _ _ _ _ _)); (fail_if_success (with_reducible show LCg.CompEnd _ _ _ _ _ _ _ _ _ _ _ _ _ _)); first | ((with_reducible show wpAny _ _ (assign (Expr.Tuple _ _ _) _ (Value.ref _)) _ _ _); refine' kun_list (by k_asm) (by k_asm) (by exact base_list (by assumption) (by assumption)) (by exact rfl) (by exact rfl) (by exact rfl) ?_; intro _ _ _; (try k_sweep)) | walk1 | (dsimp only; walk1) | (leave1; try dsimp only))))
      rename News _ _ _ _ => NN
      rename Fr _ _ _ _ => FF
      rename Obj.IsDictOf _ _ _ => hdi
      clear hdi
      rename Obj.IsDictOf _ _ _ => hds
      rename _ ∧ _ => LL
      rename (_ == sysModules) = false => hlo
      have htl := allLt_ne LL.2.2.2.2.2.2
      refine For_invT g' ?_ (by intro _; rfl)
      refine src_join (us := us) (b := b) FF NN ?_ ?_
      · cases b
        · walk1
          (repeat' (first | (k_unfold; (try dsimp only)) | (k_end; wrow_close) | ((fail_if_success (with_reducible show wpAny _ _ (exec (Stmt.For _ _ _ _ _) _) _ _ _)); (fail_if_success (with_reducible show wpAny _ _ (eval (Expr.IfExp _ _ _ _) _) _ _ _)); (fail_if_success (with_reducible show wpAny _ _ (pyIter _) _ _ _)); (fail_if_success (with_reducible show wpAny _ _ (call (Value.ref 201) _) _ _ _)); (fail_if_success (with_reducible show wpAny _ _ (subscriptTail _ (PySem.Expr.Slice _ _ _ _) (Value.ref _) (Value.ref _)) _ _ _)); (fail_if_success (with_reducible show wpAny _ _ (eval (Expr.ListComp _ _ _ _) _) _ _ _)); (fail_if_success (with_reducible show wpAny _ _ (exec (Stmt.Assign _ (Expr.ListComp _ _ _ _) _) _) _ _ _)); (fail_if_success (with_reducible show LCg.CompSrc _ _ _ _ _ _ _ _ _ _ _ _ _ _)); (fail_if_success (with_reducible show LCg.CompEnd _ _ _ _ _ _ _ _ _ _ _ _ _ _)); first | ((with_reducible show wpAny _ _ (assign (Expr.Tuple _ _ _) _ (Value.ref _)) _ _ _); refine' kun_list (by k_asm) (by k_asm) (by exact base_list (by assumption) (by assumption)) (by exact rfl) (by exact rfl) (by exact rfl) ?_; intro _ _ _; (try k_sweep)) | walk1 | (dsimp only; walk1) | (leave1; try dsimp only))))
          exact ⟨_, listOf #[] 0, _, _, [], rfl, rfl, FF, NN, .inl hat', fun _ h => nomatch h⟩
        · walk1
          (repeat' (first | (k_unfold; (try dsimp only)) | (k_end; wrow_close) | ((fail_if_success (with_reducible show wpAny _ _ (exec (Stmt.For _ _ _ _ _) _) _ _ _)); (fail_if_success (with_reducible show wpAny _ _ (eval (Expr.IfExp _ _ _ _) _) _ _ _)); (fail_if_success (with_reducible show wpAny _ _ (pyIter _) _ _ _)); (fail_if_success (with_reducible show wpAny _ _ (call (Value.ref 201) _) _ _ _)); (fail_if_success (with_reducible show wpAny _ _ (subscriptTail _ (PySem.Expr.Slice _ _ _ _) (Value.ref _) (Value.ref _)) _ _ _)); (fail_if_success (with_reducible show wpAny _ _ (eval (Expr.ListComp _ _ _ _) _) _ _ _)); (fail_if_success (with_reducible show wpAny _ _ (exec (Stmt.Assign _ (Expr.ListComp _ _ _ _) _) _) _ _ _)); (fail_if_success (with_reducible show LCg.CompSrc _ _ _ _ _ _ _ _ _ _ _ _ _ _)); (fail_if_success (with_reducible show LCg.CompEnd _ _ _ _ _ _ _ _ _ _ _ _ _ _)); first | ((with_reducible show wpAny _ _ (assign (Expr.Tuple _ _ _) _ (Value.ref _)) _ _ _); refine' kun_list (by k_asm) (by k_asm) (by exact base_list (by assumption) (by assumption)) (by exact rfl) (by exact rfl) (by exact rfl) ?_; intro _ _ _; (try k_sweep)) | walk1 | (dsimp only; walk1) | (leave1; try dsimp only))))
          refine' krv_lit ?w1 ?w2 ?w3 (IsPart.int _ _) rfl ?_ ?w4 ?w5 ?w6
          case w1 => exact FF
          case w2 => exact NN
          case w3 => exact base_list FF hat'
          case w4 => with_unfolding_all rfl
          case w5 => (intro _; with_unfolding_all rfl)
          case w6 => rw [sizeLine_eq, List.size_toArray]; omega
          intro D h' F' N' l1
          exact ⟨D, _, h', _, [(D, _)], rfl, rfl, F', N', .inr ⟨.head _, rfl, _, rfl⟩, fun p hp q hq => by obtain rfl := List.mem_singleton.mp hp; exact Nat.ne_of_gt (l1 q hq)⟩
      intro ax so h3 tk3 new F3 N3 hso hnw
      (try simp only [List.cons_append, List.nil_append] at N3)
      dsimp only
      have hul' : (if b then us.reverse else us).length = us.length := by cases b <;> simp
      have hqu : All2 (AtT (Hp g')) (if b then us.reverse else us) (if b then ps.reverse else ps) := by
        cases b
        · exact hau
        · exact hau.reverse
      have hqn : ((if b then ps.reverse else ps).map (·.1)).Nodup := by
        cases b
        · exact hpn
        · show ((ps.reverse).map (·.1)).Nodup
          rw [List.map_reverse]; exact List.pairwise_reverse.mpr (hpn.imp fun q => Ne.symm q)
      generalize hqs : (if b then ps.reverse else ps) = qs at hqu hqn ⊢
      generalize hws : (if b then us.reverse else us) = ws at hqu hul' hso ⊢
      refine iter_pairs (ps := qs) (so := so) (us := ws) (AtsJ w _ dx _ qs) rfl rfl rfl rfl F3 N3 ?_ hqu ⟨_, [], [], (by rw [List.append_nil]), hds, .nil, fun _ h => nomatch h⟩ ?_ ?_
      · rcases hso with h | ⟨hm, hc⟩
        · exact .inl h
        · exact .inr ⟨by (repeat (first | exact List.mem_append_right _ hm | refine List.mem_cons_of_mem _ ?_)), hc⟩
      · intro i p t1 t2 I oI s₁ news₁ hpi hJ F4 N4 hI hsrc
        obtain ⟨od, kvs, nw, rfl, hod, hkv, hnd⟩ := hJ
        (try simp only [List.cons_append, List.nil_append] at N4 hI)
        obtain ⟨hh, gg, dd, tt, oo⟩ := s₁
        dsimp only at F4 N4 ⊢
        clear hds NN FF F3 N3
        have hdI := hI _ (List.Mem.head _)
        dsimp only at hdI
        (repeat' (first | (k_unfold; (try dsimp only)) | (k_end; wrow_close) | ((fail_if_success (with_reducible show wpAny _ _ (exec (Stmt.For _ _ _ _ _) _) _ _ _)); (fail_if_success (with_reducible show wpAny _ _ (eval (Expr.IfExp _ _ _ _) _) _ _ _)); (fail_if_success (with_reducible show wpAny _ _ (pyIter _) _ _ _)); (fail_if_success (with_reducible show wpAny _ _ (call (Value.ref 201) _) _ _ _)); (fail_if_success (with_reducible show wpAny _ _ (subscriptTail _ (PySem.Expr.Slice _ _ _ _) (Value.ref _) (Value.ref _)) _ _ _)); (fail_if_success (with_reducible show wpAny _ _ (eval (Expr.ListComp _ _ _ _) _) _ _ _)); (fail_if_success (with_reducible show wpAny _ _ (exec (Stmt.Assign _ (Expr.ListComp _ _ _ _) _) _) _ _ _)); (fail_if_success (with_reducible show LCg.CompSrc _ _ _ _ _ _ _ _ _ _ _ _ _ _)); (fail_if_success (with_reducible show LCg.CompEnd _ _ _ _ _ _ _ _ _ _ _ _ _ _)); first | ((with_reducible show wpAny _ _ (assign (Expr.Tuple _ _ _) _ (Value.ref _)) _ _ _); refine' kun_list (by k_asm) (by k_asm) (by exact base_list (by assumption) (by assumption)) (by exact rfl) (by exact rfl) (by exact rfl) ?_; intro _ _ _; (try k_sweep)) | walk1 | (dsimp only; walk1) | (leave1; try dsimp only))))
        rename News _ _ _ _ => NN
        rename Fr _ _ _ _ => FF
        refine' kda_set FF NN ?x1 hod (strKind_is _ _ _ _) ?x2 ?_
        case x1 =>
          refine UpdF.tail (by k_ne) (UpdF.tail (by k_ne) (UpdF.tail (by k_ne) (UpdF.tail (by k_ne) (UpdF.head ?_))))
          (repeat (refine List.forall_mem_cons.mpr ⟨by k_ne, ?_⟩))
          exact off_app (off_app htl fun p hp => hnw p hp _ (List.Mem.head _)) fun p hp => (hnd p hp).1
        case x2 =>
          have e1 := hkv.length
          rw [List.length_take] at e1
          have e2 := hqu.length
          rw [sizeLine_eq]; omega
        intro h5 o5 F5 N5 hd5
        dsimp only at N5
        (repeat' (first | (k_unfold; (try dsimp only)) | (k_end; wrow_close) | ((fail_if_success (with_reducible show wpAny _ _ (exec (Stmt.For _ _ _ _ _) _) _ _ _)); (fail_if_success (with_reducible show wpAny _ _ (eval (Expr.IfExp _ _ _ _) _) _ _ _)); (fail_if_success (with_reducible show wpAny _ _ (pyIter _) _ _ _)); (fail_if_success (with_reducible show wpAny _ _ (call (Value.ref 201) _) _ _ _)); (fail_if_success (with_reducible show wpAny _ _ (subscriptTail _ (PySem.Expr.Slice _ _ _ _) (Value.ref _) (Value.ref _)) _ _ _)); (fail_if_success (with_reducible show wpAny _ _ (eval (Expr.ListComp _ _ _ _) _) _ _ _)); (fail_if_success (with_reducible show wpAny _ _ (exec (Stmt.Assign _ (Expr.ListComp _ _ _ _) _) _) _ _ _)); (fail_if_success (with_reducible show LCg.CompSrc _ _ _ _ _ _ _ _ _ _ _ _ _ _)); (fail_if_success (with_reducible show LCg.CompEnd _ _ _ _ _ _ _ _ _ _ _ _ _ _)); first | ((with_reducible show wpAny _ _ (assign (Expr.Tuple _ _ _) _ (Value.ref _)) _ _ _); refine' kun_list (by k_asm) (by k_asm) (by exact base_list (by assumption) (by assumption)) (by exact rfl) (by exact rfl) (by exact rfl) ?_; intro _ _ _; (try k_sweep)) | walk1 | (dsimp only; walk1) | (leave1; try dsimp only))))
        refine pair_end F5 N5 hI (by k_ne) (by k_ne) (by k_ne) ⟨by k_ne, by k_ne⟩ ⟨by k_ne, by k_ne⟩ ⟨by k_ne, by k_ne⟩ hnd (fun nw' => ?x5) hd5 ?x6
        case x5 =>
          rcases hso with h | ⟨hm, hc⟩
          · exact .inl h
          · refine .inr ⟨List.mem_cons_of_mem _ (List.mem_append_left _ ?_), hc⟩
            (repeat (first | exact List.mem_append_right _ hm | refine List.mem_cons_of_mem _ ?_))
        case x6 =>
          refine ats_more hqn hkv hpi (fun q hq => .tail _ (.tail _ (.tail _ hq))) ⟨rfl, ?_⟩
          refine' ⟨_, _, _, _, rfl, ⟨_, _, _, .head _, .tail _ (.head _), List.forall_mem_cons.mpr ⟨?x8, List.forall_mem_cons.mpr ⟨?x9, List.forall_mem_cons.mpr ⟨?xa, fun _ h => nomatch h⟩⟩⟩⟩, ⟨_, _, rfl, .tail _ (.tail _ (.head _)), ?xb⟩, ?xc⟩
          case x8 => rfl
          case x9 => rfl
          case xa => rfl
          case xb => show 1 ≤ 1000; omega
          case xc => exact .cons (.int _ _) .nil
      · intro u v h6 tk6 news₁ hJ F4 N4
        obtain ⟨od, kvs, nw, rfl, hod, hkv, hnd⟩ := hJ
        rw [List.take_length] at hkv
        (try simp only [List.cons_append, List.nil_append] at N4)
        (try dsimp only)
        (repeat' (first | (k_unfold; (try dsimp only)) | (k_end; wrow_close) | ((fail_if_success (with_reducible show wpAny _ _ (exec (Stmt.For _ _ _ _ _) _) _ _ _)); (fail_if_success (with_reducible show wpAny _ _ (eval (Expr.IfExp _ _ _ _) _) _ _ _)); (fail_if_success (with_reducible show wpAny _ _ (pyIter _) _ _ _)); (fail_if_success (with_reducible show wpAny _ _ (call (Value.ref 201) _) _ _ _)); (fail_if_success (with_reducible show wpAny _ _ (subscriptTail _ (PySem.Expr.Slice _ _ _ _) (Value.ref _) (Value.ref _)) _ _ _)); (fail_if_success (with_reducible show wpAny _ _ (eval (Expr.ListComp _ _ _ _) _) _ _ _)); (fail_if_success (with_reducible show wpAny _ _ (exec (Stmt.Assign _ (Expr.ListComp _ _ _ _) _) _) _ _ _)); (fail_if_success (with_reducible show LCg.CompSrc _ _ _ _ _ _ _ _ _ _ _ _ _ _)); (fail_if_success (with_reducible show LCg.CompEnd _ _ _ _ _ _ _ _ _ _ _ _ _ _)); first | ((with_reducible show wpAny _ _ (assign (Expr.Tuple _ _ _) _ (Value.ref _)) _ _ _); refine' kun_list (by k_asm) (by k_asm) (by exact base_list (by assumption) (by assumption)) (by exact rfl) (by exact rfl) (by exact rfl) ?_; intro _ _ _; (try k_sweep)) | walk1 | (dsimp only; walk1) | (leave1; try dsimp only))))
        rename News _ _ _ _ => NN
        rename Fr _ _ _ _ => FF
        refine (fun hT => fin _ _ _ _ _ FF NN (VTop.vin hT) fun _ => hT) ?_
        rw [hn, turnIf_list]
        rw [hqs]
        refine' ⟨_, _, _, _, _, .ref _, _, _, _, _, _, rfl, ?p1, ?p2, ?p3, .list ⟨_, _, ?p7, ⟨?p8, ?pe⟩, ?p9⟩ (jj.mono fun _ _ y => y.mono fun a o h => ⟨?pa, htx _ h⟩) (.inr ⟨_, _, kvs, rfl, ⟨.head _, ?pd⟩, hlo, hod, ?pb, hkv.mono fun _ _ y => ⟨y.1, y.2.mono fun a o h => ⟨?pc, (hnd _ h).2⟩⟩⟩)⟩
        case p1 => k_mem
        case p2 => k_mem
        case p3 => k_ne
        case p7 => rfl
        case p8 => k_mem
        case pe => k_ne
        case p9 => exact hysl
        case pa => (repeat (first | exact List.mem_append_left _ (List.mem_append_left _ h) | refine List.mem_cons_of_mem _ ?_))
        case pb =>
          have e1 := hkv.length
          have e2 := hqu.length
          omega
        case pc => (repeat (first | exact List.mem_append_right _ h | refine List.mem_cons_of_mem _ ?_))
        case pd => k_ne

set_option maxHeartbeats 8000000 in
theorem built_vec {w : World} {n : Nat} {mean : ExcName → Option Value} {mg mb : Str → Option Value} {base : Heap} {outs : List Env} {s : Shared} {RR : Result → Shared → Prop} {b : Bool} {a0 : Addr} {t te : Tok} {k : Nat}  {kk : Str} {rb : List Int} {ps : List (Str × Int)} {ra at0 : Addr} {vs us : List Value}
    (Y : Amb w mean mg mb (AA (800 - 10 * n) (8000 - 100 * n) outs) base outs s.heap) (M : s.heap.get? a0 = some (listOf #[.str ("vector" : Str) t, .str kk te, .ref ra, .ref at0] k)) (hn5 : n ≤ 5) (hk : okKind kk) (hr : s.heap.IsList ra vs.toArray) (hrl : vs.length ≤ 1000) (hi : IntsAre vs rb) (hb : ∀ x ∈ rb, x = 0 ∨ x = 1)
    (ha : s.heap.IsList at0 us.toArray) (hau : All2 (AtT (Hp s.heap)) us ps) (hak : ∀ p ∈ ps, PyData.strOk p.1 = true) (hul : us.length ≤ 1000) (hpn : (ps.map (·.1)).Nodup)
    (ret : ∀ h' tk' r, Kept [] s.heap h' → VIn w (New s.heap h') n r (turnIf n b (.vec kk rb ps)) → (IsV (.vec kk rb ps) → VTop w (New s.heap h') n r (turnIf n b (.vec kk rb ps))) → RR (.ok (.ret r)) { s with heap := h', toks := tk' }) :
    codeAny (model PySem.Challenge.rw_pq1317_01.row.prog w) (AA (800 - 10 * n) (8000 - 100 * n) outs) (.call (.ref 201) ⟨[.ref a0, .bool b], []⟩) RR s := by
  have key : Amb w mean mg mb (AA (800 - 10 * n) (8000 - 100 * n) outs) base outs (hid s.heap []) := Y
  have KX := key.X
  revert KX
  k_fill
  intro KX
  refine' enterC (mu := []) (binds := [("tree", .ref a0), ("turned_round", .bool b)]) key (fun _ h => nomatch h) ?k6 ?k7 ?k8 ?k9 ?kB ?kD ?_ ?c2 ?c3 ?c4
  case k6 => k_is
  case k7 => k_is
  case k8 => exact Nat.lt_of_le_of_lt (Nat.sub_le _ _) (Nat.le_of_ble_eq_true rfl)
  case k9 => exact BindsTo.of_eq rfl
  case kB => exact rfl
  case kD => decide +kernel
  case c2 => exact rfl
  case c3 => exact rfl
  case c4 => exact rfl
  intro g' L' h' tk' cells' hg F' N' Y' B' X' T' l1
  clear l1
  k_cells Y'
  (try simp only [List.cons_append, List.nil_append] at N')
  (try dsimp only)
  clear KX key
  have fin : ∀ h' m' news tk r, Fr g' L' h' m' → News g' L' h' news → VIn w (OnL news) n r (turnIf n b (.vec kk rb ps)) → (IsV (.vec kk rb ps) → VTop w (OnL news) n r (turnIf n b (.vec kk rb ps))) → RR (.ok (.ret r)) { s with heap := h', toks := tk } := fun h' m' news tk r F N x y =>
    have up : ∀ a o, OnL news a o → New s.heap h' a o := fun a o hm => ⟨by have := (N _ hm).2.2; rw [hg] at this; exact this, (N _ hm).1⟩
    ret h' tk r (fun c o _ e => F.keep c o (hg ▸ e)) (x.mono up) fun z => (y z).mono up
  have L0 : g'.IsList a0 #[.str ("vector" : Str) t, .str kk te, .ref ra, .ref at0] := hg ▸ ⟨_, M, rfl, _, rfl⟩
  have hr' : g'.IsList ra vs.toArray := hg ▸ hr
  have hat' : g'.IsList at0 us.toArray := hg ▸ ha
  replace hau : All2 (AtT (Hp g')) us ps := hg ▸ hau
  clear hg ret hr ha
  (try k_fold)
  (repeat' (first | (k_unfold; (try dsimp only)) | (k_end; wrow_close) | ((fail_if_success (with_reducible show wpAny _ _ (exec (Stmt.For _ _ _ _ _) _) _ _ _)); (fail_if_success (with_reducible show wpAny _ _ (eval (Expr.IfExp _ _ _ _) _) _ _ _)); (fail_if_success (with_reducible show wpAny _ _ (pyIter _) _ _ _)); (fail_if_success (with_reducible show wpAny _ _ (call (Value.ref 201) _) _ _ _)); (fail_if_success (with_reducible show wpAny _ _ (subscriptTail _ (PySem.Expr.Slice _ _ _ _) (Value.ref _) (Value.ref _)) _ _ _)); (fail_if_success (with_reducible show wpAny _ _ (eval (Expr.ListComp _ _ _ _) _) _ _ _)); (fail_if_success (with_reducible show wpAny _ _ (exec (Stmt.Assign _ (Expr.ListComp _ _ _ _) _) _) _ _ _)); (fail_if_success (with_reducible show LCg.CompSrc _ _ _ _ _ _ _ _ _ _ _ _ _ _)); (fail_if_success (with_reducible show LCg.CompEnd _ _ _ _ _ _ _ _ _ _ _ _ _ _)); first | ((with_reducible show wpAny _ _ (assign (Expr.Tuple _ _ _) _ (Value.ref _)) _ _ _); refine' kun_list (by k_asm) (by k_asm) (by exact base_list (by assumption) (by assumption)) (by exact rfl) (by exact rfl) (by exact rfl) ?_; intro _ _ _; (try k_sweep)) | walk1 | (dsimp only; walk1) | (leave1; try dsimp only))))
  walk1
  (repeat' (first | (k_unfold; (try dsimp only)) | (k_end; wrow_close) | ((fail_if_success (with_reducible show wpAny _ _ (exec (Stmt.For _ _ _ _ _) _) _ _ _)); (fail_if_success (with_reducible show wpAny _ _ (eval (Expr.IfExp _ _ _ _) _) _ _ _)); (fail_if_success (with_reducible show wpAny _ _ (pyIter _) _ _ _)); (fail_if_success (with_reducible show wpAny _ _ (call (Value.ref 201) _) _ _ _)); (fail_if_success (with_reducible show wpAny _ _ (subscriptTail _ (PySem.Expr.Slice _ _ _ _) (Value.ref _) (Value.ref _)) _ _ _)); (fail_if_success (with_reducible show wpAny _ _ (eval (Expr.ListComp _ _ _ _) _) _ _ _)); (fail_if_success (with_reducible show wpAny _ _ (exec (Stmt.Assign _ (Expr.ListComp _ _ _ _) _) _) _ _ _)); (fail_if_success (with_reducible show LCg.CompSrc _ _ _ _ _ _ _ _ _ _ _ _ _ _)); (fail_if_success (with_reducible show LCg.CompEnd _ _ _ _ _ _ _ _ _ _ _ _ _ _)); first | ((with_reducible show wpAny _ _ (assign (Expr.Tuple _ _ _) _ (Value.ref _)) _ _ _); refine' kun_list (by k_asm) (by k_asm) (by exact base_list (by assumption) (by assumption)) (by exact rfl) (by exact rfl) (by exact rfl) ?_; intro _ _ _; (try k_sweep)) | walk1 | (dsimp only; walk1) | (leave1; try dsimp only))))
  refine LCg.ListComp_U (F₀ := by k_asm) (by with_unfolding_all rfl) (by decide) (by rfl) (by decide) (by rfl) ?_
  (repeat' (first | (k_unfold; (try dsimp only)) | (k_end; wrow_close) | ((fail_if_success (with_reducible show wpAny _ _ (exec (Stmt.For _ _ _ _ _) _) _ _ _)); (fail_if_success (with_reducible show wpAny _ _ (eval (Expr.IfExp _ _ _ _) _) _ _ _)); (fail_if_success (with_reducible show wpAny _ _ (pyIter _) _ _ _)); (fail_if_success (with_reducible show wpAny _ _ (call (Value.ref 201) _) _ _ _)); (fail_if_success (with_reducible show wpAny _ _ (subscriptTail _ (PySem.Expr.Slice _ _ _ _) (Value.ref _) (Value.ref _)) _ _ _)); (fail_if_success (with_reducible show wpAny _ _ (eval (Expr.ListComp _ _ _ _) _) _ _ _)); (fail_if_success (with_reducible show wpAny _ _ (exec (Stmt.Assign _ (Expr.ListComp _ _ _ _) _) _) _ _ _)); (fail_if_success (with_reducible show LCg.CompSrc _ _ _ _ _ _ _ _ _ _ _ _ _ _)); (fail_if_success (with_reducible show LCg.CompEnd _ _ _ _ _ _ _ _ _ _ _ _ _ _)); first | ((with_reducible show wpAny _ _ (assign (Expr.Tuple _ _ _) _ (Value.ref _)) _ _ _); refine' kun_list (by k_asm) (by k_asm) (by exact base_list (by assumption) (by assumption)) (by exact rfl) (by exact rfl) (by exact rfl) ?_; intro _ _ _; (try k_sweep)) | walk1 | (dsimp only; walk1) | (leave1; try dsimp only))))
  refine' compz_base (J := ItJ kk rb) ?u3 ?u4 ?u5 ?u6 ?u7 (by unfold ItJ; exact .nil) ?u8 ?u9
  case u3 => exact rfl
  case u5 => k_asm
  case u4 => k_asm
  case u6 => assumption
  case u7 => rw [sizeLine_eq, List.size_toArray]; omega
  case u8 =>
    intro gg i v ys tl I oI C oC D m2 h2 tk2 E2 Q2 hlt hp jj hC hx F2 N2 ender
    obtain ⟨x, xt, rfl, hxr⟩ := ints_at (i := i) hi (by simpa using hp)
    have hxb := hb _ (List.mem_of_getElem? hxr)
    (try simp only [List.cons_append, List.nil_append] at N2)
    (repeat' (first | (k_unfold; (try dsimp only)) | (k_end; wrow_close) | ((fail_if_success (with_reducible show wpAny _ _ (exec (Stmt.For _ _ _ _ _) _) _ _ _)); (fail_if_success (with_reducible show wpAny _ _ (eval (Expr.IfExp _ _ _ _) _) _ _ _)); (fail_if_success (with_reducible show wpAny _ _ (pyIter _) _ _ _)); (fail_if_success (with_reducible show wpAny _ _ (call (Value.ref 201) _) _ _ _)); (fail_if_success (with_reducible show wpAny _ _ (subscriptTail _ (PySem.Expr.Slice _ _ _ _) (Value.ref _) (Value.ref _)) _ _ _)); (fail_if_success (with_reducible show wpAny _ _ (eval (Expr.ListComp _ _ _ _) _) _ _ _)); (fail_if_success (with_reducible show wpAny _ _ (exec (Stmt.Assign _ (Expr.ListComp _ _ _ _) _) _) _ _ _)); (fail_if_success (with_reducible show LCg.CompSrc _ _ _ _ _ _ _ _ _ _ _ _ _ _)); (fail_if_success (with_reducible show LCg.CompEnd _ _ _ _ _ _ _ _ _ _ _ _ _ _)); first | ((with_reducible show wpAny _ _ (assign (Expr.Tuple _ _ _) _ (Value.ref _)) _ _ _); refine' kun_list (by k_asm) (by k_asm) (by exact base_list (by assumption) (by assumption)) (by exact rfl) (by exact rfl) (by exact rfl) ?_; intro _ _ _; (try k_sweep)) | walk1 | (dsimp only; walk1) | (leave1; try dsimp only))))
    walk1
    (repeat' (first | (k_unfold; (try dsimp only)) | (k_end; wrow_close) | ((fail_if_success (with_reducible show wpAny _ _ (exec (Stmt.For _ _ _ _ _) _) _ _ _)); (fail_if_success (with_reducible show wpAny _ _ (eval (Expr.IfExp _ _ _ _) _) _ _ _)); (fail_if_success (with_reducible show wpAny _ _ (pyIter _) _ _ _)); (fail_if_success (with_reducible show wpAny _ _ (call (Value.ref 201) _) _ _ _)); (fail_if_success (with_reducible show wpAny _ _ (subscriptTail _ (PySem.Expr.Slice _ _ _ _) (Value.ref _) (Value.ref _)) _ _ _)); (fail_if_success (with_reducible show wpAny _ _ (eval (Expr.ListComp _ _ _ _) _) _ _ _)); (fail_if_success (with_reducible show wpAny _ _ (exec (Stmt.Assign _ (Expr.ListComp _ _ _ _) _) _) _ _ _)); (fail_if_success (with_reducible show LCg.CompSrc _ _ _ _ _ _ _ _ _ _ _ _ _ _)); (fail_if_success (with_reducible show LCg.CompEnd _ _ _ _ _ _ _ _ _ _ _ _ _ _)); first | ((with_reducible show wpAny _ _ (assign (Expr.Tuple _ _ _) _ (Value.ref _)) _ _ _); refine' kun_list (by k_asm) (by k_asm) (by exact base_list (by assumption) (by assumption)) (by exact rfl) (by exact rfl) (by exact rfl) ?_; intro _ _ _; (try k_sweep)) | walk1 | (dsimp only; walk1) | (leave1; try dsimp only))))
    · rename (_ == _) = true => hkc
      refine' item_pq ?q1 ?q2 hxb ?_
      case q1 => k_asm
      case q2 => k_mem
      intro pt
      (repeat' (first | (k_unfold; (try dsimp only)) | (k_end; wrow_close) | ((fail_if_success (with_reducible show wpAny _ _ (exec (Stmt.For _ _ _ _ _) _) _ _ _)); (fail_if_success (with_reducible show wpAny _ _ (eval (Expr.IfExp _ _ _ _) _) _ _ _)); (fail_if_success (with_reducible show wpAny _ _ (pyIter _) _ _ _)); (fail_if_success (with_reducible show wpAny _ _ (call (Value.ref 201) _) _ _ _)); (fail_if_success (with_reducible show wpAny _ _ (subscriptTail _ (PySem.Expr.Slice _ _ _ _) (Value.ref _) (Value.ref _)) _ _ _)); (fail_if_success (with_reducible show wpAny _ _ (eval (Expr.ListComp _ _ _ _) _) _ _ _)); (fail_if_success (with_reducible show wpAny _ _ (exec (Stmt.Assign _ (Expr.ListComp _ _ _ _) _) _) _ _ _)); (fail_if_success (with_reducible show LCg.CompSrc _ _ _ _ _ _ _ _ _ _ _ _ _ _)); (fail_if_success (with_reducible show LCg.CompEnd _ _ _ _ _ _ _ _ _ _ _ _ _ _)); first | ((with_reducible show wpAny _ _ (assign (Expr.Tuple _ _ _) _ (Value.ref _)) _ _ _); refine' kun_list (by k_asm) (by k_asm) (by exact base_list (by assumption) (by assumption)) (by exact rfl) (by exact rfl) (by exact rfl) ?_; intro _ _ _; (try k_sweep)) | walk1 | (dsimp only; walk1) | (leave1; try dsimp only))))
      exact ender _ _ [(_, _)] _ (by k_asm) (by k_asm) ⟨⟨by k_ne, by k_ne, by k_ne⟩, trivial⟩ (jj.snoc hxr (by unfold itm; rw [if_pos (eq_of_beq hkc)]; exact .str _ _))
    · rename (_ == _) = false => hkc
      exact ender _ _ [] _ (by k_asm) (by k_asm) trivial (jj.snoc hxr (by unfold itm; rw [if_neg (ne_of_beq_false hkc)]; exact .int _ _))
  case u9 =>
    intro gg ys tl jj D2 h2 tk2 F2 N2 o2
    rw [List.size_toArray, hi.length] at jj
    unfold ItJ at jj
    rw [List.take_length] at jj
    (try simp only [List.cons_append, List.nil_append] at N2)
    have hysl : ys.length ≤ 1000 := by
      rw [CarriedAll.length_eq jj, List.length_map, ← hi.length]; exact hrl
    (try dsimp only)
    (repeat' (first | (k_unfold; (try dsimp only)) | (k_end; wrow_close) | ((fail_if_success (with_reducible show wpAny _ _ (exec (Stmt.For _ _ _ _ _) _) _ _ _)); (fail_if_success (with_reducible show wpAny _ _ (eval (Expr.IfExp _ _ _ _) _) _ _ _)); (fail_if_success (with_reducible show wpAny _ _ (pyIter _) _ _ _)); (fail_if_success (with_reducible show wpAny _ _ (call (Value.ref 201) _) _ _ _)); (fail_if_success (with_reducible show wpAny _ _ (subscriptTail _ (PySem.Expr.Slice _ _ _ _) (Value.ref _) (Value.ref _)) _ _ _)); (fail_if_success (with_reducible show wpAny _ _ (eval (Expr.ListComp _ _ _ _) _) _ _ _)); (fail_if_success (with_reducible show wpAny _ _ (exec (Stmt.Assign _ (Expr.ListComp _ _ _ _) _) _) _ _ _)); (fail_if_success (with_reducible show LCg.CompSrc _ _ _ _ _ _ _ _ _ _ _ _ _ _)); (fail_if_success (with_reducible show LCg.CompEnd _ _ _ _ _ _ _ _ _ _ _ _ _ _)); first | ((with_reducible show wpAny _ _ (assign (Expr.Tuple _ _ _) _ (Value.ref _)) _ _ _); refine' kun_list (by k_asm) (by k_asm) (by exact base_list (by assumption) (by assumption)) (by exact rfl) (by exact rfl) (by exact rfl) ?_; intro _ _ _; (try k_sweep)) | walk1 | (dsimp only; walk1) | (leave1; try dsimp only))))
    (try dsimp only)
    refine' ne_nil ?v1 ?v2 ?v3 ?v4 ?v5 ?v6 ?v7 ?_
    case v2 => k_asm
    case v1 => k_asm
    case v3 => exact hat'
    case v4 => exact hau
    case v5 => exact hak
    case v6 => k_mem
    case v7 => (dsimp only [Around.deeper]; rw [show cLine = 9900 from rfl]; omega)
    rename _ ∧ _ ∧ _ ∧ AllLt _ _ => LD
    have htx := allLt_ne LD.2.2.2
    obtain ⟨dx, hde⟩ : ∃ dx, dx = dxOf htx := ⟨_, rfl⟩
    dsimp only [dxOf] at hde
    subst hde
    by_cases hps : ps = []
    · rw [decide_eq_true hps]
      (try dsimp only [Bool.not_true])
      (repeat' (first | (k_unfold; (try dsimp only)) | (k_end; wrow_close) | ((fail_if_success (with_reducible show wpAny _ _ (exec (Stmt.For _ _ _ _ _) _) _ _ _)); (fail_if_success (with_reducible show wpAny _ _ (eval (Expr.IfExp _ _ _ _) _) _ _ _)); (fail_if_success (with_reducible show wpAny _ _ (pyIter _) _ _ _)); (fail_if_success (with_reducible show wpAny _ _ (call (Value.ref 201) _) _ _ _)); (fail_if_success (with_reducible show wpAny _ _ (subscriptTail _ (PySem.Expr.Slice _ _ _ _) (Value.ref _) (Value.ref _)) _ _ _)); (fail_if_success (with_reducible show wpAny _ _ (eval (Expr.ListComp _ _ _ _) _) _ _ _)); (fail_if_success (with_reducible show wpAny _ _ (exec (Stmt.Assign _ (Expr.ListComp _ _ _ _) _) _) _ _ _)); (fail_if_success (with_reducible show LCg.CompSrc _ _ _ _ _ _ _ _ _ _ _ _ _ _)); (fail_if_success (with_reducible show LCg.CompEnd _ _ _ _ _ _ _ _ _ _ _ _ _ _)); first | ((with_reducible show wpAny _ _ (assign (Expr.Tuple _ _ _) _ (Value.ref _)) _ _ _); refine' kun_list (by k_asm) (by k_asm) (by exact base_list (by assumption) (by assumption)) (by exact rfl) (by exact rfl) (by exact rfl) ?_; intro _ _ _; (try k_sweep)) | walk1 | (dsimp only; walk1) | (leave1; try dsimp only))))
      (try dsimp only)
      rename News _ _ _ _ => NN
      rename Fr _ _ _ _ => FF
      refine (fun hT => fin _ _ _ _ _ FF NN (VTop.vin hT) fun _ => hT) ?_
      rw [turnIf_vec]
      rw [hps, show (if b then ([] : List (Str × Int)).reverse else []) = [] by cases b <;> rfl]
      refine' ⟨_, _, _, _, _, .none, _, _, _, _, _, rfl, ?n1, ?n2, ?n3, .vec hk ⟨_, _, ?n7, ⟨?n8, ?nb⟩, ?n9⟩ jj (.inl ⟨rfl, rfl⟩)⟩
      case n1 => k_mem
      case n2 => k_mem
      case n3 => k_ne
      case n7 => rfl
      case n8 => k_mem
      case nb => k_ne
      case n9 => exact hysl
    · rw [decide_eq_false hps]
      (try dsimp only [Bool.not_false])
      (repeat' (first | (k_unfold; (try dsimp only)) | (k_end; wrow_close) | ((fail_if_success (with_reducible show wpAny _ _ (exec (Stmt.For _ _ _ _ _) _) _ _ _)); (fail_if_success (with_reducible show wpAny _ _ (eval (Expr.IfExp _ _ _ _) _) _ _ _)); (fail_if_success (with_reducible show wpAny _ _ (pyIter _) _ _ _)); (fail_if_success (with_reducible show wpAny _ _ (call (Value.ref 201) _) _ _ _)); (fail_if_success (with_reducible show wpAny _ _ (subscriptTail _ (PySem.Expr.Slice _ _ _ _) (Value.ref _) (Value.ref _)) _ _ _)); (fail_if_success (with_reducible show wpAny _ _ (eval (Expr.ListComp _ _ _ _) _) _ _ _)); (fail_if_success (with_reducible show wpAny _ _ (exec (Stmt.Assign _ (Expr.ListComp _ _ _ _) _) _) _ _ _)); (fail_if_success (with_reducible show LCg.CompSrc _ _ _ _ _ _ _ _ _ _ _ _ _ _)); (fail_if_success (with_reducible show LCg.CompEnd _ _ _ _ _ _ _ _ _ _ _ _ _ _)); first | ((with_reducible show wpAny _ _ (assign (Expr.Tuple _ _ _) _ (Value.ref _)) _ _ _); refine' kun_list (by k_asm) (by k_asm) (by exact base_list (by assumption) (by assumption)) (by exact rfl) (by exact rfl) (by exact rfl) ?_; intro _ _ _; (try k_sweep)) | walk1 | (dsimp only; walk1) | (leave1; try dsimp only))))
      rename News _ _ _ _ => NN
      rename Fr _ _ _ _ => FF
      rename Obj.IsDictOf _ _ _ => hdi
      clear hdi
      rename Obj.IsDictOf _ _ _ => hds
      rename _ ∧ _ => LL
      rename (_ == sysModules) = false => hlo
      have htl := allLt_ne LL.2.2.2.2.2.2
      refine For_invT g' ?_ (by intro _; rfl)
      refine src_join (us := us) (b := b) FF NN ?_ ?_
      · cases b
        · walk1
          (repeat' (first | (k_unfold; (try dsimp only)) | (k_end; wrow_close) | ((fail_if_success (with_reducible show wpAny _ _ (exec (Stmt.For _ _ _ _ _) _) _ _ _)); (fail_if_success (with_reducible show wpAny _ _ (eval (Expr.IfExp _ _ _ _) _) _ _ _)); (fail_if_success (with_reducible show wpAny _ _ (pyIter _) _ _ _)); (fail_if_success (with_reducible show wpAny _ _ (call (Value.ref 201) _) _ _ _)); (fail_if_success (with_reducible show wpAny _ _ (subscriptTail _ (PySem.Expr.Slice _ _ _ _) (Value.ref _) (Value.ref _)) _ _ _)); (fail_if_success (with_reducible show wpAny _ _ (eval (Expr.ListComp _ _ _ _) _) _ _ _)); (fail_if_success (with_reducible show wpAny _ _ (exec (Stmt.Assign _ (Expr.ListComp _ _ _ _) _) _) _ _ _)); (fail_if_success (with_reducible show LCg.CompSrc _ _ _ _ _ _ _ _ _ _ _ _ _ _)); (fail_if_success (with_reducible show LCg.CompEnd _ _ _ _ _ _ _ _ _ _ _ _ _ _)); first | ((with_reducible show wpAny _ _ (assign (Expr.Tuple _ _ _) _ (Value.ref _)) _ _ _); refine' kun_list (by k_asm) (by k_asm) (by exact base_list (by assumption) (by assumption)) (by exact rfl) (by exact rfl) (by exact rfl) ?_; intro _ _ _; (try k_sweep)) | walk1 | (dsimp only; walk1) | (leave1; try dsimp only))))
          exact ⟨_, listOf #[] 0, _, _, [], rfl, rfl, FF, NN, .inl hat', fun _ h => nomatch h⟩
        · walk1
          (repeat' (first | (k_unfold; (try dsimp only)) | (k_end; wrow_close) | ((fail_if_success (with_reducible show wpAny _ _ (exec (Stmt.For _ _ _ _ _) _) _ _ _)); (fail_if_success (with_reducible show wpAny _ _ (eval (Expr.IfExp _ _ _ _) _) _ _ _)); (fail_if_success (with_reducible show wpAny _ _ (pyIter _) _ _ _)); (fail_if_success (with_reducible show wpAny _ _ (call (Value.ref 201) _) _ _ _)); (fail_if_success (with_reducible show wpAny _ _ (subscriptTail _ (PySem.Expr.Slice _ _ _ _) (Value.ref _) (Value.ref _)) _ _ _)); (fail_if_success (with_reducible show wpAny _ _ (eval (Expr.ListComp _ _ _ _) _) _ _ _)); (fail_if_success (with_reducible show wpAny _ _ (exec (Stmt.Assign _ (Expr.ListComp _ _ _ _) _) _) _ _ _)); (fail_if_success (with_reducible show LCg.CompSrc _ _ _ _ _ _ _ _ _ _ _ _ _ _)); (fail_if_success (with_reducible show LCg.CompEnd _ _ _ _ _ _ _ _ _ _ _ _ _ _)); first | ((with_reducible show wpAny _ _ (assign (Expr.Tuple _ _ _) _ (Value.ref _)) _ _ _); refine' kun_list (by k_asm) (by k_asm) (by exact base_list (by assumption) (by assumption)) (by exact rfl) (by exact rfl) (by exact rfl) ?_; intro _ _ _; (try k_sweep)) | walk1 | (dsimp only; walk1) | (leave1; try dsimp only))))
          refine' krv_lit ?w1 ?w2 ?w3 (IsPart.int _ _) rfl ?_ ?w4 ?w5 ?w6
          case w1 => exact FF
          case w2 => exact NN
          case w3 => exact base_list FF hat'
          case w4 => with_unfolding_all rfl
          case w5 => (intro _; with_unfolding_all rfl)
          case w6 => rw [sizeLine_eq, List.size_toArray]; omega
          intro D h' F' N' l1
          exact ⟨D, _, h', _, [(D, _)], rfl, rfl, F', N', .inr ⟨.head _, rfl, _, rfl⟩, fun p hp q hq => by obtain rfl := List.mem_singleton.mp hp; exact Nat.ne_of_gt (l1 q hq)⟩
      intro ax so h3 tk3 new F3 N3 hso hnw
      (try simp only [List.cons_append, List.nil_append] at N3)
      dsimp only
      have hul' : (if b then us.reverse else us).length = us.length := by cases b <;> simp
      have hqu : All2 (AtT (Hp g')) (if b then us.reverse else us) (if b then ps.reverse else ps) := by
        cases b
        · exact hau
        · exact hau.reverse
      have hqn : ((if b then ps.reverse else ps).map (·.1)).Nodup := by
        cases b
        · exact hpn
        · show ((ps.reverse).map (·.1)).Nodup
          rw [List.map_reverse]; exact List.pairwise_reverse.mpr (hpn.imp fun q => Ne.symm q)
      generalize hqs : (if b then ps.reverse else ps) = qs at hqu hqn ⊢
      generalize hws : (if b then us.reverse else us) = ws at hqu hul' hso ⊢
      refine iter_pairs (ps := qs) (so := so) (us := ws) (AtsJ w _ dx _ qs) rfl rfl rfl rfl F3 N3 ?_ hqu ⟨_, [], [], (by rw [List.append_nil]), hds, .nil, fun _ h => nomatch h⟩ ?_ ?_
      · rcases hso with h | ⟨hm, hc⟩
        · exact .inl h
        · exact .inr ⟨by (repeat (first | exact List.mem_append_right _ hm | refine List.mem_cons_of_mem _ ?_)), hc⟩
      · intro i p t1 t2 I oI s₁ news₁ hpi hJ F4 N4 hI hsrc
        obtain ⟨od, kvs, nw, rfl, hod, hkv, hnd⟩ := hJ
        (try simp only [List.cons_append, List.nil_append] at N4 hI)
        obtain ⟨hh, gg, dd, tt, oo⟩ := s₁
        dsimp only at F4 N4 ⊢
        clear hds NN FF F3 N3
        have hdI := hI _ (List.Mem.head _)
        dsimp only at hdI
        (repeat' (first | (k_unfold; (try dsimp only)) | (k_end; wrow_close) | ((fail_if_success (with_reducible show wpAny _ _ (exec (Stmt.For _ _ _ _ _) _) _ _ _)); (fail_if_success (with_reducible show wpAny _ _ (eval (Expr.IfExp _ _ _ _) _) _ _ _)); (fail_if_success (with_reducible show wpAny _ _ (pyIter _) _ _ _)); (fail_if_success (with_reducible show wpAny _ _ (call (Value.ref 201) _) _ _ _)); (fail_if_success (with_reducible show wpAny _ _ (subscriptTail _ (PySem.Expr.Slice _ _ _ _) (Value.ref _) (Value.ref _)) _ _ _)); (fail_if_success (with_reducible show wpAny _ _ (eval (Expr.ListComp _ _ _ _) _) _ _ _)); (fail_if_success (with_reducible show wpAny _ _ (exec (Stmt.Assign _ (Expr.ListComp _ _ _ _) _) _) _ _ _)); (fail_if_success (with_reducible show LCg.CompSrc _ _ _ _ _ _ _ _ _ _ _ _ _ _)); (fail_if_success (with_reducible show LCg.CompEnd _ _ _ _ _ _ _ _ _ _ _ _ _ _)); first | ((with_reducible show wpAny _ _ (assign (Expr.Tuple _ _ _) _ (Value.ref _)) _ _ _); refine' kun_list (by k_asm) (by k_asm) (by exact base_list (by assumption) (by assumption)) (by exact rfl) (by exact rfl) (by exact rfl) ?_; intro _ _ _; (try k_sweep)) | walk1 | (dsimp only; walk1) | (leave1; try dsimp only))))
        rename News _ _ _ _ => NN
        rename Fr _ _ _ _ => FF
        refine' kda_set FF NN ?x1 hod (strKind_is _ _ _ _) ?x2 ?_
        case x1 =>
          refine UpdF.tail (by k_ne) (UpdF.tail (by k_ne) (UpdF.tail (by k_ne) (UpdF.tail (by k_ne) (UpdF.head ?_))))
          (repeat (refine List.forall_mem_cons.mpr ⟨by k_ne, ?_⟩))
          exact off_app (off_app htl fun p hp => hnw p hp _ (List.Mem.head _)) fun p hp => (hnd p hp).1
        case x2 =>
          have e1 := hkv.length
          rw [List.length_take] at e1
          have e2 := hqu.length
          rw [sizeLine_eq]; omega
        intro h5 o5 F5 N5 hd5
        dsimp only at N5
        (repeat' (first | (k_unfold; (try dsimp only)) | (k_end; wrow_close) | ((fail_if_success (with_reducible show wpAny _ _ (exec (Stmt.For _ _ _ _ _) _) _ _ _)); (fail_if_success (with_reducible show wpAny _ _ (eval (Expr.IfExp _ _ _ _) _) _ _ _)); (fail_if_success (with_reducible show wpAny _ _ (pyIter _) _ _ _)); (fail_if_success (with_reducible show wpAny _ _ (call (Value.ref 201) _) _ _ _)); (fail_if_success (with_reducible show wpAny _ _ (subscriptTail _ (PySem.Expr.Slice _ _ _ _) (Value.ref _) (Value.ref _)) _ _ _)); (fail_if_success (with_reducible show wpAny _ _ (eval (Expr.ListComp _ _ _ _) _) _ _ _)); (fail_if_success (with_reducible show wpAny _ _ (exec (Stmt.Assign _ (Expr.ListComp _ _ _ _) _) _) _ _ _)); (fail_if_success (with_reducible show LCg.CompSrc _ _ _ _ _ _ _ _ _ _ _ _ _ _)); (fail_if_success (with_reducible show LCg.CompEnd _ _ _ _ _ _ _ _ _ _ _ _ _ _)); first | ((with_reducible show wpAny _ _ (assign (Expr.Tuple _ _ _) _ (Value.ref _)) _ _ _); refine' kun_list (by k_asm) (by k_asm) (by exact base_list (by assumption) (by assumption)) (by exact rfl) (by exact rfl) (by exact rfl) ?_; intro _ _ _; (try k_sweep)) | walk1 | (dsimp only; walk1) | (leave1; try dsimp only))))
        refine pair_end F5 N5 hI (by k_ne) (by k_ne) (by k_ne) ⟨by k_ne, by k_ne⟩ ⟨by k_ne, by k_ne⟩ ⟨by k_ne, by k_ne⟩ hnd (fun nw' => ?x5) hd5 ?x6
        case x5 =>
          rcases hso with h | ⟨hm, hc⟩
          · exact .inl h
          · refine .inr ⟨List.mem_cons_of_mem _ (List.mem_append_left _ ?_), hc⟩
            (repeat (first | exact List.mem_append_right _ hm | refine List.mem_cons_of_mem _ ?_))
        case x6 =>
          refine ats_more hqn hkv hpi (fun q hq => .tail _ (.tail _ (.tail _ hq))) ⟨rfl, ?_⟩
          refine' ⟨_, _, _, _, rfl, ⟨_, _, _, .head _, .tail _ (.head _), List.forall_mem_cons.mpr ⟨?x8, List.forall_mem_cons.mpr ⟨?x9, List.forall_mem_cons.mpr ⟨?xa, fun _ h => nomatch h⟩⟩⟩⟩, ⟨_, _, rfl, .tail _ (.tail _ (.head _)), ?xb⟩, ?xc⟩
          case x8 => rfl
          case x9 => rfl
          case xa => rfl
          case xb => show 1 ≤ 1000; omega
          case xc => exact .cons (.int _ _) .nil
      · intro u v h6 tk6 news₁ hJ F4 N4
        obtain ⟨od, kvs, nw, rfl, hod, hkv, hnd⟩ := hJ
        rw [List.take_length] at hkv
        (try simp only [List.cons_append, List.nil_append] at N4)
        (try dsimp only)
        (repeat' (first | (k_unfold; (try dsimp only)) | (k_end; wrow_close) | ((fail_if_success (with_reducible show wpAny _ _ (exec (Stmt.For _ _ _ _ _) _) _ _ _)); (fail_if_success (with_reducible show wpAny _ _ (eval (Expr.IfExp _ _ _ _) _) _ _ _)); (fail_if_success (with_reducible show wpAny _ _ (pyIter _) _ _ _)); (fail_if_success (with_reducible show wpAny _ _ (call (Value.ref 201) _) _ _ _)); (fail_if_success (with_reducible show wpAny _ _ (subscriptTail _ (PySem.Expr.Slice _ _ _ _) (Value.ref _) (Value.ref _)) _ _ _)); (fail_if_success (with_reducible show wpAny _ _ (eval (Expr.ListComp _ _ _ _) _) _ _ _)); (fail_if_success (with_reducible show wpAny _ _ (exec (Stmt.Assign _ (Expr.ListComp _ _ _ _) _) _) _ _ _)); (fail_if_success (with_reducible show LCg.CompSrc _ _ _ _ _ _ _ _ _ _ _ _ _ _)); (fail_if_success (with_reducible show LCg.CompEnd _ _ _ _ _ _ _ _ _ _ _ _ _ _)); first | ((with_reducible show wpAny _ _ (assign (Expr.Tuple _ _ _) _ (Value.ref _)) _ _ _); refine' kun_list (by k_asm) (by k_asm) (by exact base_list (by assumption) (by assumption)) (by exact rfl) (by exact rfl) (by exact rfl) ?_; intro _ _ _; (try k_sweep)) | walk1 | (dsimp only; walk1) | (leave1; try dsimp only))))
        rename News _ _ _ _ => NN
        rename Fr _ _ _ _ => FF
        refine (fun hT => fin _ _ _ _ _ FF NN (VTop.vin hT) fun _ => hT) ?_
        rw [turnIf_vec]
        rw [hqs]
        refine' ⟨_, _, _, _, _, .ref _, _, _, _, _, _, rfl, ?p1, ?p2, ?p3, .vec hk ⟨_, _, ?p7, ⟨?p8, ?pe⟩, ?p9⟩ jj (.inr ⟨_, _, kvs, rfl, ⟨.head _, ?pd⟩, hlo, hod, ?pb, hkv.mono fun _ _ y => ⟨y.1, y.2.mono fun a o h => ⟨?pc, (hnd _ h).2⟩⟩⟩)⟩
        case p1 => k_mem
        case p2 => k_mem
        case p3 => k_ne
        case p7 => rfl
        case p8 => k_mem
        case pe => k_ne
        case p9 => exact hysl
        case pb =>
          have e1 := hkv.length
          have e2 := hqu.length
          omega
        case pc => (repeat (first | exact List.mem_append_right _ h | refine List.mem_cons_of_mem _ ?_))
        case pd => k_ne
end Mine
end Built

section BuiltA
open PySem PySem.Spec PySem.Calls PyProof.Rows PySem.W PyProof.V
namespace Mine

theorem built_all {w : World} : ∀ n, n ≤ 5 → BuiltC w n := by
  intro n
  induction n with
  | zero =>
    intro hn
    constructor
    intro mean mg mb A A₁ base outs s RR v b T hh hd hu hA Y hT hW ret
    refine up hh hd hu hA ?_
    have Y' : Amb w mean mg mb (AA (800 - 10 * 0) (8000 - 100 * 0) outs) base outs s.heap := ⟨⟨rfl, Y.B.stays, Y.B.frames⟩, Y.X, Y.T⟩
    cases T with
    | null => obtain ⟨t, rows, ats, ⟨a, t', k, rfl, M⟩, _, _⟩ := (by unfold TIn at hT; exact hT); exact built_null Y' M ret
    | name x => obtain ⟨t, rows, ats, ⟨a, t', k, rfl, M⟩, _, _⟩ := (by unfold TIn at hT; exact hT); exact built_name Y' M ret
    | vec kk r ps =>
      obtain ⟨t, rows, vs, ats, us, ⟨a, t', k, rfl, M⟩, ⟨ra, nr, rfl, hr, hrl⟩, hi, ⟨at0, na, rfl, ha, hal⟩, hua⟩ := (by unfold TIn at hT; exact hT)
      have z := hW.vec
      exact built_vec Y' M hn z.1 ⟨_, hr, rfl, _, rfl⟩ hrl hi z.2.1 ⟨_, ha, rfl, _, rfl⟩ hua z.2.2.2.2.2.2.2 hal z.2.2.2.1 ret
    | list ks ps => exact (by unfold TIn at hT; exact hT : False).elim
    | call tg ks => exact (by unfold TIn at hT; exact hT : False).elim
  | succ m IH =>
    intro hn
    have C := IH (by omega)
    constructor
    intro mean mg mb A A₁ base outs s RR v b T hh hd hu hA Y hT hW ret
    refine up hh hd hu hA ?_
    have Y' : Amb w mean mg mb (AA (800 - 10 * (m + 1)) (8000 - 100 * (m + 1)) outs) base outs s.heap := ⟨⟨rfl, Y.B.stays, Y.B.frames⟩, Y.X, Y.T⟩
    cases T with
    | null => obtain ⟨t, rows, ats, ⟨a, t', k, rfl, M⟩, _, _⟩ := (by unfold TIn at hT; exact hT); exact built_null Y' M ret
    | name x => obtain ⟨t, rows, ats, ⟨a, t', k, rfl, M⟩, _, _⟩ := (by unfold TIn at hT; exact hT); exact built_name Y' M ret
    | vec kk r ps =>
      obtain ⟨t, rows, vs, ats, us, ⟨a, t', k, rfl, M⟩, ⟨ra, nr, rfl, hr, hrl⟩, hi, ⟨at0, na, rfl, ha, hal⟩, hua⟩ := (by unfold TIn at hT; exact hT)
      have z := hW.vec
      exact built_vec Y' M hn z.1 ⟨_, hr, rfl, _, rfl⟩ hrl hi z.2.1 ⟨_, ha, rfl, _, rfl⟩ hua z.2.2.2.2.2.2.2 hal z.2.2.2.1 ret
    | list ks ps =>
      obtain ⟨t, rows, vs, ats, us, ⟨a, t', k, rfl, M⟩, ⟨ra, nr, rfl, hr, hrl⟩, hvs, ⟨at0, na, rfl, ha, hal⟩, hua⟩ := (by unfold TIn at hT; exact hT)
      obtain ⟨_, _, hwf, hok⟩ := (by unfold Wf at hW; exact hW)
      exact built_list Y' M hn rfl C ⟨_, hr, rfl, _, rfl⟩ hrl hvs hwf ⟨_, ha, rfl, _, rfl⟩ hua hok.2.2.2.2 hal hok.1 ret
    | call tg ks =>
      obtain ⟨ex, es, rows, vs, ats, ⟨a, t', k, rfl, M⟩, ⟨ea, ne, rfl, he, hel⟩, hes, ⟨ra, nr, rfl, hr, hrl⟩, hvs, _⟩ := (by unfold TIn at hT; exact hT)
      obtain ⟨_, _, _, _, _, hwf, hok⟩ := (by unfold Wf at hW; exact hW)
      exact built_call Y' M hn rfl C ⟨_, hr, rfl, _, rfl⟩ hrl hvs hwf ⟨_, he, rfl, _, rfl⟩ hel hes hok ret
end Mine
end BuiltA

section Ch
open PySem PySem.Spec PySem.Calls PyProof.Rows PySem.W PyProof.V
namespace Mine
structure ChC (w : World) (n : Nat) : Prop where
  run : ∀ {mean : ExcName → Option Value} {mg mb : Str → Option Value} {A A₁ : Around} {base : Heap} {outs : List Env} {s : Shared} {RR : Result → Shared → Prop} {S Q : Addr} {v : Value} {T : Tr} {b₀ : Heap},
    A.handled = none → A.depth ≤ 800 - 10 * n → A.units ≤ 8000 - 100 * n → A.frames = some outs → Amb w mean mg mb A₁ base outs (hideAll s.heap [S, Q]) → Src s.heap S Q → (∀ a o, b₀.get? a = some o → (hideAll s.heap [S, Q]).get? a = some o) → TIn (Hp b₀) n v T → Wf 1 n T →
    (∀ h' tk' r T', Kept [S, Q] s.heap h' → Src h' S Q → Chg n T T' → Wf 2 n T' → TIn (fun a o => b₀.get? a = some o ∨ New s.heap h' a o) n r T' → RR (.ok (.ret r)) { s with heap := h', toks := tk' }) →
    codeAny (model PySem.Challenge.rw_pq1317_01.row.prog w) A (.call (.ref 208) ⟨[.ref S, v], []⟩) RR s
theorem base_list_Ch {h₀ h : Heap} {L l : Addr} {m : Str → Option Value} {its : Array Value} (F : Fr h₀ L h m) (hl : h₀.IsList l its) : h.IsList l its := hl.at fun o e => F.keep l o e
theorem ch_fin {g h h' b₀ : Heap} {L : Addr} {m : Str → Option Value} {news : List (Addr × Obj)} {S Q : Addr} {so qo so' qo' : Obj} {gl : Obj → Obj → List (Addr × Obj)} {n : Nat} {r : Value} {V : Tr} (hg : g = hid h [(S, so'), (Q, qo')])
    (F : Fr g L h' m) (N : News g L h' news) (U : Two S Q so qo news gl) (hS : SrcMu S Q [(S, so), (Q, qo)])
    (x : TIn (fun a o => b₀.get? a = some o ∨ ((a, o) ∈ news ∧ (@Ne Nat a S) ∧ (@Ne Nat a Q))) n r V) : Kept [S, Q] h h' ∧ Src h' S Q ∧ TIn (fun a o => b₀.get? a = some o ∨ New h h' a o) n r V := by
  subst hg
  refine ⟨kept_of F, Src.of hS (N _ U.split.1).1 (N _ U.split.2.1).1, x.mono fun a o hm => ?_⟩
  rcases hm with e | ⟨hm, n1, n2⟩
  · exact .inl e
  · refine .inr ⟨?_, (N _ hm).1⟩
    have z := (N _ hm).2.2
    dsimp only at z
    cases q : h.get? a with
    | none => rfl
    | some o' =>
      rw [hideAll_get _ q (fun k => by
        rcases List.mem_cons.mp k with k | k
        · exact n1 k
        · exact n2 (List.mem_singleton.mp k))] at z
      cases z






theorem led_list {h₀ h : Heap} {L l : Addr} {news : List (Addr × Obj)} {its : Array Value} {n : Nat} (N : News h₀ L h news) (hm : (l, listOf its n) ∈ news) : h.IsList l its := ⟨_, (N _ hm).1, rfl, n, rfl⟩
theorem name_wf {n : Nat} {x : Str} (h : x.length ≤ 10) : Wf 2 n (.name (x ++ ("1" : Str))) := by
  unfold Wf
  have h1 : (x ++ ("1" : Str)).length = x.length + ("1" : Str).length := by
    show (x.append ("1" : Str)).length = _
    simp [Str.length, Str.append]
  rw [h1, show ("1" : Str).length = 1 from by decide +kernel]
  omega
theorem okAts_up {a : List (Str × Int)} (h : okAts 1 a) : okAts 2 a := ⟨h.1, by have := h.2.1; omega, fun h => absurd h (by omega), h.2.2.2⟩
theorem okAts_other {a : List (Str × Int)} (h : okAts 1 a) : okAts 2 (a ++ [(("other" : Str), 1)]) := by
  refine ⟨?_, ?_, fun h => absurd h (by omega), fun p hp => ?_, fun p hp => ?_⟩
  · rw [List.map_append]
    refine List.nodup_append.mpr ⟨h.1, by simp, fun x hx y hy => ?_⟩
    obtain ⟨p, hp, rfl⟩ := List.mem_map.mp hx
    have e : y = ("other" : Str) := by simpa using hy
    rw [e]; exact h.2.2.1 (Nat.le_refl _) p hp
  · have := h.2.1
    rw [List.length_append]; simp; omega
  · rcases List.mem_append.mp hp with hp | hp
    · exact h.2.2.2.1 p hp
    · obtain rfl := List.mem_singleton.mp hp; exact (by decide +kernel)
  · rcases List.mem_append.mp hp with hp | hp
    · exact h.2.2.2.2 p hp
    · obtain rfl := List.mem_singleton.mp hp; exact (by decide +kernel)
theorem okAts_last {a : List (Str × Int)} {p : Str × Int} (h : okAts 1 (a ++ [p])) : okAts 2 (a ++ [(p.1, p.2 + 1)]) := by
  have e : (a ++ [(p.1, p.2 + 1)]).map (·.1) = (a ++ [p]).map (·.1) := by simp
  have m : ∀ q ∈ a ++ [(p.1, p.2 + 1)], ∃ q' ∈ a ++ [p], q'.1 = q.1 := fun q hq => by
    rcases List.mem_append.mp hq with hq | hq
    · exact ⟨q, List.mem_append.mpr (.inl hq), rfl⟩
    · obtain rfl := List.mem_singleton.mp hq; exact ⟨p, by simp, rfl⟩
  refine ⟨e ▸ h.1, ?_, fun h => absurd h (by omega), fun q hq => ?_, fun q hq => ?_⟩
  · have := h.2.1
    simp at this ⊢; omega
  · obtain ⟨q', h1, h2⟩ := m q hq; exact h2 ▸ h.2.2.2.1 q' h1
  · obtain ⟨q', h1, h2⟩ := m q hq; exact h2 ▸ h.2.2.2.2 q' h1
theorem wf_vec {n : Nat} {k : Str} {r : List Int} {a : List (Str × Int)} (h1 : okKind k) (h2 : ∀ x ∈ r, x = 0 ∨ x = 1) (h3 : r.length ≤ 20) (h4 : okAts 2 a) : Wf 2 n (.vec k r a) := by
  cases n <;> (unfold Wf; exact ⟨h1, h2, h3, h4⟩)
theorem tin_vec {P : Addr → Obj → Prop} {n : Nat} {v : Value} {k : Str} {t : Tok} {rows ats : Value} {vs us : List Value} {r : List Int} {a : List (Str × Int)} (h1 : Node P v "vector" (.str k t) rows ats) (h2 : Lst P rows vs) (h3 : IntsAre vs r) (h4 : Lst P ats us) (h5 : All2 (AtT P) us a) : TIn P n v (.vec k r a) := by
  unfold TIn; exact ⟨t, rows, vs, ats, us, h1, h2, h3, h4, h5⟩
theorem tin_list {P : Addr → Obj → Prop} {n : Nat} {v : Value} {t : Tok} {rows ats : Value} {vs us : List Value} {ks : List Tr} {a : List (Str × Int)} (h1 : Node P v "list" (.str "" t) rows ats) (h2 : Lst P rows vs) (h3 : All2 (TIn P n) vs ks) (h4 : Lst P ats us) (h5 : All2 (AtT P) us a) : TIn P (n + 1) v (.list ks a) := by
  unfold TIn; exact ⟨t, rows, vs, ats, us, h1, h2, h3, h4, h5⟩
theorem tin_call {P : Addr → Obj → Prop} {n : Nat} {v : Value} {extra rows ats : Value} {es vs : List Value} {tg : List (Option Str)} {ks : List Tr} (h1 : Node P v "call" extra rows ats) (h2 : Lst P extra es) (h3 : CarriedAll es (tg.map tagD)) (h4 : Lst P rows vs) (h5 : All2 (TIn P n) vs ks) (h6 : Lst P ats []) : TIn P (n + 1) v (.call tg ks) := by
  unfold TIn; exact ⟨extra, es, rows, vs, ats, h1, h2, h3, h4, h5, h6⟩
theorem chg_vec {n : Nat} {k : Str} {r : List Int} {a : List (Str × Int)} {T : Tr} (h : (∃ a', ChgA a a' ∧ T = .vec k r a') ∨ ∃ k' r', ChgV k r k' r' ∧ T = .vec k' r' a) : Chg n (.vec k r a) T := by unfold Chg; exact h
theorem ints_app : ∀ {xs ys : List Value} {ns ms : List Int}, IntsAre xs ns → IntsAre ys ms → IntsAre (xs ++ ys) (ns ++ ms)
  | _, _, _, _, .nil, y => y
  | _, _, _, _, .cons _ _ r, y => .cons _ _ (ints_app r y)
theorem all2_last {α β : Type} {R : α → β → Prop} : ∀ {as : List α} {bs : List β} {b : β}, All2 R as (bs ++ [b]) → ∃ as' a, as = as' ++ [a] ∧ All2 R as' bs ∧ R a b
  | _, [], _, .cons (a := a) x .nil => ⟨[], a, rfl, .nil, x⟩
  | _, _ :: bs, _, .cons (a := a) x r => by
    obtain ⟨as', a', rfl, h, h'⟩ := all2_last (bs := bs) r
    exact ⟨a :: as', a', rfl, .cons x h, h'⟩
theorem tup_base {h₀ h : Heap} {L q : Addr} {m : Str → Option Value} {vs : List Value} {k : Nat} (F : Fr h₀ L h m) (hq : h₀.get? q = some (tupObj vs k)) : IsTup h q vs.toArray := ⟨_, F.keep _ _ hq, rfl, k, rfl⟩
theorem item_last {prog : Program} {w : World} {A : Around} {E : Value → Shared → Prop} {s : Shared} {value slice : PySem.Expr} {l : Addr} {ui : List Value} {u : Value} {tk : Tok} {Q : Value → Shared → Prop} (hl : s.heap.IsList l (ui ++ [u]).toArray) (hlen : (ui ++ [u]).length ≤ 1000) (h : Q u s)
    (hs : subscripted slice false (.ref l) (.int (-1) tk) = operate [.ref l, .int (-1) tk] (getItem (.ref l) (.int (-1) tk)) := by with_unfolding_all rfl) : wpAny (model prog w) A (subscriptTail value slice (.ref l) (.int (-1) tk)) Q E s := by
  have hn : (ui ++ [u]).toArray.size = ui.length + 1 := by simp
  exact subscriptTail_builtinR hl.typeIs slot_list_getitem.lookup (wpAny_getItem_list_neg (Q := fun r s' => r = u ∧ Q r s') hl (by omega) (by rw [hn]; omega) (by omega) (by rw [hn, show (-1 + ((ui.length + 1 : Nat) : Int)).toNat = ui.length by omega]; simp) ⟨rfl, h⟩) hs
theorem pick_init {ui : List Value} {u : Value} : slicePick (ui ++ [u]).toArray none (some (-1)) none = ui.toArray := by
  rw [kms_pick_eq]
  simp [kms_pick, kms_lo, kms_hi]
theorem pick_upto {us : List Value} {i : Nat} : slicePick us.toArray none (some (i : Int)) none = (us.take i).toArray := by
  rw [kms_pick_eq]
  have h : ¬ ((i : Int) < 0) := by omega
  simp only [kms_pick, kms_lo, kms_hi, if_neg h, List.drop_zero, Nat.sub_zero, Int.toNat_natCast]
  rw [kmk_take_min]
theorem pick_from {us : List Value} {i : Nat} : slicePick us.toArray (some (i : Int)) none none = (us.drop i).toArray := by
  rw [kms_pick_eq]
  have h : ¬ ((i : Int) < 0) := by omega
  simp only [kms_pick, kms_lo, kms_hi, if_neg h, Int.toNat_natCast]
  rw [kmk_drop_min, List.take_of_length_le]
  rw [List.length_drop]
  omega
theorem bits_one {r : List Int} (h : ∀ x ∈ r, x = 0 ∨ x = 1) : ∀ x ∈ r ++ [1], x = 0 ∨ x = 1 := fun x hx => by
  rcases List.mem_append.mp hx with hx | hx
  · exact h x hx
  · exact .inr (List.mem_singleton.mp hx)

theorem pick_next {us : List Value} {i : Nat} : slicePick us.toArray (some ((i : Int) + 1)) none none = (us.drop (i + 1)).toArray := by
  have := pick_from (us := us) (i := i + 1)
  rwa [show (((i + 1 : Nat)) : Int) = (i : Int) + 1 by omega] at this
section
variable {w : World} {mean : ExcName → Option Value} {mg mb : Str → Option Value} {A₀ A : Around} {base h₀ b₀ : Heap} {outer : List Env} {L : Addr} {m : Str → Option Value} {env : Env} {news : List (Addr × Obj)} {s : Shared} {E : Value → Shared → Prop} {Q' : Value → Shared → Prop}
  {S Q : Addr} {so qo : Obj} {gl : Obj → Obj → List (Addr × Obj)}
theorem ch_use {n : Nat} {v : Value} {T : Tr} (C : ChC w n) (hT : TIn (Hp b₀) n v T) (hw : Wf 1 n T) (hb : ∀ a o, b₀.get? a = some o → h₀.get? a = some o) (U : Two S Q so qo news gl) (hS : SrcMu S Q [(S, so), (Q, qo)])
    (B : Below A₀ base outer h₀) (F : Fr h₀ L s.heap m) (N : News h₀ L s.heap news) (X : (hd.heap_39 w.params).In h₀) (T' : Tp mean mg mb h₀) (hA : A.frames = some (env :: outer)) (hf : env.frame = some L) (hke : env.scope.kind = .function)
    (hh : A.handled = none) (hd : A.depth ≤ 800 - 10 * n) (hu : A.units ≤ 8000 - 100 * n)
    (ret : ∀ r V tl h' tk' so' qo', Fr h₀ L h' m → News h₀ L h' (gl so' qo' ++ tl) → SrcMu S Q [(S, so'), (Q, qo')] → (∀ p ∈ tl, ∀ q ∈ news, (@Ne Nat p.1 q.1)) → Chg n T V → Wf 2 n V → TIn (fun a o => b₀.get? a = some o ∨ (a, o) ∈ tl) n r V → OffT S Q tl → Two S Q so' qo' (gl so' qo' ++ tl) (fun a b => gl a b ++ tl) → Q' r { s with heap := h', toks := tk' }) :
    wpAny (model PySem.Challenge.rw_pq1317_01.row.prog w) A (call (.ref 208) [.ref S, v]) Q' E s := by
  have hbs : ∀ a o, b₀.get? a = some o → (hideAll s.heap [S, Q]).get? a = some o := fun a o e => hideAll_get _ (F.keep _ _ (hb a o e)) fun k => by
    have z := hb a o e
    rcases List.mem_cons.mp k with k | k
    · rw [k, (N _ U.split.1).2.2] at z; cases z
    · rw [List.mem_singleton.mp k, (N _ U.split.2.1).2.2] at z; cases z
  refine wpAny_call (C.run hh hd hu hA (amb_two U B F N X T' hA hf hke) (Src.of hS (N _ U.split.1).1 (N _ U.split.2.1).1) hbs hT hw fun h' tk' r V k s' c a b => ?_)
  obtain ⟨so', qo', hS', e1, e2⟩ := s'.get
  obtain ⟨tl, N', hn, ht⟩ := new_tl (h' := h') F
  exact ret r V tl h' tk' so' qo' (U.fr F N k) (fun p hp => by
    rcases List.mem_append.mp hp with hp | hp
    · exact U.news N k e1 e2 p hp
    · exact N' p hp) hS' (fun p hp q hq => new_ne N hn hq p hp) c a (b.mono fun a o z => z.imp id fun y => ht a o y) (offT_new U N hn) ((U.re so' qo').app (offT_new U N hn))
end
theorem Wf.up : ∀ {n : Nat} {T : Tr}, Wf 1 n T → Wf 2 n T
  | n, .null, _ => by cases n <;> (unfold Wf; trivial)
  | n, .name x, h => by
    have h' : x.length ≤ 10 * 1 := by cases n <;> (unfold Wf at h; exact h)
    cases n <;> (unfold Wf; omega)
  | n, .vec k r a, h => wf_vec h.vec.1 h.vec.2.1 (by have := h.vec.2.2.1; omega) (okAts_up h.vec.2.2.2)
  | n + 1, .list ks a, h => by
    unfold Wf at h ⊢
    exact ⟨h.1, by have := h.2.1; omega, fun k hk => Wf.up (h.2.2.1 k hk), okAts_up h.2.2.2⟩
  | n + 1, .call t ks, h => by
    unfold Wf at h ⊢
    exact ⟨h.1, h.2.1, by have := h.2.2.1; omega, by have := h.2.2.2.1; omega, fun h => absurd h (by omega), fun k hk => Wf.up (h.2.2.2.2.2.1 k hk), h.2.2.2.2.2.2⟩
  | 0, .list _ _, h => h.elim
  | 0, .call _ _, h => h.elim
theorem All2.take {α β : Type} {R : α → β → Prop} : ∀ (i : Nat) {as : List α} {bs : List β}, All2 R as bs → All2 R (as.take i) (bs.take i)
  | 0, _, _, _ => .nil
  | _ + 1, _, _, .nil => .nil
  | i + 1, _, _, .cons x r => .cons x (r.take i)
theorem All2.drop {α β : Type} {R : α → β → Prop} : ∀ (i : Nat) {as : List α} {bs : List β}, All2 R as bs → All2 R (as.drop i) (bs.drop i)
  | 0, _, _, h => h
  | _ + 1, _, _, .nil => .nil
  | i + 1, _, _, .cons _ r => r.drop i
theorem kids_at {ks : List Tr} {i : Nat} {T : Tr} (h : ks[i]? = some T) : ks = ks.take i ++ T :: ks.drop (i + 1) := by
  obtain ⟨hi, e⟩ := List.getElem?_eq_some_iff.mp h
  rw [← e, ← List.drop_eq_getElem_cons hi, List.take_append_drop]
theorem chg_kid_list {n i : Nat} {ks : List Tr} {a : List (Str × Int)} {T V : Tr} (h : ks[i]? = some T) (c : Chg n T V) : Chg (n + 1) (.list ks a) (.list ((ks.take i ++ [V]) ++ ks.drop (i + 1)) a) := by
  unfold Chg
  exact .inl ⟨ks.take i, T, ks.drop (i + 1), V, kids_at h, c, by simp⟩
theorem chg_kid_call {n i : Nat} {ks : List Tr} {t : List (Option Str)} {T V : Tr} (h : ks[i]? = some T) (c : Chg n T V) : Chg (n + 1) (.call t ks) (.call t ((ks.take i ++ [V]) ++ ks.drop (i + 1))) := by
  unfold Chg
  exact .inl ⟨ks.take i, T, ks.drop (i + 1), V, kids_at h, c, by simp⟩
theorem chg_more_list {n : Nat} {ks : List Tr} {a : List (Str × Int)} : Chg (n + 1) (.list ks a) (.list (ks ++ [.null]) a) := by unfold Chg; exact .inr (.inr rfl)
theorem chg_ats_list {n : Nat} {ks : List Tr} {a a' : List (Str × Int)} (h : ChgA a a') : Chg (n + 1) (.list ks a) (.list ks a') := by unfold Chg; exact .inr (.inl ⟨_, h, rfl⟩)
theorem chg_tag_call {n : Nat} {ks : List Tr} {t : List (Option Str)} {x : Option Str} : Chg (n + 1) (.call (t ++ [x]) ks) (.call (t ++ [some ("z" : Str)]) ks) := by unfold Chg; exact .inr (by simp)
theorem tin_null {P : Addr → Obj → Prop} {n : Nat} {v : Value} {t : Tok} {rows ats : Value} (h1 : Node P v "NULL" (.str "" t) rows ats) (h2 : Lst P rows []) (h3 : Lst P ats []) : TIn P n v .null := by
  unfold TIn; exact ⟨t, rows, ats, h1, h2, h3⟩
theorem wf_more {n : Nat} {ks : List Tr} (h : ∀ k ∈ ks, Wf 1 n k) : ∀ k ∈ ks ++ [.null], Wf 2 n k := fun k hk => by
  rcases List.mem_append.mp hk with hk | hk
  · exact (h k hk).up
  · obtain rfl := List.mem_singleton.mp hk
    cases n <;> (unfold Wf; trivial)
theorem carried_last {d : PyData} {ds : List PyData} : ∀ {vs : List Value}, CarriedAll vs (ds ++ [d]) → ∃ vs' v, vs = vs' ++ [v] ∧ CarriedAll vs' ds ∧ Carried v d := by
  induction ds with
  | nil =>
    intro vs h
    cases h with
    | cons x r => cases r; exact ⟨[], _, rfl, .nil, x⟩
  | cons e ds ih =>
    intro vs h
    cases h with
    | cons x r =>
      obtain ⟨vs', v', rfl, h, h'⟩ := ih r
      exact ⟨_ :: vs', v', rfl, .cons x h, h'⟩
theorem carried_app : ∀ {xs ys : List Value} {ns ms : List PyData}, CarriedAll xs ns → CarriedAll ys ms → CarriedAll (xs ++ ys) (ns ++ ms)
  | _, _, _, _, .nil, y => y
  | _, _, _, _, .cons x r, y => .cons x (carried_app r y)
theorem kids_wf {n i : Nat} {ks : List Tr} {V : Tr} (h : ∀ k ∈ ks, Wf 1 n k) (hV : Wf 2 n V) : ∀ k ∈ (ks.take i ++ [V]) ++ ks.drop (i + 1), Wf 2 n k := fun k hk => by
  rcases List.mem_append.mp hk with hk | hk
  · rcases List.mem_append.mp hk with hk | hk
    · exact (h k (List.mem_of_mem_take hk)).up
    · obtain rfl := List.mem_singleton.mp hk; exact hV
  · exact (h k (List.mem_of_mem_drop hk)).up
theorem kids_len {i : Nat} {ks : List Tr} {V : Tr} (h : ks.length ≤ 10) : ((ks.take i ++ [V]) ++ ks.drop (i + 1)).length ≤ 11 := by
  simp; omega
theorem wf_list {n : Nat} {ks : List Tr} {a : List (Str × Int)} (h1 : ks ≠ []) (h2 : ks.length ≤ 20) (h3 : ∀ k ∈ ks, Wf 2 n k) (h4 : okAts 2 a) : Wf 2 (n + 1) (.list ks a) := by unfold Wf; exact ⟨h1, h2, h3, h4⟩
theorem wf_call {n : Nat} {t : List (Option Str)} {ks : List Tr} (h0 : t ≠ []) (h5 : t.length ≤ 20) (h1 : ks ≠ []) (h2 : ks.length ≤ 20) (h3 : ∀ k ∈ ks, Wf 2 n k) (h4 : ∀ x ∈ t, okTag x) : Wf 2 (n + 1) (.call t ks) := by unfold Wf; exact ⟨h1, h0, h5, h2, fun h => absurd h (by omega), h3, h4⟩

set_option maxHeartbeats 8000000 in
theorem ch_null {w : World} {n : Nat} {mean : ExcName → Option Value} {mg mb : Str → Option Value} {base : Heap} {outs : List Env} {s : Shared} {RR : Result → Shared → Prop} {S Q : Addr} {so qo : Obj} {b₀ : Heap} {a0 : Addr} {k : Nat} {t te : Tok} {rows ats : Value} (hn5 : n ≤ 5)
    (hS : SrcMu S Q [(S, so), (Q, qo)]) (hm : ∀ p ∈ [(S, so), (Q, qo)], s.heap.get? p.1 = some p.2)
    (key : Amb w mean mg mb (AA (800 - 10 * n) (8000 - 100 * n) outs) base outs (hid s.heap [(S, so), (Q, qo)])) (hb0 : ∀ a o, b₀.get? a = some o → (hid s.heap [(S, so), (Q, qo)]).get? a = some o) (M : b₀.get? a0 = some (listOf #[.str ("NULL" : Str) t, .str ("" : Str) te, rows, ats] k)) 
    (ret : ∀ h' tk' r T', Kept [S, Q] s.heap h' → Src h' S Q → Chg n (.null) T' → Wf 2 n T' → TIn (fun a o => b₀.get? a = some o ∨ New s.heap h' a o) n r T' → RR (.ok (.ret r)) { s with heap := h', toks := tk' }) :
    codeAny (model PySem.Challenge.rw_pq1317_01.row.prog w) (AA (800 - 10 * n) (8000 - 100 * n) outs) (.call (.ref 208) ⟨[.ref S, .ref a0], []⟩) RR s := by
  have KX := key.X
  revert KX
  k_fill
  intro KX
  refine' enter (binds := [("source", .ref S), ("tree", .ref a0)]) key hm ?k6 ?k7 ?k8 ?k9 ?kB ?_ ?c2 ?c3 ?c4 ?c5
  case k6 => k_is
  case k7 => k_is
  case k8 => exact Nat.lt_of_le_of_lt (Nat.sub_le _ _) (Nat.le_of_ble_eq_true rfl)
  case k9 => exact BindsTo.of_eq rfl
  case kB => exact locs rfl
  case c2 => decide
  case c3 => exact rfl
  case c4 => exact rfl
  case c5 => exact rfl
  intro g' L' h' hg F' N' B' X' T'
  clear KX
  have fin : ∀ h' m' news gl so qo tk r V, Fr g' L' h' m' → News g' L' h' news → Two S Q so qo news gl → SrcMu S Q [(S, so), (Q, qo)] → Chg n (.null) V → Wf 2 n V → TIn (fun a o => b₀.get? a = some o ∨ ((a, o) ∈ news ∧ (@Ne Nat a S) ∧ (@Ne Nat a Q))) n r V → RR (.ok (.ret r)) { s with heap := h', toks := tk } :=
    fun h' m' news gl so qo tk r V F N U hS C W x => let z := ch_fin hg F N U hS x; ret _ _ _ _ z.1 z.2.1 C W z.2.2
  have hb' : ∀ a o, b₀.get? a = some o → g'.get? a = some o := by rw [hg]; exact hb0
  have L0 : g'.IsList a0 #[.str ("NULL" : Str) t, .str ("" : Str) te, rows, ats] := ⟨_, hb' _ _ M, rfl, _, rfl⟩
  have sS : @LT.lt Nat instLTNat S s.heap.objs.size := Heap.lt_size (hm _ (.head _))
  have sQ : @LT.lt Nat instLTNat Q s.heap.objs.size := Heap.lt_size (hm _ (.tail _ (.head _)))
  clear hg ret key hm M hb0
  (try dsimp only)
  (try k_fold)
  (repeat' (first | (k_unfold; (try dsimp only)) | (k_end; wrow_close) | ((fail_if_success (with_reducible show wpAny _ _ (call (Value.ref 208) _) _ _ _)); (fail_if_success (with_reducible show wpAny _ _ (binaryOp Operator.Add (Value.ref _) (Value.ref _)) _ _ _)); (fail_if_success (with_reducible show wpAny _ _ (subscriptTail _ _ (Value.ref _) (Value.int _ _)) _ _ _)); (fail_if_success (with_reducible show wpAny _ _ (compareOp CmpOp.NotEq (Value.ref _) (Value.ref _)) _ _ _)); (fail_if_success (with_reducible show wpAny _ _ (eval (PySem.Expr.List [PySem.Expr.Constant (Const.str (Str.ofString "z")) _ _] _) _) _ _ _)); first | ((with_reducible show wpAny _ _ (call (Value.ref 191) [_, _]) _ _ _); refine' take_use (by k_asm) (by assumption) (by repeat' (first | ((with_reducible show Two _ _ _ _ _ _); first | assumption | (refine' Two.head ?_) | (refine' Two.tail ?_ ?_ ?_)) | k_ne | assumption | (refine' OffT.app ?_ ?_) | exact List.forall_mem_nil _ | fail)) (by first | assumption | decide | omega) (by first | assumption | decide | omega) (by k_asm) (by k_asm) (by k_asm) (by k_asm) (by exact rfl) (by exact rfl) (by exact rfl) (by exact rfl) (by dsimp only [Around.deeper]; omega) (by dsimp only [Around.deeper]; omega) ?_; intro rr tt hh1 tk1 so1 qo1 F' N' hS1 rr0 rr1 U1; (try dsimp only at N' U1); (try k_sweep)) | ((with_reducible show wpAny _ _ (assign (Expr.Tuple _ _ _) _ (Value.ref _)) _ _ _); refine' kun_list (by k_asm) (by k_asm) (by exact base_list_Ch (by assumption) (by assumption)) (by exact rfl) (by exact rfl) (by exact rfl) ?_; intro _ _ _; (try k_sweep)) | walk1 | (dsimp only; walk1) | (leave1; try dsimp only))))
  refine' fin _ _ _ _ _ _ _ _ (.name ("a" : Str)) ?e1a ?e2a ?e3a ?e4a ?e5a ?e6a ?e7a
  case e2a => k_asm
  case e1a => k_asm
  case e4a => assumption
  case e3a => (repeat' (first | ((with_reducible show Two _ _ _ _ _ _); first | assumption | (refine' Two.head ?_) | (refine' Two.tail ?_ ?_ ?_)) | k_ne | assumption | (refine' OffT.app ?_ ?_) | exact List.forall_mem_nil _ | fail))
  case e5a => unfold Chg; rfl
  case e6a => unfold Wf; decide +kernel
  case e7a =>
    unfold TIn
    refine' ⟨_, _, _, ⟨_, _, _, rfl, .inr ⟨?na1, ?na2, ?na3⟩⟩, ⟨_, _, rfl, .inr ⟨?ma1, ?ma2, ?ma3⟩, Nat.zero_le _⟩, ⟨_, _, rfl, .inr ⟨?oa1, ?oa2, ?oa3⟩, Nat.zero_le _⟩⟩
    case na1 => k_mem
    case ma1 => k_mem
    case oa1 => k_mem
    all_goals k_ne

set_option maxHeartbeats 8000000 in
theorem ch_name {w : World} {n : Nat} {mean : ExcName → Option Value} {mg mb : Str → Option Value} {base : Heap} {outs : List Env} {s : Shared} {RR : Result → Shared → Prop} {S Q : Addr} {so qo : Obj} {b₀ : Heap} {a0 : Addr} {k : Nat} {t te : Tok} {x : Str} {ra at0 : Addr} {k1 k2 : Nat} (hn5 : n ≤ 5)
    (hS : SrcMu S Q [(S, so), (Q, qo)]) (hm : ∀ p ∈ [(S, so), (Q, qo)], s.heap.get? p.1 = some p.2)
    (key : Amb w mean mg mb (AA (800 - 10 * n) (8000 - 100 * n) outs) base outs (hid s.heap [(S, so), (Q, qo)])) (hb0 : ∀ a o, b₀.get? a = some o → (hid s.heap [(S, so), (Q, qo)]).get? a = some o) (M : b₀.get? a0 = some (listOf #[.str ("name" : Str) t, .str x te, .ref ra, .ref at0] k)) (hx : x.length ≤ 10) (hr : b₀.get? ra = some (listOf #[] k1)) (ha : b₀.get? at0 = some (listOf #[] k2))
    (ret : ∀ h' tk' r T', Kept [S, Q] s.heap h' → Src h' S Q → Chg n (.name x) T' → Wf 2 n T' → TIn (fun a o => b₀.get? a = some o ∨ New s.heap h' a o) n r T' → RR (.ok (.ret r)) { s with heap := h', toks := tk' }) :
    codeAny (model PySem.Challenge.rw_pq1317_01.row.prog w) (AA (800 - 10 * n) (8000 - 100 * n) outs) (.call (.ref 208) ⟨[.ref S, .ref a0], []⟩) RR s := by
  have KX := key.X
  revert KX
  k_fill
  intro KX
  refine' enter (binds := [("source", .ref S), ("tree", .ref a0)]) key hm ?k6 ?k7 ?k8 ?k9 ?kB ?_ ?c2 ?c3 ?c4 ?c5
  case k6 => k_is
  case k7 => k_is
  case k8 => exact Nat.lt_of_le_of_lt (Nat.sub_le _ _) (Nat.le_of_ble_eq_true rfl)
  case k9 => exact BindsTo.of_eq rfl
  case kB => exact locs rfl
  case c2 => decide
  case c3 => exact rfl
  case c4 => exact rfl
  case c5 => exact rfl
  intro g' L' h' hg F' N' B' X' T'
  clear KX
  have fin : ∀ h' m' news gl so qo tk r V, Fr g' L' h' m' → News g' L' h' news → Two S Q so qo news gl → SrcMu S Q [(S, so), (Q, qo)] → Chg n (.name x) V → Wf 2 n V → TIn (fun a o => b₀.get? a = some o ∨ ((a, o) ∈ news ∧ (@Ne Nat a S) ∧ (@Ne Nat a Q))) n r V → RR (.ok (.ret r)) { s with heap := h', toks := tk } :=
    fun h' m' news gl so qo tk r V F N U hS C W x => let z := ch_fin hg F N U hS x; ret _ _ _ _ z.1 z.2.1 C W z.2.2
  have hb' : ∀ a o, b₀.get? a = some o → g'.get? a = some o := by rw [hg]; exact hb0
  have L0 : g'.IsList a0 #[.str ("name" : Str) t, .str x te, .ref ra, .ref at0] := ⟨_, hb' _ _ M, rfl, _, rfl⟩
  have sS : @LT.lt Nat instLTNat S s.heap.objs.size := Heap.lt_size (hm _ (.head _))
  have sQ : @LT.lt Nat instLTNat Q s.heap.objs.size := Heap.lt_size (hm _ (.tail _ (.head _)))
  have hr' := hr
  have ha' := ha
  clear hg ret key hm M hb0
  (try dsimp only)
  (try k_fold)
  (repeat' (first | (k_unfold; (try dsimp only)) | (k_end; wrow_close) | ((fail_if_success (with_reducible show wpAny _ _ (call (Value.ref 208) _) _ _ _)); (fail_if_success (with_reducible show wpAny _ _ (binaryOp Operator.Add (Value.ref _) (Value.ref _)) _ _ _)); (fail_if_success (with_reducible show wpAny _ _ (subscriptTail _ _ (Value.ref _) (Value.int _ _)) _ _ _)); (fail_if_success (with_reducible show wpAny _ _ (compareOp CmpOp.NotEq (Value.ref _) (Value.ref _)) _ _ _)); (fail_if_success (with_reducible show wpAny _ _ (eval (PySem.Expr.List [PySem.Expr.Constant (Const.str (Str.ofString "z")) _ _] _) _) _ _ _)); first | ((with_reducible show wpAny _ _ (call (Value.ref 191) [_, _]) _ _ _); refine' take_use (by k_asm) (by assumption) (by repeat' (first | ((with_reducible show Two _ _ _ _ _ _); first | assumption | (refine' Two.head ?_) | (refine' Two.tail ?_ ?_ ?_)) | k_ne | assumption | (refine' OffT.app ?_ ?_) | exact List.forall_mem_nil _ | fail)) (by first | assumption | decide | omega) (by first | assumption | decide | omega) (by k_asm) (by k_asm) (by k_asm) (by k_asm) (by exact rfl) (by exact rfl) (by exact rfl) (by exact rfl) (by dsimp only [Around.deeper]; omega) (by dsimp only [Around.deeper]; omega) ?_; intro rr tt hh1 tk1 so1 qo1 F' N' hS1 rr0 rr1 U1; (try dsimp only at N' U1); (try k_sweep)) | ((with_reducible show wpAny _ _ (assign (Expr.Tuple _ _ _) _ (Value.ref _)) _ _ _); refine' kun_list (by k_asm) (by k_asm) (by exact base_list_Ch (by assumption) (by assumption)) (by exact rfl) (by exact rfl) (by exact rfl) ?_; intro _ _ _; (try k_sweep)) | walk1 | (dsimp only; walk1) | (leave1; try dsimp only))))
  refine' fin _ _ _ _ _ _ _ _ (.name (x ++ ("1" : Str))) ?e1b ?e2b ?e3b ?e4b ?e5b ?e6b ?e7b
  case e2b => k_asm
  case e1b => k_asm
  case e4b => assumption
  case e3b => (repeat' (first | ((with_reducible show Two _ _ _ _ _ _); first | assumption | (refine' Two.head ?_) | (refine' Two.tail ?_ ?_ ?_)) | k_ne | assumption | (refine' OffT.app ?_ ?_) | exact List.forall_mem_nil _ | fail))
  case e5b => unfold Chg; rfl
  case e6b => exact name_wf hx
  case e7b =>
    unfold TIn
    refine' ⟨_, _, _, ⟨_, _, _, rfl, .inr ⟨?nb1, ?nb2, ?nb3⟩⟩, ⟨_, _, rfl, .inl hr', Nat.zero_le _⟩, ⟨_, _, rfl, .inl ha', Nat.zero_le _⟩⟩
    case nb1 => k_mem
    all_goals k_ne

set_option maxHeartbeats 8000000 in
theorem ch_vec {w : World} {n : Nat} {mean : ExcName → Option Value} {mg mb : Str → Option Value} {base : Heap} {outs : List Env} {s : Shared} {RR : Result → Shared → Prop} {S Q : Addr} {so qo : Obj} {b₀ : Heap} {a0 : Addr} {k : Nat} {t te : Tok} {kk : Str} {rb : List Int} {ps : List (Str × Int)} {ra at0 : Addr} {vs us : List Value} {k1 k2 : Nat} (hn5 : n ≤ 5)
    (hS : SrcMu S Q [(S, so), (Q, qo)]) (hm : ∀ p ∈ [(S, so), (Q, qo)], s.heap.get? p.1 = some p.2)
    (key : Amb w mean mg mb (AA (800 - 10 * n) (8000 - 100 * n) outs) base outs (hid s.heap [(S, so), (Q, qo)])) (hb0 : ∀ a o, b₀.get? a = some o → (hid s.heap [(S, so), (Q, qo)]).get? a = some o) (M : b₀.get? a0 = some (listOf #[.str ("vector" : Str) t, .str kk te, .ref ra, .ref at0] k)) (hk : okKind kk) (hr : b₀.get? ra = some (listOf vs.toArray k1)) (hrl : vs.length ≤ 1000) (hi : IntsAre vs rb) (hb : ∀ x ∈ rb, x = 0 ∨ x = 1) (hbl : rb.length ≤ 10)
    (ha : b₀.get? at0 = some (listOf us.toArray k2)) (hau : All2 (AtT (Hp b₀)) us ps) (hok : okAts 1 ps) (hul : us.length ≤ 1000)
    (ret : ∀ h' tk' r T', Kept [S, Q] s.heap h' → Src h' S Q → Chg n (.vec kk rb ps) T' → Wf 2 n T' → TIn (fun a o => b₀.get? a = some o ∨ New s.heap h' a o) n r T' → RR (.ok (.ret r)) { s with heap := h', toks := tk' }) :
    codeAny (model PySem.Challenge.rw_pq1317_01.row.prog w) (AA (800 - 10 * n) (8000 - 100 * n) outs) (.call (.ref 208) ⟨[.ref S, .ref a0], []⟩) RR s := by
  have KX := key.X
  revert KX
  k_fill
  intro KX
  refine' enter (binds := [("source", .ref S), ("tree", .ref a0)]) key hm ?k6 ?k7 ?k8 ?k9 ?kB ?_ ?c2 ?c3 ?c4 ?c5
  case k6 => k_is
  case k7 => k_is
  case k8 => exact Nat.lt_of_le_of_lt (Nat.sub_le _ _) (Nat.le_of_ble_eq_true rfl)
  case k9 => exact BindsTo.of_eq rfl
  case kB => exact locs rfl
  case c2 => decide
  case c3 => exact rfl
  case c4 => exact rfl
  case c5 => exact rfl
  intro g' L' h' hg F' N' B' X' T'
  clear KX
  have fin : ∀ h' m' news gl so qo tk r V, Fr g' L' h' m' → News g' L' h' news → Two S Q so qo news gl → SrcMu S Q [(S, so), (Q, qo)] → Chg n (.vec kk rb ps) V → Wf 2 n V → TIn (fun a o => b₀.get? a = some o ∨ ((a, o) ∈ news ∧ (@Ne Nat a S) ∧ (@Ne Nat a Q))) n r V → RR (.ok (.ret r)) { s with heap := h', toks := tk } :=
    fun h' m' news gl so qo tk r V F N U hS C W x => let z := ch_fin hg F N U hS x; ret _ _ _ _ z.1 z.2.1 C W z.2.2
  have hb' : ∀ a o, b₀.get? a = some o → g'.get? a = some o := by rw [hg]; exact hb0
  have L0 : g'.IsList a0 #[.str ("vector" : Str) t, .str kk te, .ref ra, .ref at0] := ⟨_, hb' _ _ M, rfl, _, rfl⟩
  have sS : @LT.lt Nat instLTNat S s.heap.objs.size := Heap.lt_size (hm _ (.head _))
  have sQ : @LT.lt Nat instLTNat Q s.heap.objs.size := Heap.lt_size (hm _ (.tail _ (.head _)))
  have hr0 := hr
  have hr' : g'.IsList ra vs.toArray := ⟨_, hb' _ _ hr, rfl, _, rfl⟩
  have ha0 := ha
  have hat' : g'.IsList at0 us.toArray := ⟨_, hb' _ _ ha, rfl, _, rfl⟩
  have haug : All2 (AtT (Hp g')) us ps := hau.mono fun _ _ y => y.mono hb'
  clear ha
  clear hg ret key hm M hb0
  (try dsimp only)
  (try k_fold)
  (repeat' (first | (k_unfold; (try dsimp only)) | (k_end; wrow_close) | ((fail_if_success (with_reducible show wpAny _ _ (call (Value.ref 208) _) _ _ _)); (fail_if_success (with_reducible show wpAny _ _ (binaryOp Operator.Add (Value.ref _) (Value.ref _)) _ _ _)); (fail_if_success (with_reducible show wpAny _ _ (subscriptTail _ _ (Value.ref _) (Value.int _ _)) _ _ _)); (fail_if_success (with_reducible show wpAny _ _ (compareOp CmpOp.NotEq (Value.ref _) (Value.ref _)) _ _ _)); (fail_if_success (with_reducible show wpAny _ _ (eval (PySem.Expr.List [PySem.Expr.Constant (Const.str (Str.ofString "z")) _ _] _) _) _ _ _)); first | ((with_reducible show wpAny _ _ (call (Value.ref 191) [_, _]) _ _ _); refine' take_use (by k_asm) (by assumption) (by repeat' (first | ((with_reducible show Two _ _ _ _ _ _); first | assumption | (refine' Two.head ?_) | (refine' Two.tail ?_ ?_ ?_)) | k_ne | assumption | (refine' OffT.app ?_ ?_) | exact List.forall_mem_nil _ | fail)) (by first | assumption | decide | omega) (by first | assumption | decide | omega) (by k_asm) (by k_asm) (by k_asm) (by k_asm) (by exact rfl) (by exact rfl) (by exact rfl) (by exact rfl) (by dsimp only [Around.deeper]; omega) (by dsimp only [Around.deeper]; omega) ?_; intro rr tt hh1 tk1 so1 qo1 F' N' hS1 rr0 rr1 U1; (try dsimp only at N' U1); (try k_sweep)) | ((with_reducible show wpAny _ _ (assign (Expr.Tuple _ _ _) _ (Value.ref _)) _ _ _); refine' kun_list (by k_asm) (by k_asm) (by exact base_list_Ch (by assumption) (by assumption)) (by exact rfl) (by exact rfl) (by exact rfl) ?_; intro _ _ _; (try k_sweep)) | walk1 | (dsimp only; walk1) | (leave1; try dsimp only))))
  all_goals try (exfalso; omega)
  · -- way 3
    (try dsimp only)
    refine' ne_nil ?v1a ?v2a ?v3a ?v4a ?v5a ?v6a ?v7a ?_
    case v2a => k_asm
    case v1a => k_asm
    case v3a => exact hat'
    case v4a => exact haug
    case v5a => exact hok.2.2.2.2
    case v6a => k_mem
    case v7a => (dsimp only [Around.deeper]; rw [show cLine = 9900 from rfl]; omega)
    by_cases hps : ps = []
    · rw [decide_eq_true hps]
      (try dsimp only [Bool.not_true])
      (repeat' (first | (k_unfold; (try dsimp only)) | (k_end; wrow_close) | ((fail_if_success (with_reducible show wpAny _ _ (call (Value.ref 208) _) _ _ _)); (fail_if_success (with_reducible show wpAny _ _ (binaryOp Operator.Add (Value.ref _) (Value.ref _)) _ _ _)); (fail_if_success (with_reducible show wpAny _ _ (subscriptTail _ _ (Value.ref _) (Value.int _ _)) _ _ _)); (fail_if_success (with_reducible show wpAny _ _ (compareOp CmpOp.NotEq (Value.ref _) (Value.ref _)) _ _ _)); (fail_if_success (with_reducible show wpAny _ _ (eval (PySem.Expr.List [PySem.Expr.Constant (Const.str (Str.ofString "z")) _ _] _) _) _ _ _)); first | ((with_reducible show wpAny _ _ (call (Value.ref 191) [_, _]) _ _ _); refine' take_use (by k_asm) (by assumption) (by repeat' (first | ((with_reducible show Two _ _ _ _ _ _); first | assumption | (refine' Two.head ?_) | (refine' Two.tail ?_ ?_ ?_)) | k_ne | assumption | (refine' OffT.app ?_ ?_) | exact List.forall_mem_nil _ | fail)) (by first | assumption | decide | omega) (by first | assumption | decide | omega) (by k_asm) (by k_asm) (by k_asm) (by k_asm) (by exact rfl) (by exact rfl) (by exact rfl) (by exact rfl) (by dsimp only [Around.deeper]; omega) (by dsimp only [Around.deeper]; omega) ?_; intro rr tt hh1 tk1 so1 qo1 F' N' hS1 rr0 rr1 U1; (try dsimp only at N' U1); (try k_sweep)) | ((with_reducible show wpAny _ _ (assign (Expr.Tuple _ _ _) _ (Value.ref _)) _ _ _); refine' kun_list (by k_asm) (by k_asm) (by exact base_list_Ch (by assumption) (by assumption)) (by exact rfl) (by exact rfl) (by exact rfl) ?_; intro _ _ _; (try k_sweep)) | walk1 | (dsimp only; walk1) | (leave1; try dsimp only))))
      all_goals try (exfalso; omega)
      (try dsimp only)
      refine' kmk_add_lit ?aFa ?aNa ?aaa ?aba rfl ?_ ?aza
      case aNa => k_asm
      case aFa => k_asm
      case aaa => first | exact base_list_Ch (by k_asm) (by assumption) | exact led_list (by k_asm) (by k_mem)
      case aba => first | exact base_list_Ch (by k_asm) (by assumption) | exact led_list (by k_asm) (by k_mem)
      case aza => (simp only [List.length_append, List.length_take, List.length_drop, List.length_cons, List.length_nil, sizeLine_eq]; omega)
      intro D5 h5 F5 N5 l5
      k_lt l5
      (try k_sweep)
      (repeat' (first | (k_unfold; (try dsimp only)) | (k_end; wrow_close) | ((fail_if_success (with_reducible show wpAny _ _ (call (Value.ref 208) _) _ _ _)); (fail_if_success (with_reducible show wpAny _ _ (binaryOp Operator.Add (Value.ref _) (Value.ref _)) _ _ _)); (fail_if_success (with_reducible show wpAny _ _ (subscriptTail _ _ (Value.ref _) (Value.int _ _)) _ _ _)); (fail_if_success (with_reducible show wpAny _ _ (compareOp CmpOp.NotEq (Value.ref _) (Value.ref _)) _ _ _)); (fail_if_success (with_reducible show wpAny _ _ (eval (PySem.Expr.List [PySem.Expr.Constant (Const.str (Str.ofString "z")) _ _] _) _) _ _ _)); first | ((with_reducible show wpAny _ _ (call (Value.ref 191) [_, _]) _ _ _); refine' take_use (by k_asm) (by assumption) (by repeat' (first | ((with_reducible show Two _ _ _ _ _ _); first | assumption | (refine' Two.head ?_) | (refine' Two.tail ?_ ?_ ?_)) | k_ne | assumption | (refine' OffT.app ?_ ?_) | exact List.forall_mem_nil _ | fail)) (by first | assumption | decide | omega) (by first | assumption | decide | omega) (by k_asm) (by k_asm) (by k_asm) (by k_asm) (by exact rfl) (by exact rfl) (by exact rfl) (by exact rfl) (by dsimp only [Around.deeper]; omega) (by dsimp only [Around.deeper]; omega) ?_; intro rr tt hh1 tk1 so1 qo1 F' N' hS1 rr0 rr1 U1; (try dsimp only at N' U1); (try k_sweep)) | ((with_reducible show wpAny _ _ (assign (Expr.Tuple _ _ _) _ (Value.ref _)) _ _ _); refine' kun_list (by k_asm) (by k_asm) (by exact base_list_Ch (by assumption) (by assumption)) (by exact rfl) (by exact rfl) (by exact rfl) ?_; intro _ _ _; (try k_sweep)) | walk1 | (dsimp only; walk1) | (leave1; try dsimp only))))
      refine' fin _ _ _ _ _ _ _ _ (.vec kk (rb ++ [1]) ps) ?e1a ?e2a ?e3a ?e4a ?e5a ?e6a ?e7a
      case e2a => k_asm
      case e1a => k_asm
      case e4a => assumption
      case e3a => (repeat' (first | ((with_reducible show Two _ _ _ _ _ _); first | assumption | (refine' Two.head ?_) | (refine' Two.tail ?_ ?_ ?_)) | k_ne | assumption | (refine' OffT.app ?_ ?_) | exact List.forall_mem_nil _ | fail))
      case e5a => exact chg_vec (.inr ⟨_, _, .more _ _, rfl⟩)
      case e6a => exact wf_vec hk (bits_one hb) (by rw [List.length_append]; simp; omega) (okAts_up hok)
      case e7a =>
        refine' tin_vec ⟨_, _, _, rfl, .inr ⟨?na1, ?na2, ?na3⟩⟩ ⟨_, _, rfl, .inr ⟨?ma1, ?ma2, ?ma3⟩, ?la⟩ (ints_app hi (.cons _ _ .nil)) ⟨_, _, rfl, .inl ha0, hul⟩ (hau.mono fun _ _ y => y.mono fun _ _ e => .inl e)
        case na1 => k_mem
        case ma1 => k_mem
        case la => (rw [List.length_append, hi.length]; simp; omega)
        all_goals k_ne
    · rw [decide_eq_false hps]
      (try dsimp only [Bool.not_false])
      obtain ⟨pi, p, hpp⟩ : ∃ pi p, ps = pi ++ [p] := ⟨ps.dropLast, ps.getLast hps, (List.dropLast_concat_getLast hps).symm⟩
      subst hpp
      obtain ⟨ui, u, rfl, hui, q, qt, qt', qk, rfl, hq⟩ := all2_last hau
      (repeat' (first | (k_unfold; (try dsimp only)) | (k_end; wrow_close) | ((fail_if_success (with_reducible show wpAny _ _ (call (Value.ref 208) _) _ _ _)); (fail_if_success (with_reducible show wpAny _ _ (binaryOp Operator.Add (Value.ref _) (Value.ref _)) _ _ _)); (fail_if_success (with_reducible show wpAny _ _ (subscriptTail _ _ (Value.ref _) (Value.int _ _)) _ _ _)); (fail_if_success (with_reducible show wpAny _ _ (compareOp CmpOp.NotEq (Value.ref _) (Value.ref _)) _ _ _)); (fail_if_success (with_reducible show wpAny _ _ (eval (PySem.Expr.List [PySem.Expr.Constant (Const.str (Str.ofString "z")) _ _] _) _) _ _ _)); first | ((with_reducible show wpAny _ _ (call (Value.ref 191) [_, _]) _ _ _); refine' take_use (by k_asm) (by assumption) (by repeat' (first | ((with_reducible show Two _ _ _ _ _ _); first | assumption | (refine' Two.head ?_) | (refine' Two.tail ?_ ?_ ?_)) | k_ne | assumption | (refine' OffT.app ?_ ?_) | exact List.forall_mem_nil _ | fail)) (by first | assumption | decide | omega) (by first | assumption | decide | omega) (by k_asm) (by k_asm) (by k_asm) (by k_asm) (by exact rfl) (by exact rfl) (by exact rfl) (by exact rfl) (by dsimp only [Around.deeper]; omega) (by dsimp only [Around.deeper]; omega) ?_; intro rr tt hh1 tk1 so1 qo1 F' N' hS1 rr0 rr1 U1; (try dsimp only at N' U1); (try k_sweep)) | ((with_reducible show wpAny _ _ (assign (Expr.Tuple _ _ _) _ (Value.ref _)) _ _ _); refine' kun_list (by k_asm) (by k_asm) (by exact base_list_Ch (by assumption) (by assumption)) (by exact rfl) (by exact rfl) (by exact rfl) ?_; intro _ _ _; (try k_sweep)) | walk1 | (dsimp only; walk1) | (leave1; try dsimp only))))
      rename News _ _ _ _ => NN
      revert NN
      rename News _ _ _ _ => NO
      intro NN
      have zS : @LT.lt Nat instLTNat S _ := Heap.lt_size (NO (S, _) (by k_mem)).1
      have zQ : @LT.lt Nat instLTNat Q _ := Heap.lt_size (NO (Q, _) (by k_mem)).1
      dsimp only at NN zS zQ ⊢
      rw [pick_init] at NN
      clear NO
      refine item_last (base_list_Ch (by k_asm) hat') hul ?_
      (repeat' (first | (k_unfold; (try dsimp only)) | (k_end; wrow_close) | ((fail_if_success (with_reducible show wpAny _ _ (call (Value.ref 208) _) _ _ _)); (fail_if_success (with_reducible show wpAny _ _ (binaryOp Operator.Add (Value.ref _) (Value.ref _)) _ _ _)); (fail_if_success (with_reducible show wpAny _ _ (subscriptTail _ _ (Value.ref _) (Value.int _ _)) _ _ _)); (fail_if_success (with_reducible show wpAny _ _ (compareOp CmpOp.NotEq (Value.ref _) (Value.ref _)) _ _ _)); (fail_if_success (with_reducible show wpAny _ _ (eval (PySem.Expr.List [PySem.Expr.Constant (Const.str (Str.ofString "z")) _ _] _) _) _ _ _)); first | ((with_reducible show wpAny _ _ (call (Value.ref 191) [_, _]) _ _ _); refine' take_use (by k_asm) (by assumption) (by repeat' (first | ((with_reducible show Two _ _ _ _ _ _); first | assumption | (refine' Two.head ?_) | (refine' Two.tail ?_ ?_ ?_)) | k_ne | assumption | (refine' OffT.app ?_ ?_) | exact List.forall_mem_nil _ | fail)) (by first | assumption | decide | omega) (by first | assumption | decide | omega) (by k_asm) (by k_asm) (by k_asm) (by k_asm) (by exact rfl) (by exact rfl) (by exact rfl) (by exact rfl) (by dsimp only [Around.deeper]; omega) (by dsimp only [Around.deeper]; omega) ?_; intro rr tt hh1 tk1 so1 qo1 F' N' hS1 rr0 rr1 U1; (try dsimp only at N' U1); (try k_sweep)) | ((with_reducible show wpAny _ _ (assign (Expr.Tuple _ _ _) _ (Value.ref _)) _ _ _); refine' kun_list (by k_asm) (by k_asm) (by exact base_list_Ch (by assumption) (by assumption)) (by exact rfl) (by exact rfl) (by exact rfl) ?_; intro _ _ _; (try k_sweep)) | walk1 | (dsimp only; walk1) | (leave1; try dsimp only))))
      refine item_tupleT (tup_base (by k_asm) (hb' _ _ hq)) (by omega) (by omega) rfl rfl ?_
      (repeat' (first | (k_unfold; (try dsimp only)) | (k_end; wrow_close) | ((fail_if_success (with_reducible show wpAny _ _ (call (Value.ref 208) _) _ _ _)); (fail_if_success (with_reducible show wpAny _ _ (binaryOp Operator.Add (Value.ref _) (Value.ref _)) _ _ _)); (fail_if_success (with_reducible show wpAny _ _ (subscriptTail _ _ (Value.ref _) (Value.int _ _)) _ _ _)); (fail_if_success (with_reducible show wpAny _ _ (compareOp CmpOp.NotEq (Value.ref _) (Value.ref _)) _ _ _)); (fail_if_success (with_reducible show wpAny _ _ (eval (PySem.Expr.List [PySem.Expr.Constant (Const.str (Str.ofString "z")) _ _] _) _) _ _ _)); first | ((with_reducible show wpAny _ _ (call (Value.ref 191) [_, _]) _ _ _); refine' take_use (by k_asm) (by assumption) (by repeat' (first | ((with_reducible show Two _ _ _ _ _ _); first | assumption | (refine' Two.head ?_) | (refine' Two.tail ?_ ?_ ?_)) | k_ne | assumption | (refine' OffT.app ?_ ?_) | exact List.forall_mem_nil _ | fail)) (by first | assumption | decide | omega) (by first | assumption | decide | omega) (by k_asm) (by k_asm) (by k_asm) (by k_asm) (by exact rfl) (by exact rfl) (by exact rfl) (by exact rfl) (by dsimp only [Around.deeper]; omega) (by dsimp only [Around.deeper]; omega) ?_; intro rr tt hh1 tk1 so1 qo1 F' N' hS1 rr0 rr1 U1; (try dsimp only at N' U1); (try k_sweep)) | ((with_reducible show wpAny _ _ (assign (Expr.Tuple _ _ _) _ (Value.ref _)) _ _ _); refine' kun_list (by k_asm) (by k_asm) (by exact base_list_Ch (by assumption) (by assumption)) (by exact rfl) (by exact rfl) (by exact rfl) ?_; intro _ _ _; (try k_sweep)) | walk1 | (dsimp only; walk1) | (leave1; try dsimp only))))
      refine item_last (base_list_Ch (by k_asm) hat') hul ?_
      (repeat' (first | (k_unfold; (try dsimp only)) | (k_end; wrow_close) | ((fail_if_success (with_reducible show wpAny _ _ (call (Value.ref 208) _) _ _ _)); (fail_if_success (with_reducible show wpAny _ _ (binaryOp Operator.Add (Value.ref _) (Value.ref _)) _ _ _)); (fail_if_success (with_reducible show wpAny _ _ (subscriptTail _ _ (Value.ref _) (Value.int _ _)) _ _ _)); (fail_if_success (with_reducible show wpAny _ _ (compareOp CmpOp.NotEq (Value.ref _) (Value.ref _)) _ _ _)); (fail_if_success (with_reducible show wpAny _ _ (eval (PySem.Expr.List [PySem.Expr.Constant (Const.str (Str.ofString "z")) _ _] _) _) _ _ _)); first | ((with_reducible show wpAny _ _ (call (Value.ref 191) [_, _]) _ _ _); refine' take_use (by k_asm) (by assumption) (by repeat' (first | ((with_reducible show Two _ _ _ _ _ _); first | assumption | (refine' Two.head ?_) | (refine' Two.tail ?_ ?_ ?_)) | k_ne | assumption | (refine' OffT.app ?_ ?_) | exact List.forall_mem_nil _ | fail)) (by first | assumption | decide | omega) (by first | assumption | decide | omega) (by k_asm) (by k_asm) (by k_asm) (by k_asm) (by exact rfl) (by exact rfl) (by exact rfl) (by exact rfl) (by dsimp only [Around.deeper]; omega) (by dsimp only [Around.deeper]; omega) ?_; intro rr tt hh1 tk1 so1 qo1 F' N' hS1 rr0 rr1 U1; (try dsimp only at N' U1); (try k_sweep)) | ((with_reducible show wpAny _ _ (assign (Expr.Tuple _ _ _) _ (Value.ref _)) _ _ _); refine' kun_list (by k_asm) (by k_asm) (by exact base_list_Ch (by assumption) (by assumption)) (by exact rfl) (by exact rfl) (by exact rfl) ?_; intro _ _ _; (try k_sweep)) | walk1 | (dsimp only; walk1) | (leave1; try dsimp only))))
      refine item_tupleT (tup_base (by k_asm) (hb' _ _ hq)) (by omega) (by omega) rfl rfl ?_
      (repeat' (first | (k_unfold; (try dsimp only)) | (k_end; wrow_close) | ((fail_if_success (with_reducible show wpAny _ _ (call (Value.ref 208) _) _ _ _)); (fail_if_success (with_reducible show wpAny _ _ (binaryOp Operator.Add (Value.ref _) (Value.ref _)) _ _ _)); (fail_if_success (with_reducible show wpAny _ _ (subscriptTail _ _ (Value.ref _) (Value.int _ _)) _ _ _)); (fail_if_success (with_reducible show wpAny _ _ (compareOp CmpOp.NotEq (Value.ref _) (Value.ref _)) _ _ _)); (fail_if_success (with_reducible show wpAny _ _ (eval (PySem.Expr.List [PySem.Expr.Constant (Const.str (Str.ofString "z")) _ _] _) _) _ _ _)); first | ((with_reducible show wpAny _ _ (call (Value.ref 191) [_, _]) _ _ _); refine' take_use (by k_asm) (by assumption) (by repeat' (first | ((with_reducible show Two _ _ _ _ _ _); first | assumption | (refine' Two.head ?_) | (refine' Two.tail ?_ ?_ ?_)) | k_ne | assumption | (refine' OffT.app ?_ ?_) | exact List.forall_mem_nil _ | fail)) (by first | assumption | decide | omega) (by first | assumption | decide | omega) (by k_asm) (by k_asm) (by k_asm) (by k_asm) (by exact rfl) (by exact rfl) (by exact rfl) (by exact rfl) (by dsimp only [Around.deeper]; omega) (by dsimp only [Around.deeper]; omega) ?_; intro rr tt hh1 tk1 so1 qo1 F' N' hS1 rr0 rr1 U1; (try dsimp only at N' U1); (try k_sweep)) | ((with_reducible show wpAny _ _ (assign (Expr.Tuple _ _ _) _ (Value.ref _)) _ _ _); refine' kun_list (by k_asm) (by k_asm) (by exact base_list_Ch (by assumption) (by assumption)) (by exact rfl) (by exact rfl) (by exact rfl) ?_; intro _ _ _; (try k_sweep)) | walk1 | (dsimp only; walk1) | (leave1; try dsimp only))))
      have hul2 : ui.length ≤ 999 := by (rw [List.length_append] at hul; simp at hul; omega)
      (try dsimp only)
      refine' kmk_add_lit ?aFc ?aNc ?aac ?abc rfl ?_ ?azc
      case aNc => k_asm
      case aFc => k_asm
      case aac => first | exact base_list_Ch (by k_asm) (by assumption) | exact led_list (by k_asm) (by k_mem)
      case abc => first | exact base_list_Ch (by k_asm) (by assumption) | exact led_list (by k_asm) (by k_mem)
      case azc => (simp only [List.length_append, List.length_take, List.length_drop, List.length_cons, List.length_nil, sizeLine_eq]; omega)
      intro D5 h5 F5 N5 l5
      k_lt l5
      (try k_sweep)
      (repeat' (first | (k_unfold; (try dsimp only)) | (k_end; wrow_close) | ((fail_if_success (with_reducible show wpAny _ _ (call (Value.ref 208) _) _ _ _)); (fail_if_success (with_reducible show wpAny _ _ (binaryOp Operator.Add (Value.ref _) (Value.ref _)) _ _ _)); (fail_if_success (with_reducible show wpAny _ _ (subscriptTail _ _ (Value.ref _) (Value.int _ _)) _ _ _)); (fail_if_success (with_reducible show wpAny _ _ (compareOp CmpOp.NotEq (Value.ref _) (Value.ref _)) _ _ _)); (fail_if_success (with_reducible show wpAny _ _ (eval (PySem.Expr.List [PySem.Expr.Constant (Const.str (Str.ofString "z")) _ _] _) _) _ _ _)); first | ((with_reducible show wpAny _ _ (call (Value.ref 191) [_, _]) _ _ _); refine' take_use (by k_asm) (by assumption) (by repeat' (first | ((with_reducible show Two _ _ _ _ _ _); first | assumption | (refine' Two.head ?_) | (refine' Two.tail ?_ ?_ ?_)) | k_ne | assumption | (refine' OffT.app ?_ ?_) | exact List.forall_mem_nil _ | fail)) (by first | assumption | decide | omega) (by first | assumption | decide | omega) (by k_asm) (by k_asm) (by k_asm) (by k_asm) (by exact rfl) (by exact rfl) (by exact rfl) (by exact rfl) (by dsimp only [Around.deeper]; omega) (by dsimp only [Around.deeper]; omega) ?_; intro rr tt hh1 tk1 so1 qo1 F' N' hS1 rr0 rr1 U1; (try dsimp only at N' U1); (try k_sweep)) | ((with_reducible show wpAny _ _ (assign (Expr.Tuple _ _ _) _ (Value.ref _)) _ _ _); refine' kun_list (by k_asm) (by k_asm) (by exact base_list_Ch (by assumption) (by assumption)) (by exact rfl) (by exact rfl) (by exact rfl) ?_; intro _ _ _; (try k_sweep)) | walk1 | (dsimp only; walk1) | (leave1; try dsimp only))))
      refine' fin _ _ _ _ _ _ _ _ (.vec kk rb (pi ++ [(p.1, p.2 + 1)])) ?e1c ?e2c ?e3c ?e4c ?e5c ?e6c ?e7c
      case e2c => k_asm
      case e1c => k_asm
      case e4c => assumption
      case e3c => (repeat' (first | ((with_reducible show Two _ _ _ _ _ _); first | assumption | (refine' Two.head ?_) | (refine' Two.tail ?_ ?_ ?_)) | k_ne | assumption | (refine' OffT.app ?_ ?_) | exact List.forall_mem_nil _ | fail))
      case e5c => exact chg_vec (.inl ⟨_, .last _ _, rfl⟩)
      case e6c => exact wf_vec hk hb (by omega) (okAts_last hok)
      case e7c =>
        refine' tin_vec ⟨_, _, _, rfl, .inr ⟨?nc1, ?nc2, ?nc3⟩⟩ ⟨_, _, rfl, .inl hr0, hrl⟩ hi ⟨_, _, rfl, .inr ⟨?mc1, ?mc2, ?mc3⟩, ?lc⟩ ((hui.mono fun _ _ y => y.mono fun _ _ e => .inl e).append (.cons ⟨_, _, _, _, rfl, .inr ⟨?oc1, ?oc2, ?oc3⟩⟩ .nil))
        case nc1 => k_mem
        case mc1 => k_mem
        case oc1 => k_mem
        case lc => (rw [List.length_append]; simp; omega)
        all_goals k_ne
  · -- way 4
    (try dsimp only)
    refine' kmk_add_lit ?aFb ?aNb ?aab ?abb rfl ?_ ?azb
    case aNb => k_asm
    case aFb => k_asm
    case aab => first | exact base_list_Ch (by k_asm) (by assumption) | exact led_list (by k_asm) (by k_mem)
    case abb => first | exact base_list_Ch (by k_asm) (by assumption) | exact led_list (by k_asm) (by k_mem)
    case azb => (simp only [List.length_append, List.length_take, List.length_drop, List.length_cons, List.length_nil, sizeLine_eq]; omega)
    intro D5 h5 F5 N5 l5
    k_lt l5
    (try k_sweep)
    (repeat' (first | (k_unfold; (try dsimp only)) | (k_end; wrow_close) | ((fail_if_success (with_reducible show wpAny _ _ (call (Value.ref 208) _) _ _ _)); (fail_if_success (with_reducible show wpAny _ _ (binaryOp Operator.Add (Value.ref _) (Value.ref _)) _ _ _)); (fail_if_success (with_reducible show wpAny _ _ (subscriptTail _ _ (Value.ref _) (Value.int _ _)) _ _ _)); (fail_if_success (with_reducible show wpAny _ _ (compareOp CmpOp.NotEq (Value.ref _) (Value.ref _)) _ _ _)); (fail_if_success (with_reducible show wpAny _ _ (eval (PySem.Expr.List [PySem.Expr.Constant (Const.str (Str.ofString "z")) _ _] _) _) _ _ _)); first | ((with_reducible show wpAny _ _ (call (Value.ref 191) [_, _]) _ _ _); refine' take_use (by k_asm) (by assumption) (by repeat' (first | ((with_reducible show Two _ _ _ _ _ _); first | assumption | (refine' Two.head ?_) | (refine' Two.tail ?_ ?_ ?_)) | k_ne | assumption | (refine' OffT.app ?_ ?_) | exact List.forall_mem_nil _ | fail)) (by first | assumption | decide | omega) (by first | assumption | decide | omega) (by k_asm) (by k_asm) (by k_asm) (by k_asm) (by exact rfl) (by exact rfl) (by exact rfl) (by exact rfl) (by dsimp only [Around.deeper]; omega) (by dsimp only [Around.deeper]; omega) ?_; intro rr tt hh1 tk1 so1 qo1 F' N' hS1 rr0 rr1 U1; (try dsimp only at N' U1); (try k_sweep)) | ((with_reducible show wpAny _ _ (assign (Expr.Tuple _ _ _) _ (Value.ref _)) _ _ _); refine' kun_list (by k_asm) (by k_asm) (by exact base_list_Ch (by assumption) (by assumption)) (by exact rfl) (by exact rfl) (by exact rfl) ?_; intro _ _ _; (try k_sweep)) | walk1 | (dsimp only; walk1) | (leave1; try dsimp only))))
    refine' fin _ _ _ _ _ _ _ _ (.vec kk rb (ps ++ [(("other" : Str), 1)])) ?e1b ?e2b ?e3b ?e4b ?e5b ?e6b ?e7b
    case e2b => k_asm
    case e1b => k_asm
    case e4b => assumption
    case e3b => (repeat' (first | ((with_reducible show Two _ _ _ _ _ _); first | assumption | (refine' Two.head ?_) | (refine' Two.tail ?_ ?_ ?_)) | k_ne | assumption | (refine' OffT.app ?_ ?_) | exact List.forall_mem_nil _ | fail))
    case e5b => exact chg_vec (.inl ⟨_, .more _, rfl⟩)
    case e6b => exact wf_vec hk hb (by omega) (okAts_other hok)
    case e7b =>
      refine' tin_vec ⟨_, _, _, rfl, .inr ⟨?nb1, ?nb2, ?nb3⟩⟩ ⟨_, _, rfl, .inl hr0, hrl⟩ hi ⟨_, _, rfl, .inr ⟨?mb1, ?mb2, ?mb3⟩, ?lb⟩ ((hau.mono fun _ _ y => y.mono fun _ _ e => .inl e).append (.cons ⟨_, _, _, _, rfl, .inr ⟨?ob1, ?ob2, ?ob3⟩⟩ .nil))
      case nb1 => k_mem
      case mb1 => k_mem
      case ob1 => k_mem
      case lb => (rw [List.length_append]; simp; have := hau.length; have := hok.2.1; omega)
      all_goals k_ne
  · -- way 0
    (try dsimp only)
    rcases rb with _ | ⟨x, r'⟩
    · walk1
      (repeat' (first | (k_unfold; (try dsimp only)) | (k_end; wrow_close) | ((fail_if_success (with_reducible show wpAny _ _ (call (Value.ref 208) _) _ _ _)); (fail_if_success (with_reducible show wpAny _ _ (binaryOp Operator.Add (Value.ref _) (Value.ref _)) _ _ _)); (fail_if_success (with_reducible show wpAny _ _ (subscriptTail _ _ (Value.ref _) (Value.int _ _)) _ _ _)); (fail_if_success (with_reducible show wpAny _ _ (compareOp CmpOp.NotEq (Value.ref _) (Value.ref _)) _ _ _)); (fail_if_success (with_reducible show wpAny _ _ (eval (PySem.Expr.List [PySem.Expr.Constant (Const.str (Str.ofString "z")) _ _] _) _) _ _ _)); first | ((with_reducible show wpAny _ _ (call (Value.ref 191) [_, _]) _ _ _); refine' take_use (by k_asm) (by assumption) (by repeat' (first | ((with_reducible show Two _ _ _ _ _ _); first | assumption | (refine' Two.head ?_) | (refine' Two.tail ?_ ?_ ?_)) | k_ne | assumption | (refine' OffT.app ?_ ?_) | exact List.forall_mem_nil _ | fail)) (by first | assumption | decide | omega) (by first | assumption | decide | omega) (by k_asm) (by k_asm) (by k_asm) (by k_asm) (by exact rfl) (by exact rfl) (by exact rfl) (by exact rfl) (by dsimp only [Around.deeper]; omega) (by dsimp only [Around.deeper]; omega) ?_; intro rr tt hh1 tk1 so1 qo1 F' N' hS1 rr0 rr1 U1; (try dsimp only at N' U1); (try k_sweep)) | ((with_reducible show wpAny _ _ (assign (Expr.Tuple _ _ _) _ (Value.ref _)) _ _ _); refine' kun_list (by k_asm) (by k_asm) (by exact base_list_Ch (by assumption) (by assumption)) (by exact rfl) (by exact rfl) (by exact rfl) ?_; intro _ _ _; (try k_sweep)) | walk1 | (dsimp only; walk1) | (leave1; try dsimp only))))
      all_goals try (exfalso; omega)
      all_goals try (exfalso; rename (decide _) = false => hde; simp at hde; done)
      (try dsimp only)
      refine' kmk_add_lit ?aFh ?aNh ?aah ?abh rfl ?_ ?azh
      case aNh => k_asm
      case aFh => k_asm
      case aah => first | exact base_list_Ch (by k_asm) (by assumption) | exact led_list (by k_asm) (by k_mem)
      case abh => first | exact base_list_Ch (by k_asm) (by assumption) | exact led_list (by k_asm) (by k_mem)
      case azh => (simp only [List.length_append, List.length_take, List.length_drop, List.length_cons, List.length_nil, sizeLine_eq]; omega)
      intro D5 h5 F5 N5 l5
      k_lt l5
      (try k_sweep)
      (repeat' (first | (k_unfold; (try dsimp only)) | (k_end; wrow_close) | ((fail_if_success (with_reducible show wpAny _ _ (call (Value.ref 208) _) _ _ _)); (fail_if_success (with_reducible show wpAny _ _ (binaryOp Operator.Add (Value.ref _) (Value.ref _)) _ _ _)); (fail_if_success (with_reducible show wpAny _ _ (subscriptTail _ _ (Value.ref _) (Value.int _ _)) _ _ _)); (fail_if_success (with_reducible show wpAny _ _ (compareOp CmpOp.NotEq (Value.ref _) (Value.ref _)) _ _ _)); (fail_if_success (with_reducible show wpAny _ _ (eval (PySem.Expr.List [PySem.Expr.Constant (Const.str (Str.ofString "z")) _ _] _) _) _ _ _)); first | ((with_reducible show wpAny _ _ (call (Value.ref 191) [_, _]) _ _ _); refine' take_use (by k_asm) (by assumption) (by repeat' (first | ((with_reducible show Two _ _ _ _ _ _); first | assumption | (refine' Two.head ?_) | (refine' Two.tail ?_ ?_ ?_)) | k_ne | assumption | (refine' OffT.app ?_ ?_) | exact List.forall_mem_nil _ | fail)) (by first | assumption | decide | omega) (by first | assumption | decide | omega) (by k_asm) (by k_asm) (by k_asm) (by k_asm) (by exact rfl) (by exact rfl) (by exact rfl) (by exact rfl) (by dsimp only [Around.deeper]; omega) (by dsimp only [Around.deeper]; omega) ?_; intro rr tt hh1 tk1 so1 qo1 F' N' hS1 rr0 rr1 U1; (try dsimp only at N' U1); (try k_sweep)) | ((with_reducible show wpAny _ _ (assign (Expr.Tuple _ _ _) _ (Value.ref _)) _ _ _); refine' kun_list (by k_asm) (by k_asm) (by exact base_list_Ch (by assumption) (by assumption)) (by exact rfl) (by exact rfl) (by exact rfl) ?_; intro _ _ _; (try k_sweep)) | walk1 | (dsimp only; walk1) | (leave1; try dsimp only))))
      refine' fin _ _ _ _ _ _ _ _ (.vec kk ([] ++ [1]) ps) ?e1h ?e2h ?e3h ?e4h ?e5h ?e6h ?e7h
      case e2h => k_asm
      case e1h => k_asm
      case e4h => assumption
      case e3h => (repeat' (first | ((with_reducible show Two _ _ _ _ _ _); first | assumption | (refine' Two.head ?_) | (refine' Two.tail ?_ ?_ ?_)) | k_ne | assumption | (refine' OffT.app ?_ ?_) | exact List.forall_mem_nil _ | fail))
      case e5h => exact chg_vec (.inr ⟨_, _, .more _ _, rfl⟩)
      case e6h => exact wf_vec hk (bits_one hb) (by simp) (okAts_up hok)
      case e7h =>
        refine' tin_vec ⟨_, _, _, rfl, .inr ⟨?nh1, ?nh2, ?nh3⟩⟩ ⟨_, _, rfl, .inr ⟨?mh1, ?mh2, ?mh3⟩, ?lh⟩ (ints_app hi (.cons _ _ .nil)) ⟨_, _, rfl, .inl ha0, hul⟩ (hau.mono fun _ _ y => y.mono fun _ _ e => .inl e)
        case nh1 => k_mem
        case mh1 => k_mem
        case lh => (rw [List.length_append, hi.length]; simp)
        all_goals k_ne
    · cases hi with
      | @cons _ xt vs' _ hi' =>
        walk1
        (repeat' (first | (k_unfold; (try dsimp only)) | (k_end; wrow_close) | ((fail_if_success (with_reducible show wpAny _ _ (call (Value.ref 208) _) _ _ _)); (fail_if_success (with_reducible show wpAny _ _ (binaryOp Operator.Add (Value.ref _) (Value.ref _)) _ _ _)); (fail_if_success (with_reducible show wpAny _ _ (subscriptTail _ _ (Value.ref _) (Value.int _ _)) _ _ _)); (fail_if_success (with_reducible show wpAny _ _ (compareOp CmpOp.NotEq (Value.ref _) (Value.ref _)) _ _ _)); (fail_if_success (with_reducible show wpAny _ _ (eval (PySem.Expr.List [PySem.Expr.Constant (Const.str (Str.ofString "z")) _ _] _) _) _ _ _)); first | ((with_reducible show wpAny _ _ (call (Value.ref 191) [_, _]) _ _ _); refine' take_use (by k_asm) (by assumption) (by repeat' (first | ((with_reducible show Two _ _ _ _ _ _); first | assumption | (refine' Two.head ?_) | (refine' Two.tail ?_ ?_ ?_)) | k_ne | assumption | (refine' OffT.app ?_ ?_) | exact List.forall_mem_nil _ | fail)) (by first | assumption | decide | omega) (by first | assumption | decide | omega) (by k_asm) (by k_asm) (by k_asm) (by k_asm) (by exact rfl) (by exact rfl) (by exact rfl) (by exact rfl) (by dsimp only [Around.deeper]; omega) (by dsimp only [Around.deeper]; omega) ?_; intro rr tt hh1 tk1 so1 qo1 F' N' hS1 rr0 rr1 U1; (try dsimp only at N' U1); (try k_sweep)) | ((with_reducible show wpAny _ _ (assign (Expr.Tuple _ _ _) _ (Value.ref _)) _ _ _); refine' kun_list (by k_asm) (by k_asm) (by exact base_list_Ch (by assumption) (by assumption)) (by exact rfl) (by exact rfl) (by exact rfl) ?_; intro _ _ _; (try k_sweep)) | walk1 | (dsimp only; walk1) | (leave1; try dsimp only))))
        all_goals try (exfalso; omega)
        all_goals try (exfalso; rename (decide _) = true => hde; simp at hde; done)
        refine item_listL (k := 0) (base_list_Ch (by k_asm) hr') (by omega) (by omega) rfl ?_
        (repeat' (first | (k_unfold; (try dsimp only)) | (k_end; wrow_close) | ((fail_if_success (with_reducible show wpAny _ _ (call (Value.ref 208) _) _ _ _)); (fail_if_success (with_reducible show wpAny _ _ (binaryOp Operator.Add (Value.ref _) (Value.ref _)) _ _ _)); (fail_if_success (with_reducible show wpAny _ _ (subscriptTail _ _ (Value.ref _) (Value.int _ _)) _ _ _)); (fail_if_success (with_reducible show wpAny _ _ (compareOp CmpOp.NotEq (Value.ref _) (Value.ref _)) _ _ _)); (fail_if_success (with_reducible show wpAny _ _ (eval (PySem.Expr.List [PySem.Expr.Constant (Const.str (Str.ofString "z")) _ _] _) _) _ _ _)); first | ((with_reducible show wpAny _ _ (call (Value.ref 191) [_, _]) _ _ _); refine' take_use (by k_asm) (by assumption) (by repeat' (first | ((with_reducible show Two _ _ _ _ _ _); first | assumption | (refine' Two.head ?_) | (refine' Two.tail ?_ ?_ ?_)) | k_ne | assumption | (refine' OffT.app ?_ ?_) | exact List.forall_mem_nil _ | fail)) (by first | assumption | decide | omega) (by first | assumption | decide | omega) (by k_asm) (by k_asm) (by k_asm) (by k_asm) (by exact rfl) (by exact rfl) (by exact rfl) (by exact rfl) (by dsimp only [Around.deeper]; omega) (by dsimp only [Around.deeper]; omega) ?_; intro rr tt hh1 tk1 so1 qo1 F' N' hS1 rr0 rr1 U1; (try dsimp only at N' U1); (try k_sweep)) | ((with_reducible show wpAny _ _ (assign (Expr.Tuple _ _ _) _ (Value.ref _)) _ _ _); refine' kun_list (by k_asm) (by k_asm) (by exact base_list_Ch (by assumption) (by assumption)) (by exact rfl) (by exact rfl) (by exact rfl) ?_; intro _ _ _; (try k_sweep)) | walk1 | (dsimp only; walk1) | (leave1; try dsimp only))))
        rename IntsAre _ (List.drop _ _) => hIw
        have hIl := hIw.length
        rw [List.length_drop] at hIl
        have hvl := hi'.length
        simp only [List.length_cons] at hIl hrl hbl
        (try dsimp only)
        refine' kmk_add_lit ?aFi ?aNi ?aai ?abi rfl ?_ ?azi
        case aNi => k_asm
        case aFi => k_asm
        case aai => first | exact base_list_Ch (by k_asm) (by assumption) | exact led_list (by k_asm) (by k_mem)
        case abi => first | exact base_list_Ch (by k_asm) (by assumption) | exact led_list (by k_asm) (by k_mem)
        case azi => (simp only [List.length_append, List.length_take, List.length_drop, List.length_cons, List.length_nil, sizeLine_eq]; omega)
        intro D5 h5 F5 N5 l5
        k_lt l5
        (try k_sweep)
        (repeat' (first | (k_unfold; (try dsimp only)) | (k_end; wrow_close) | ((fail_if_success (with_reducible show wpAny _ _ (call (Value.ref 208) _) _ _ _)); (fail_if_success (with_reducible show wpAny _ _ (binaryOp Operator.Add (Value.ref _) (Value.ref _)) _ _ _)); (fail_if_success (with_reducible show wpAny _ _ (subscriptTail _ _ (Value.ref _) (Value.int _ _)) _ _ _)); (fail_if_success (with_reducible show wpAny _ _ (compareOp CmpOp.NotEq (Value.ref _) (Value.ref _)) _ _ _)); (fail_if_success (with_reducible show wpAny _ _ (eval (PySem.Expr.List [PySem.Expr.Constant (Const.str (Str.ofString "z")) _ _] _) _) _ _ _)); first | ((with_reducible show wpAny _ _ (call (Value.ref 191) [_, _]) _ _ _); refine' take_use (by k_asm) (by assumption) (by repeat' (first | ((with_reducible show Two _ _ _ _ _ _); first | assumption | (refine' Two.head ?_) | (refine' Two.tail ?_ ?_ ?_)) | k_ne | assumption | (refine' OffT.app ?_ ?_) | exact List.forall_mem_nil _ | fail)) (by first | assumption | decide | omega) (by first | assumption | decide | omega) (by k_asm) (by k_asm) (by k_asm) (by k_asm) (by exact rfl) (by exact rfl) (by exact rfl) (by exact rfl) (by dsimp only [Around.deeper]; omega) (by dsimp only [Around.deeper]; omega) ?_; intro rr tt hh1 tk1 so1 qo1 F' N' hS1 rr0 rr1 U1; (try dsimp only at N' U1); (try k_sweep)) | ((with_reducible show wpAny _ _ (assign (Expr.Tuple _ _ _) _ (Value.ref _)) _ _ _); refine' kun_list (by k_asm) (by k_asm) (by exact base_list_Ch (by assumption) (by assumption)) (by exact rfl) (by exact rfl) (by exact rfl) ?_; intro _ _ _; (try k_sweep)) | walk1 | (dsimp only; walk1) | (leave1; try dsimp only))))
        refine' fin _ _ _ _ _ _ _ _ (.vec kk ((1 - x) :: r') ps) ?e1i ?e2i ?e3i ?e4i ?e5i ?e6i ?e7i
        case e2i => k_asm
        case e1i => k_asm
        case e4i => assumption
        case e3i => (repeat' (first | ((with_reducible show Two _ _ _ _ _ _); first | assumption | (refine' Two.head ?_) | (refine' Two.tail ?_ ?_ ?_)) | k_ne | assumption | (refine' OffT.app ?_ ?_) | exact List.forall_mem_nil _ | fail))
        case e5i => exact chg_vec (.inr ⟨_, _, .flip _ _ _, rfl⟩)
        case e6i => exact wf_vec hk (fun y hy => by rcases List.mem_cons.mp hy with rfl | hy; (rcases hb x (.head _) with h | h <;> omega); exact hb y (.tail _ hy)) (by simp; omega) (okAts_up hok)
        case e7i =>
          refine' tin_vec ⟨_, _, _, rfl, .inr ⟨?ni1, ?ni2, ?ni3⟩⟩ ⟨_, _, rfl, .inr ⟨?mi1, ?mi2, ?mi3⟩, ?li⟩ (.cons _ _ hIw) ⟨_, _, rfl, .inl ha0, hul⟩ (hau.mono fun _ _ y => y.mono fun _ _ e => .inl e)
          case ni1 => k_mem
          case mi1 => k_mem
          case li => (simp only [List.length_cons]; omega)
          all_goals k_ne
  · -- kind
    rename (_ != _) = true => hkc
    have hkn : kk ≠ ("character" : Str) := by simpa using hkc
    refine' fin _ _ _ _ _ _ _ _ (.vec ("character" : Str) rb ps) ?e1e ?e2e ?e3e ?e4e ?e5e ?e6e ?e7e
    case e2e => k_asm
    case e1e => k_asm
    case e4e => assumption
    case e3e => (repeat' (first | ((with_reducible show Two _ _ _ _ _ _); first | assumption | (refine' Two.head ?_) | (refine' Two.tail ?_ ?_ ?_)) | k_ne | assumption | (refine' OffT.app ?_ ?_) | exact List.forall_mem_nil _ | fail))
    case e5e => exact chg_vec (.inr ⟨_, _, by have := ChgV.kind kk rb; rwa [if_pos hkn] at this, rfl⟩)
    case e6e => exact wf_vec (.inr (.inl rfl)) hb (by omega) (okAts_up hok)
    case e7e =>
      refine' tin_vec ⟨_, _, _, rfl, .inr ⟨?ne1, ?ne2, ?ne3⟩⟩ ⟨_, _, rfl, .inl hr0, hrl⟩ hi ⟨_, _, rfl, .inl ha0, hul⟩ (hau.mono fun _ _ y => y.mono fun _ _ e => .inl e)
      case ne1 => k_mem
      all_goals k_ne
  · rename (_ != _) = false => hkc
    have hkn : ¬ kk ≠ ("character" : Str) := by simpa using hkc
    refine' fin _ _ _ _ _ _ _ _ (.vec ("integer" : Str) rb ps) ?e1f ?e2f ?e3f ?e4f ?e5f ?e6f ?e7f
    case e2f => k_asm
    case e1f => k_asm
    case e4f => assumption
    case e3f => (repeat' (first | ((with_reducible show Two _ _ _ _ _ _); first | assumption | (refine' Two.head ?_) | (refine' Two.tail ?_ ?_ ?_)) | k_ne | assumption | (refine' OffT.app ?_ ?_) | exact List.forall_mem_nil _ | fail))
    case e5f => exact chg_vec (.inr ⟨_, _, by have := ChgV.kind kk rb; rwa [if_neg hkn] at this, rfl⟩)
    case e6f => exact wf_vec (.inl rfl) hb (by omega) (okAts_up hok)
    case e7f =>
      refine' tin_vec ⟨_, _, _, rfl, .inr ⟨?nf1, ?nf2, ?nf3⟩⟩ ⟨_, _, rfl, .inl hr0, hrl⟩ hi ⟨_, _, rfl, .inl ha0, hul⟩ (hau.mono fun _ _ y => y.mono fun _ _ e => .inl e)
      case nf1 => k_mem
      all_goals k_ne
  · -- else
    (try dsimp only)
    refine' kmk_add_lit ?aFg ?aNg ?aag ?abg rfl ?_ ?azg
    case aNg => k_asm
    case aFg => k_asm
    case aag => first | exact base_list_Ch (by k_asm) (by assumption) | exact led_list (by k_asm) (by k_mem)
    case abg => first | exact base_list_Ch (by k_asm) (by assumption) | exact led_list (by k_asm) (by k_mem)
    case azg => (simp only [List.length_append, List.length_take, List.length_drop, List.length_cons, List.length_nil, sizeLine_eq]; omega)
    intro D5 h5 F5 N5 l5
    k_lt l5
    (try k_sweep)
    (repeat' (first | (k_unfold; (try dsimp only)) | (k_end; wrow_close) | ((fail_if_success (with_reducible show wpAny _ _ (call (Value.ref 208) _) _ _ _)); (fail_if_success (with_reducible show wpAny _ _ (binaryOp Operator.Add (Value.ref _) (Value.ref _)) _ _ _)); (fail_if_success (with_reducible show wpAny _ _ (subscriptTail _ _ (Value.ref _) (Value.int _ _)) _ _ _)); (fail_if_success (with_reducible show wpAny _ _ (compareOp CmpOp.NotEq (Value.ref _) (Value.ref _)) _ _ _)); (fail_if_success (with_reducible show wpAny _ _ (eval (PySem.Expr.List [PySem.Expr.Constant (Const.str (Str.ofString "z")) _ _] _) _) _ _ _)); first | ((with_reducible show wpAny _ _ (call (Value.ref 191) [_, _]) _ _ _); refine' take_use (by k_asm) (by assumption) (by repeat' (first | ((with_reducible show Two _ _ _ _ _ _); first | assumption | (refine' Two.head ?_) | (refine' Two.tail ?_ ?_ ?_)) | k_ne | assumption | (refine' OffT.app ?_ ?_) | exact List.forall_mem_nil _ | fail)) (by first | assumption | decide | omega) (by first | assumption | decide | omega) (by k_asm) (by k_asm) (by k_asm) (by k_asm) (by exact rfl) (by exact rfl) (by exact rfl) (by exact rfl) (by dsimp only [Around.deeper]; omega) (by dsimp only [Around.deeper]; omega) ?_; intro rr tt hh1 tk1 so1 qo1 F' N' hS1 rr0 rr1 U1; (try dsimp only at N' U1); (try k_sweep)) | ((with_reducible show wpAny _ _ (assign (Expr.Tuple _ _ _) _ (Value.ref _)) _ _ _); refine' kun_list (by k_asm) (by k_asm) (by exact base_list_Ch (by assumption) (by assumption)) (by exact rfl) (by exact rfl) (by exact rfl) ?_; intro _ _ _; (try k_sweep)) | walk1 | (dsimp only; walk1) | (leave1; try dsimp only))))
    refine' fin _ _ _ _ _ _ _ _ (.vec kk (rb ++ [1]) ps) ?e1g ?e2g ?e3g ?e4g ?e5g ?e6g ?e7g
    case e2g => k_asm
    case e1g => k_asm
    case e4g => assumption
    case e3g => (repeat' (first | ((with_reducible show Two _ _ _ _ _ _); first | assumption | (refine' Two.head ?_) | (refine' Two.tail ?_ ?_ ?_)) | k_ne | assumption | (refine' OffT.app ?_ ?_) | exact List.forall_mem_nil _ | fail))
    case e5g => exact chg_vec (.inr ⟨_, _, .more _ _, rfl⟩)
    case e6g => exact wf_vec hk (bits_one hb) (by rw [List.length_append]; simp; omega) (okAts_up hok)
    case e7g =>
      refine' tin_vec ⟨_, _, _, rfl, .inr ⟨?ng1, ?ng2, ?ng3⟩⟩ ⟨_, _, rfl, .inr ⟨?mg1, ?mg2, ?mg3⟩, ?lg⟩ (ints_app hi (.cons _ _ .nil)) ⟨_, _, rfl, .inl ha0, hul⟩ (hau.mono fun _ _ y => y.mono fun _ _ e => .inl e)
      case ng1 => k_mem
      case mg1 => k_mem
      case lg => (rw [List.length_append, hi.length]; simp; omega)
      all_goals k_ne

set_option maxHeartbeats 8000000 in
theorem ch_list {w : World} {n : Nat} {mean : ExcName → Option Value} {mg mb : Str → Option Value} {base : Heap} {outs : List Env} {s : Shared} {RR : Result → Shared → Prop} {S Q : Addr} {so qo : Obj} {b₀ : Heap} {a0 : Addr} {k : Nat} {t te : Tok} {mm : Nat} {ks : List Tr} {ps : List (Str × Int)} {ra at0 : Addr} {vs us : List Value} {k1 k2 : Nat} (hn5 : n ≤ 5)
    (hS : SrcMu S Q [(S, so), (Q, qo)]) (hm : ∀ p ∈ [(S, so), (Q, qo)], s.heap.get? p.1 = some p.2)
    (key : Amb w mean mg mb (AA (800 - 10 * n) (8000 - 100 * n) outs) base outs (hid s.heap [(S, so), (Q, qo)])) (hb0 : ∀ a o, b₀.get? a = some o → (hid s.heap [(S, so), (Q, qo)]).get? a = some o) (M : b₀.get? a0 = some (listOf #[.str ("list" : Str) t, .str ("" : Str) te, .ref ra, .ref at0] k)) (hn : n = mm + 1) (CC : ChC w mm) (hr : b₀.get? ra = some (listOf vs.toArray k1)) (hvl : vs.length ≤ 10) (hkl : ks.length ≤ 10) (hkn : ks ≠ []) (hvs : All2 (TIn (Hp b₀) mm) vs ks) (hwf : ∀ k ∈ ks, Wf 1 mm k)
    (ha : b₀.get? at0 = some (listOf us.toArray k2)) (hau : All2 (AtT (Hp b₀)) us ps) (hok : okAts 1 ps) (hul : us.length ≤ 1000)
    (ret : ∀ h' tk' r T', Kept [S, Q] s.heap h' → Src h' S Q → Chg n (.list ks ps) T' → Wf 2 n T' → TIn (fun a o => b₀.get? a = some o ∨ New s.heap h' a o) n r T' → RR (.ok (.ret r)) { s with heap := h', toks := tk' }) :
    codeAny (model PySem.Challenge.rw_pq1317_01.row.prog w) (AA (800 - 10 * n) (8000 - 100 * n) outs) (.call (.ref 208) ⟨[.ref S, .ref a0], []⟩) RR s := by
  have KX := key.X
  revert KX
  k_fill
  intro KX
  refine' enter (binds := [("source", .ref S), ("tree", .ref a0)]) key hm ?k6 ?k7 ?k8 ?k9 ?kB ?_ ?c2 ?c3 ?c4 ?c5
  case k6 => k_is
  case k7 => k_is
  case k8 => exact Nat.lt_of_le_of_lt (Nat.sub_le _ _) (Nat.le_of_ble_eq_true rfl)
  case k9 => exact BindsTo.of_eq rfl
  case kB => exact locs rfl
  case c2 => decide
  case c3 => exact rfl
  case c4 => exact rfl
  case c5 => exact rfl
  intro g' L' h' hg F' N' B' X' T'
  clear KX
  have fin : ∀ h' m' news gl so qo tk r V, Fr g' L' h' m' → News g' L' h' news → Two S Q so qo news gl → SrcMu S Q [(S, so), (Q, qo)] → Chg n (.list ks ps) V → Wf 2 n V → TIn (fun a o => b₀.get? a = some o ∨ ((a, o) ∈ news ∧ (@Ne Nat a S) ∧ (@Ne Nat a Q))) n r V → RR (.ok (.ret r)) { s with heap := h', toks := tk } :=
    fun h' m' news gl so qo tk r V F N U hS C W x => let z := ch_fin hg F N U hS x; ret _ _ _ _ z.1 z.2.1 C W z.2.2
  have hb' : ∀ a o, b₀.get? a = some o → g'.get? a = some o := by rw [hg]; exact hb0
  have L0 : g'.IsList a0 #[.str ("list" : Str) t, .str ("" : Str) te, .ref ra, .ref at0] := ⟨_, hb' _ _ M, rfl, _, rfl⟩
  have sS : @LT.lt Nat instLTNat S s.heap.objs.size := Heap.lt_size (hm _ (.head _))
  have sQ : @LT.lt Nat instLTNat Q s.heap.objs.size := Heap.lt_size (hm _ (.tail _ (.head _)))
  have hr0 := hr
  have hr' : g'.IsList ra vs.toArray := ⟨_, hb' _ _ hr, rfl, _, rfl⟩
  have hv1 : 1 ≤ vs.length := by
    rw [hvs.length]
    exact Nat.succ_le_of_lt (List.length_pos_iff.mpr hkn)
  have hrl : vs.length ≤ 1000 := by omega
  clear hr
  have ha0 := ha
  have hat' : g'.IsList at0 us.toArray := ⟨_, hb' _ _ ha, rfl, _, rfl⟩
  have haug : All2 (AtT (Hp g')) us ps := hau.mono fun _ _ y => y.mono hb'
  clear ha
  clear hg ret key hm M hb0
  (try dsimp only)
  (try k_fold)
  (repeat' (first | (k_unfold; (try dsimp only)) | (k_end; wrow_close) | ((fail_if_success (with_reducible show wpAny _ _ (call (Value.ref 208) _) _ _ _)); (fail_if_success (with_reducible show wpAny _ _ (binaryOp Operator.Add (Value.ref _) (Value.ref _)) _ _ _)); (fail_if_success (with_reducible show wpAny _ _ (subscriptTail _ _ (Value.ref _) (Value.int _ _)) _ _ _)); (fail_if_success (with_reducible show wpAny _ _ (compareOp CmpOp.NotEq (Value.ref _) (Value.ref _)) _ _ _)); (fail_if_success (with_reducible show wpAny _ _ (eval (PySem.Expr.List [PySem.Expr.Constant (Const.str (Str.ofString "z")) _ _] _) _) _ _ _)); first | ((with_reducible show wpAny _ _ (call (Value.ref 191) [_, _]) _ _ _); refine' take_use (by k_asm) (by assumption) (by repeat' (first | ((with_reducible show Two _ _ _ _ _ _); first | assumption | (refine' Two.head ?_) | (refine' Two.tail ?_ ?_ ?_)) | k_ne | assumption | (refine' OffT.app ?_ ?_) | exact List.forall_mem_nil _ | fail)) (by first | assumption | decide | omega) (by first | assumption | decide | omega) (by k_asm) (by k_asm) (by k_asm) (by k_asm) (by exact rfl) (by exact rfl) (by exact rfl) (by exact rfl) (by dsimp only [Around.deeper]; omega) (by dsimp only [Around.deeper]; omega) ?_; intro rr tt hh1 tk1 so1 qo1 F' N' hS1 rr0 rr1 U1; (try dsimp only at N' U1); (try k_sweep)) | ((with_reducible show wpAny _ _ (assign (Expr.Tuple _ _ _) _ (Value.ref _)) _ _ _); refine' kun_list (by k_asm) (by k_asm) (by exact base_list_Ch (by assumption) (by assumption)) (by exact rfl) (by exact rfl) (by exact rfl) ?_; intro _ _ _; (try k_sweep)) | walk1 | (dsimp only; walk1) | (leave1; try dsimp only))))
  all_goals try (exfalso; omega)
  · -- a kid
    (try dsimp only)
    refine' len_base ?d1 hr' ?d2 ?_
    case d1 => k_asm
    case d2 => omega
    (repeat' (first | (k_unfold; (try dsimp only)) | (k_end; wrow_close) | ((fail_if_success (with_reducible show wpAny _ _ (call (Value.ref 208) _) _ _ _)); (fail_if_success (with_reducible show wpAny _ _ (binaryOp Operator.Add (Value.ref _) (Value.ref _)) _ _ _)); (fail_if_success (with_reducible show wpAny _ _ (subscriptTail _ _ (Value.ref _) (Value.int _ _)) _ _ _)); (fail_if_success (with_reducible show wpAny _ _ (compareOp CmpOp.NotEq (Value.ref _) (Value.ref _)) _ _ _)); (fail_if_success (with_reducible show wpAny _ _ (eval (PySem.Expr.List [PySem.Expr.Constant (Const.str (Str.ofString "z")) _ _] _) _) _ _ _)); first | ((with_reducible show wpAny _ _ (call (Value.ref 191) [_, _]) _ _ _); refine' take_use (by k_asm) (by assumption) (by repeat' (first | ((with_reducible show Two _ _ _ _ _ _); first | assumption | (refine' Two.head ?_) | (refine' Two.tail ?_ ?_ ?_)) | k_ne | assumption | (refine' OffT.app ?_ ?_) | exact List.forall_mem_nil _ | fail)) (by first | assumption | decide | omega) (by first | assumption | decide | omega) (by k_asm) (by k_asm) (by k_asm) (by k_asm) (by exact rfl) (by exact rfl) (by exact rfl) (by exact rfl) (by dsimp only [Around.deeper]; omega) (by dsimp only [Around.deeper]; omega) ?_; intro rr tt hh1 tk1 so1 qo1 F' N' hS1 rr0 rr1 U1; (try dsimp only at N' U1); (try k_sweep)) | ((with_reducible show wpAny _ _ (assign (Expr.Tuple _ _ _) _ (Value.ref _)) _ _ _); refine' kun_list (by k_asm) (by k_asm) (by exact base_list_Ch (by assumption) (by assumption)) (by exact rfl) (by exact rfl) (by exact rfl) ?_; intro _ _ _; (try k_sweep)) | walk1 | (dsimp only; walk1) | (leave1; try dsimp only))))
    obtain ⟨i, rfl⟩ := Int.eq_ofNat_of_zero_le rr0
    have hil : i < vs.length := by omega
    obtain ⟨v, hv⟩ : ∃ v, vs[i]? = some v := ⟨_, List.getElem?_eq_getElem hil⟩
    obtain ⟨T, hT1, hT2⟩ := hvs.get hv
    rename News _ _ _ _ => NN
    revert NN
    rename News _ _ _ _ => NO
    intro NN
    have zS : @LT.lt Nat instLTNat S _ := Heap.lt_size (NO (S, _) (by k_mem)).1
    have zQ : @LT.lt Nat instLTNat Q _ := Heap.lt_size (NO (Q, _) (by k_mem)).1
    dsimp only at NN zS zQ ⊢
    rw [pick_upto] at NN
    clear NO
    refine item_listL (k := (i : Int)) (base_list_Ch (by k_asm) hr') (by omega) (by omega) (by simpa using hv) ?_
    (repeat' (first | (k_unfold; (try dsimp only)) | (k_end; wrow_close) | ((fail_if_success (with_reducible show wpAny _ _ (call (Value.ref 208) _) _ _ _)); (fail_if_success (with_reducible show wpAny _ _ (binaryOp Operator.Add (Value.ref _) (Value.ref _)) _ _ _)); (fail_if_success (with_reducible show wpAny _ _ (subscriptTail _ _ (Value.ref _) (Value.int _ _)) _ _ _)); (fail_if_success (with_reducible show wpAny _ _ (compareOp CmpOp.NotEq (Value.ref _) (Value.ref _)) _ _ _)); (fail_if_success (with_reducible show wpAny _ _ (eval (PySem.Expr.List [PySem.Expr.Constant (Const.str (Str.ofString "z")) _ _] _) _) _ _ _)); first | ((with_reducible show wpAny _ _ (call (Value.ref 191) [_, _]) _ _ _); refine' take_use (by k_asm) (by assumption) (by repeat' (first | ((with_reducible show Two _ _ _ _ _ _); first | assumption | (refine' Two.head ?_) | (refine' Two.tail ?_ ?_ ?_)) | k_ne | assumption | (refine' OffT.app ?_ ?_) | exact List.forall_mem_nil _ | fail)) (by first | assumption | decide | omega) (by first | assumption | decide | omega) (by k_asm) (by k_asm) (by k_asm) (by k_asm) (by exact rfl) (by exact rfl) (by exact rfl) (by exact rfl) (by dsimp only [Around.deeper]; omega) (by dsimp only [Around.deeper]; omega) ?_; intro rr tt hh1 tk1 so1 qo1 F' N' hS1 rr0 rr1 U1; (try dsimp only at N' U1); (try k_sweep)) | ((with_reducible show wpAny _ _ (assign (Expr.Tuple _ _ _) _ (Value.ref _)) _ _ _); refine' kun_list (by k_asm) (by k_asm) (by exact base_list_Ch (by assumption) (by assumption)) (by exact rfl) (by exact rfl) (by exact rfl) ?_; intro _ _ _; (try k_sweep)) | walk1 | (dsimp only; walk1) | (leave1; try dsimp only))))
    (try dsimp only)
    refine' ch_use CC hT2 (hwf _ (List.mem_of_getElem? hT1)) hb' ?c1 ?c2 ?c3 ?c4 ?c5 ?c6 ?c7 rfl rfl rfl rfl ?c8 ?c9 ?_
    case c5 => k_asm
    case c2 => assumption
    case c1 => (repeat' (first | ((with_reducible show Two _ _ _ _ _ _); first | assumption | (refine' Two.head ?_) | (refine' Two.tail ?_ ?_ ?_)) | k_ne | assumption | (refine' OffT.app ?_ ?_) | exact List.forall_mem_nil _ | fail))
    case c3 => k_asm
    case c4 => k_asm
    case c6 => k_asm
    case c7 => k_asm
    case c8 => (dsimp only [Around.deeper]; omega)
    case c9 => (dsimp only [Around.deeper]; omega)
    intro rv rV tlk hh2 tk2 so2 qo2 F6 N6 hS2 hnew rC rW rT oTk U2
    (try simp only [List.cons_append, List.nil_append] at N6 U2)
    (try k_sweep)
    (repeat' (first | (k_unfold; (try dsimp only)) | (k_end; wrow_close) | ((fail_if_success (with_reducible show wpAny _ _ (call (Value.ref 208) _) _ _ _)); (fail_if_success (with_reducible show wpAny _ _ (binaryOp Operator.Add (Value.ref _) (Value.ref _)) _ _ _)); (fail_if_success (with_reducible show wpAny _ _ (subscriptTail _ _ (Value.ref _) (Value.int _ _)) _ _ _)); (fail_if_success (with_reducible show wpAny _ _ (compareOp CmpOp.NotEq (Value.ref _) (Value.ref _)) _ _ _)); (fail_if_success (with_reducible show wpAny _ _ (eval (PySem.Expr.List [PySem.Expr.Constant (Const.str (Str.ofString "z")) _ _] _) _) _ _ _)); first | ((with_reducible show wpAny _ _ (call (Value.ref 191) [_, _]) _ _ _); refine' take_use (by k_asm) (by assumption) (by repeat' (first | ((with_reducible show Two _ _ _ _ _ _); first | assumption | (refine' Two.head ?_) | (refine' Two.tail ?_ ?_ ?_)) | k_ne | assumption | (refine' OffT.app ?_ ?_) | exact List.forall_mem_nil _ | fail)) (by first | assumption | decide | omega) (by first | assumption | decide | omega) (by k_asm) (by k_asm) (by k_asm) (by k_asm) (by exact rfl) (by exact rfl) (by exact rfl) (by exact rfl) (by dsimp only [Around.deeper]; omega) (by dsimp only [Around.deeper]; omega) ?_; intro rr tt hh1 tk1 so1 qo1 F' N' hS1 rr0 rr1 U1; (try dsimp only at N' U1); (try k_sweep)) | ((with_reducible show wpAny _ _ (assign (Expr.Tuple _ _ _) _ (Value.ref _)) _ _ _); refine' kun_list (by k_asm) (by k_asm) (by exact base_list_Ch (by assumption) (by assumption)) (by exact rfl) (by exact rfl) (by exact rfl) ?_; intro _ _ _; (try k_sweep)) | walk1 | (dsimp only; walk1) | (leave1; try dsimp only))))
    (try dsimp only)
    refine' kmk_add_lit ?aFk1 ?aNk1 ?aak1 ?abk1 rfl ?_ ?azk1
    case aNk1 => k_asm
    case aFk1 => k_asm
    case aak1 => first | exact base_list_Ch (by k_asm) (by assumption) | exact led_list (by k_asm) (by k_mem)
    case abk1 => first | exact base_list_Ch (by k_asm) (by assumption) | exact led_list (by k_asm) (by k_mem)
    case azk1 => (simp only [List.length_append, List.length_take, List.length_drop, List.length_cons, List.length_nil, sizeLine_eq]; omega)
    intro D5 h5 F5 N5 l5
    k_lt l5
    (try k_sweep)
    (repeat' (first | (k_unfold; (try dsimp only)) | (k_end; wrow_close) | ((fail_if_success (with_reducible show wpAny _ _ (call (Value.ref 208) _) _ _ _)); (fail_if_success (with_reducible show wpAny _ _ (binaryOp Operator.Add (Value.ref _) (Value.ref _)) _ _ _)); (fail_if_success (with_reducible show wpAny _ _ (subscriptTail _ _ (Value.ref _) (Value.int _ _)) _ _ _)); (fail_if_success (with_reducible show wpAny _ _ (compareOp CmpOp.NotEq (Value.ref _) (Value.ref _)) _ _ _)); (fail_if_success (with_reducible show wpAny _ _ (eval (PySem.Expr.List [PySem.Expr.Constant (Const.str (Str.ofString "z")) _ _] _) _) _ _ _)); first | ((with_reducible show wpAny _ _ (call (Value.ref 191) [_, _]) _ _ _); refine' take_use (by k_asm) (by assumption) (by repeat' (first | ((with_reducible show Two _ _ _ _ _ _); first | assumption | (refine' Two.head ?_) | (refine' Two.tail ?_ ?_ ?_)) | k_ne | assumption | (refine' OffT.app ?_ ?_) | exact List.forall_mem_nil _ | fail)) (by first | assumption | decide | omega) (by first | assumption | decide | omega) (by k_asm) (by k_asm) (by k_asm) (by k_asm) (by exact rfl) (by exact rfl) (by exact rfl) (by exact rfl) (by dsimp only [Around.deeper]; omega) (by dsimp only [Around.deeper]; omega) ?_; intro rr tt hh1 tk1 so1 qo1 F' N' hS1 rr0 rr1 U1; (try dsimp only at N' U1); (try k_sweep)) | ((with_reducible show wpAny _ _ (assign (Expr.Tuple _ _ _) _ (Value.ref _)) _ _ _); refine' kun_list (by k_asm) (by k_asm) (by exact base_list_Ch (by assumption) (by assumption)) (by exact rfl) (by exact rfl) (by exact rfl) ?_; intro _ _ _; (try k_sweep)) | walk1 | (dsimp only; walk1) | (leave1; try dsimp only))))
    rename News _ _ _ _ => NN
    revert NN
    rename News _ _ _ _ => NO
    intro NN
    have zS2 : @LT.lt Nat instLTNat S _ := Heap.lt_size (NO (S, _) (by k_mem)).1
    have zQ2 : @LT.lt Nat instLTNat Q _ := Heap.lt_size (NO (Q, _) (by k_mem)).1
    dsimp only at NN zS2 zQ2 ⊢
    rw [pick_next] at NN
    clear NO
    (try dsimp only)
    refine' kmk_add_lit ?aFk2 ?aNk2 ?aak2 ?abk2 rfl ?_ ?azk2
    case aNk2 => k_asm
    case aFk2 => k_asm
    case aak2 => first | exact base_list_Ch (by k_asm) (by assumption) | exact led_list (by k_asm) (by k_mem)
    case abk2 => first | exact base_list_Ch (by k_asm) (by assumption) | exact led_list (by k_asm) (by k_mem)
    case azk2 => (simp only [List.length_append, List.length_take, List.length_drop, List.length_cons, List.length_nil, sizeLine_eq]; omega)
    intro D5 h5 F5 N5 l5
    k_lt l5
    (try k_sweep)
    (repeat' (first | (k_unfold; (try dsimp only)) | (k_end; wrow_close) | ((fail_if_success (with_reducible show wpAny _ _ (call (Value.ref 208) _) _ _ _)); (fail_if_success (with_reducible show wpAny _ _ (binaryOp Operator.Add (Value.ref _) (Value.ref _)) _ _ _)); (fail_if_success (with_reducible show wpAny _ _ (subscriptTail _ _ (Value.ref _) (Value.int _ _)) _ _ _)); (fail_if_success (with_reducible show wpAny _ _ (compareOp CmpOp.NotEq (Value.ref _) (Value.ref _)) _ _ _)); (fail_if_success (with_reducible show wpAny _ _ (eval (PySem.Expr.List [PySem.Expr.Constant (Const.str (Str.ofString "z")) _ _] _) _) _ _ _)); first | ((with_reducible show wpAny _ _ (call (Value.ref 191) [_, _]) _ _ _); refine' take_use (by k_asm) (by assumption) (by repeat' (first | ((with_reducible show Two _ _ _ _ _ _); first | assumption | (refine' Two.head ?_) | (refine' Two.tail ?_ ?_ ?_)) | k_ne | assumption | (refine' OffT.app ?_ ?_) | exact List.forall_mem_nil _ | fail)) (by first | assumption | decide | omega) (by first | assumption | decide | omega) (by k_asm) (by k_asm) (by k_asm) (by k_asm) (by exact rfl) (by exact rfl) (by exact rfl) (by exact rfl) (by dsimp only [Around.deeper]; omega) (by dsimp only [Around.deeper]; omega) ?_; intro rr tt hh1 tk1 so1 qo1 F' N' hS1 rr0 rr1 U1; (try dsimp only at N' U1); (try k_sweep)) | ((with_reducible show wpAny _ _ (assign (Expr.Tuple _ _ _) _ (Value.ref _)) _ _ _); refine' kun_list (by k_asm) (by k_asm) (by exact base_list_Ch (by assumption) (by assumption)) (by exact rfl) (by exact rfl) (by exact rfl) ?_; intro _ _ _; (try k_sweep)) | walk1 | (dsimp only; walk1) | (leave1; try dsimp only))))
    refine' fin _ _ _ _ _ _ _ _ (.list ((ks.take i ++ [rV]) ++ ks.drop (i + 1)) ps) ?e1k ?e2k ?e3k ?e4k ?e5k ?e6k ?e7k
    case e2k => k_asm
    case e1k => k_asm
    case e4k => assumption
    case e3k => (repeat' (first | ((with_reducible show Two _ _ _ _ _ _); first | assumption | (refine' Two.head ?_) | (refine' Two.tail ?_ ?_ ?_)) | k_ne | assumption | (refine' OffT.app ?_ ?_) | exact List.forall_mem_nil _ | fail))
    case e5k => (rw [hn]; exact chg_kid_list hT1 rC)
    case e6k => (rw [hn]; exact wf_list (by simp) (Nat.le_trans (kids_len hkl) (by omega)) (kids_wf hwf rW) (okAts_up hok))
    case e7k =>
      rw [hn]
      refine' tin_list ⟨_, _, _, rfl, .inr ⟨?nk1, ?nk2, ?nk3⟩⟩ ⟨_, _, rfl, .inr ⟨?mk1, ?mk2, ?mk3⟩, ?lk⟩ ((((All2.take i hvs).mono fun _ _ y => y.mono fun _ _ e => .inl e).append (.cons (rT.mono fun a o h => h.imp id fun h => ⟨?kt, (oTk _ h).1, (oTk _ h).2⟩) .nil)).append ((All2.drop (i + 1) hvs).mono fun _ _ y => y.mono fun _ _ e => .inl e)) ⟨_, _, rfl, .inl ha0, hul⟩ (hau.mono fun _ _ y => y.mono fun _ _ e => .inl e)
      case nk1 => k_mem
      case mk1 => k_mem
      case kt => (repeat (first | exact h | refine List.mem_cons_of_mem _ ?_))
      case lk => (simp; omega)
      all_goals k_ne
  · -- way 3
    (try dsimp only)
    refine' ne_nil ?v1a ?v2a ?v3a ?v4a ?v5a ?v6a ?v7a ?_
    case v2a => k_asm
    case v1a => k_asm
    case v3a => exact hat'
    case v4a => exact haug
    case v5a => exact hok.2.2.2.2
    case v6a => k_mem
    case v7a => (dsimp only [Around.deeper]; rw [show cLine = 9900 from rfl]; omega)
    by_cases hps : ps = []
    · rw [decide_eq_true hps]
      (try dsimp only [Bool.not_true])
      (repeat' (first | (k_unfold; (try dsimp only)) | (k_end; wrow_close) | ((fail_if_success (with_reducible show wpAny _ _ (call (Value.ref 208) _) _ _ _)); (fail_if_success (with_reducible show wpAny _ _ (binaryOp Operator.Add (Value.ref _) (Value.ref _)) _ _ _)); (fail_if_success (with_reducible show wpAny _ _ (subscriptTail _ _ (Value.ref _) (Value.int _ _)) _ _ _)); (fail_if_success (with_reducible show wpAny _ _ (compareOp CmpOp.NotEq (Value.ref _) (Value.ref _)) _ _ _)); (fail_if_success (with_reducible show wpAny _ _ (eval (PySem.Expr.List [PySem.Expr.Constant (Const.str (Str.ofString "z")) _ _] _) _) _ _ _)); first | ((with_reducible show wpAny _ _ (call (Value.ref 191) [_, _]) _ _ _); refine' take_use (by k_asm) (by assumption) (by repeat' (first | ((with_reducible show Two _ _ _ _ _ _); first | assumption | (refine' Two.head ?_) | (refine' Two.tail ?_ ?_ ?_)) | k_ne | assumption | (refine' OffT.app ?_ ?_) | exact List.forall_mem_nil _ | fail)) (by first | assumption | decide | omega) (by first | assumption | decide | omega) (by k_asm) (by k_asm) (by k_asm) (by k_asm) (by exact rfl) (by exact rfl) (by exact rfl) (by exact rfl) (by dsimp only [Around.deeper]; omega) (by dsimp only [Around.deeper]; omega) ?_; intro rr tt hh1 tk1 so1 qo1 F' N' hS1 rr0 rr1 U1; (try dsimp only at N' U1); (try k_sweep)) | ((with_reducible show wpAny _ _ (assign (Expr.Tuple _ _ _) _ (Value.ref _)) _ _ _); refine' kun_list (by k_asm) (by k_asm) (by exact base_list_Ch (by assumption) (by assumption)) (by exact rfl) (by exact rfl) (by exact rfl) ?_; intro _ _ _; (try k_sweep)) | walk1 | (dsimp only; walk1) | (leave1; try dsimp only))))
      all_goals try (exfalso; omega)
      (try dsimp only)
      refine' kmk_add_lit ?aFa ?aNa ?aaa ?aba rfl ?_ ?aza
      case aNa => k_asm
      case aFa => k_asm
      case aaa => first | exact base_list_Ch (by k_asm) (by assumption) | exact led_list (by k_asm) (by k_mem)
      case aba => first | exact base_list_Ch (by k_asm) (by assumption) | exact led_list (by k_asm) (by k_mem)
      case aza => (simp only [List.length_append, List.length_take, List.length_drop, List.length_cons, List.length_nil, sizeLine_eq]; omega)
      intro D5 h5 F5 N5 l5
      k_lt l5
      (try k_sweep)
      (repeat' (first | (k_unfold; (try dsimp only)) | (k_end; wrow_close) | ((fail_if_success (with_reducible show wpAny _ _ (call (Value.ref 208) _) _ _ _)); (fail_if_success (with_reducible show wpAny _ _ (binaryOp Operator.Add (Value.ref _) (Value.ref _)) _ _ _)); (fail_if_success (with_reducible show wpAny _ _ (subscriptTail _ _ (Value.ref _) (Value.int _ _)) _ _ _)); (fail_if_success (with_reducible show wpAny _ _ (compareOp CmpOp.NotEq (Value.ref _) (Value.ref _)) _ _ _)); (fail_if_success (with_reducible show wpAny _ _ (eval (PySem.Expr.List [PySem.Expr.Constant (Const.str (Str.ofString "z")) _ _] _) _) _ _ _)); first | ((with_reducible show wpAny _ _ (call (Value.ref 191) [_, _]) _ _ _); refine' take_use (by k_asm) (by assumption) (by repeat' (first | ((with_reducible show Two _ _ _ _ _ _); first | assumption | (refine' Two.head ?_) | (refine' Two.tail ?_ ?_ ?_)) | k_ne | assumption | (refine' OffT.app ?_ ?_) | exact List.forall_mem_nil _ | fail)) (by first | assumption | decide | omega) (by first | assumption | decide | omega) (by k_asm) (by k_asm) (by k_asm) (by k_asm) (by exact rfl) (by exact rfl) (by exact rfl) (by exact rfl) (by dsimp only [Around.deeper]; omega) (by dsimp only [Around.deeper]; omega) ?_; intro rr tt hh1 tk1 so1 qo1 F' N' hS1 rr0 rr1 U1; (try dsimp only at N' U1); (try k_sweep)) | ((with_reducible show wpAny _ _ (assign (Expr.Tuple _ _ _) _ (Value.ref _)) _ _ _); refine' kun_list (by k_asm) (by k_asm) (by exact base_list_Ch (by assumption) (by assumption)) (by exact rfl) (by exact rfl) (by exact rfl) ?_; intro _ _ _; (try k_sweep)) | walk1 | (dsimp only; walk1) | (leave1; try dsimp only))))
      refine' fin _ _ _ _ _ _ _ _ (.list (ks ++ [.null]) ps) ?e1a ?e2a ?e3a ?e4a ?e5a ?e6a ?e7a
      case e2a => k_asm
      case e1a => k_asm
      case e4a => assumption
      case e3a => (repeat' (first | ((with_reducible show Two _ _ _ _ _ _); first | assumption | (refine' Two.head ?_) | (refine' Two.tail ?_ ?_ ?_)) | k_ne | assumption | (refine' OffT.app ?_ ?_) | exact List.forall_mem_nil _ | fail))
      case e5a => (rw [hn]; exact chg_more_list)
      case e6a => (rw [hn]; exact wf_list (by simp) (by rw [List.length_append]; simp; omega) (wf_more hwf) (okAts_up hok))
      case e7a =>
        rw [hn]
        refine' tin_list ⟨_, _, _, rfl, .inr ⟨?na1, ?na2, ?na3⟩⟩ ⟨_, _, rfl, .inr ⟨?ma1, ?ma2, ?ma3⟩, ?la⟩ ((hvs.mono fun _ _ y => y.mono fun _ _ e => .inl e).append (.cons (tin_null ⟨_, _, _, rfl, .inr ⟨?pa1, ?pa2, ?pa3⟩⟩ ⟨_, _, rfl, .inr ⟨?qa1, ?qa2, ?qa3⟩, Nat.zero_le _⟩ ⟨_, _, rfl, .inr ⟨?sa1, ?sa2, ?sa3⟩, Nat.zero_le _⟩) .nil)) ⟨_, _, rfl, .inl ha0, hul⟩ (hau.mono fun _ _ y => y.mono fun _ _ e => .inl e)
        case na1 => k_mem
        case ma1 => k_mem
        case pa1 => k_mem
        case qa1 => k_mem
        case sa1 => k_mem
        case la => (rw [List.length_append]; simp; omega)
        all_goals k_ne
    · rw [decide_eq_false hps]
      (try dsimp only [Bool.not_false])
      obtain ⟨pi, p, hpp⟩ : ∃ pi p, ps = pi ++ [p] := ⟨ps.dropLast, ps.getLast hps, (List.dropLast_concat_getLast hps).symm⟩
      subst hpp
      obtain ⟨ui, u, rfl, hui, q, qt, qt', qk, rfl, hq⟩ := all2_last hau
      (repeat' (first | (k_unfold; (try dsimp only)) | (k_end; wrow_close) | ((fail_if_success (with_reducible show wpAny _ _ (call (Value.ref 208) _) _ _ _)); (fail_if_success (with_reducible show wpAny _ _ (binaryOp Operator.Add (Value.ref _) (Value.ref _)) _ _ _)); (fail_if_success (with_reducible show wpAny _ _ (subscriptTail _ _ (Value.ref _) (Value.int _ _)) _ _ _)); (fail_if_success (with_reducible show wpAny _ _ (compareOp CmpOp.NotEq (Value.ref _) (Value.ref _)) _ _ _)); (fail_if_success (with_reducible show wpAny _ _ (eval (PySem.Expr.List [PySem.Expr.Constant (Const.str (Str.ofString "z")) _ _] _) _) _ _ _)); first | ((with_reducible show wpAny _ _ (call (Value.ref 191) [_, _]) _ _ _); refine' take_use (by k_asm) (by assumption) (by repeat' (first | ((with_reducible show Two _ _ _ _ _ _); first | assumption | (refine' Two.head ?_) | (refine' Two.tail ?_ ?_ ?_)) | k_ne | assumption | (refine' OffT.app ?_ ?_) | exact List.forall_mem_nil _ | fail)) (by first | assumption | decide | omega) (by first | assumption | decide | omega) (by k_asm) (by k_asm) (by k_asm) (by k_asm) (by exact rfl) (by exact rfl) (by exact rfl) (by exact rfl) (by dsimp only [Around.deeper]; omega) (by dsimp only [Around.deeper]; omega) ?_; intro rr tt hh1 tk1 so1 qo1 F' N' hS1 rr0 rr1 U1; (try dsimp only at N' U1); (try k_sweep)) | ((with_reducible show wpAny _ _ (assign (Expr.Tuple _ _ _) _ (Value.ref _)) _ _ _); refine' kun_list (by k_asm) (by k_asm) (by exact base_list_Ch (by assumption) (by assumption)) (by exact rfl) (by exact rfl) (by exact rfl) ?_; intro _ _ _; (try k_sweep)) | walk1 | (dsimp only; walk1) | (leave1; try dsimp only))))
      rename News _ _ _ _ => NN
      revert NN
      rename News _ _ _ _ => NO
      intro NN
      have zS : @LT.lt Nat instLTNat S _ := Heap.lt_size (NO (S, _) (by k_mem)).1
      have zQ : @LT.lt Nat instLTNat Q _ := Heap.lt_size (NO (Q, _) (by k_mem)).1
      dsimp only at NN zS zQ ⊢
      rw [pick_init] at NN
      clear NO
      refine item_last (base_list_Ch (by k_asm) hat') hul ?_
      (repeat' (first | (k_unfold; (try dsimp only)) | (k_end; wrow_close) | ((fail_if_success (with_reducible show wpAny _ _ (call (Value.ref 208) _) _ _ _)); (fail_if_success (with_reducible show wpAny _ _ (binaryOp Operator.Add (Value.ref _) (Value.ref _)) _ _ _)); (fail_if_success (with_reducible show wpAny _ _ (subscriptTail _ _ (Value.ref _) (Value.int _ _)) _ _ _)); (fail_if_success (with_reducible show wpAny _ _ (compareOp CmpOp.NotEq (Value.ref _) (Value.ref _)) _ _ _)); (fail_if_success (with_reducible show wpAny _ _ (eval (PySem.Expr.List [PySem.Expr.Constant (Const.str (Str.ofString "z")) _ _] _) _) _ _ _)); first | ((with_reducible show wpAny _ _ (call (Value.ref 191) [_, _]) _ _ _); refine' take_use (by k_asm) (by assumption) (by repeat' (first | ((with_reducible show Two _ _ _ _ _ _); first | assumption | (refine' Two.head ?_) | (refine' Two.tail ?_ ?_ ?_)) | k_ne | assumption | (refine' OffT.app ?_ ?_) | exact List.forall_mem_nil _ | fail)) (by first | assumption | decide | omega) (by first | assumption | decide | omega) (by k_asm) (by k_asm) (by k_asm) (by k_asm) (by exact rfl) (by exact rfl) (by exact rfl) (by exact rfl) (by dsimp only [Around.deeper]; omega) (by dsimp only [Around.deeper]; omega) ?_; intro rr tt hh1 tk1 so1 qo1 F' N' hS1 rr0 rr1 U1; (try dsimp only at N' U1); (try k_sweep)) | ((with_reducible show wpAny _ _ (assign (Expr.Tuple _ _ _) _ (Value.ref _)) _ _ _); refine' kun_list (by k_asm) (by k_asm) (by exact base_list_Ch (by assumption) (by assumption)) (by exact rfl) (by exact rfl) (by exact rfl) ?_; intro _ _ _; (try k_sweep)) | walk1 | (dsimp only; walk1) | (leave1; try dsimp only))))
      refine item_tupleT (tup_base (by k_asm) (hb' _ _ hq)) (by omega) (by omega) rfl rfl ?_
      (repeat' (first | (k_unfold; (try dsimp only)) | (k_end; wrow_close) | ((fail_if_success (with_reducible show wpAny _ _ (call (Value.ref 208) _) _ _ _)); (fail_if_success (with_reducible show wpAny _ _ (binaryOp Operator.Add (Value.ref _) (Value.ref _)) _ _ _)); (fail_if_success (with_reducible show wpAny _ _ (subscriptTail _ _ (Value.ref _) (Value.int _ _)) _ _ _)); (fail_if_success (with_reducible show wpAny _ _ (compareOp CmpOp.NotEq (Value.ref _) (Value.ref _)) _ _ _)); (fail_if_success (with_reducible show wpAny _ _ (eval (PySem.Expr.List [PySem.Expr.Constant (Const.str (Str.ofString "z")) _ _] _) _) _ _ _)); first | ((with_reducible show wpAny _ _ (call (Value.ref 191) [_, _]) _ _ _); refine' take_use (by k_asm) (by assumption) (by repeat' (first | ((with_reducible show Two _ _ _ _ _ _); first | assumption | (refine' Two.head ?_) | (refine' Two.tail ?_ ?_ ?_)) | k_ne | assumption | (refine' OffT.app ?_ ?_) | exact List.forall_mem_nil _ | fail)) (by first | assumption | decide | omega) (by first | assumption | decide | omega) (by k_asm) (by k_asm) (by k_asm) (by k_asm) (by exact rfl) (by exact rfl) (by exact rfl) (by exact rfl) (by dsimp only [Around.deeper]; omega) (by dsimp only [Around.deeper]; omega) ?_; intro rr tt hh1 tk1 so1 qo1 F' N' hS1 rr0 rr1 U1; (try dsimp only at N' U1); (try k_sweep)) | ((with_reducible show wpAny _ _ (assign (Expr.Tuple _ _ _) _ (Value.ref _)) _ _ _); refine' kun_list (by k_asm) (by k_asm) (by exact base_list_Ch (by assumption) (by assumption)) (by exact rfl) (by exact rfl) (by exact rfl) ?_; intro _ _ _; (try k_sweep)) | walk1 | (dsimp only; walk1) | (leave1; try dsimp only))))
      refine item_last (base_list_Ch (by k_asm) hat') hul ?_
      (repeat' (first | (k_unfold; (try dsimp only)) | (k_end; wrow_close) | ((fail_if_success (with_reducible show wpAny _ _ (call (Value.ref 208) _) _ _ _)); (fail_if_success (with_reducible show wpAny _ _ (binaryOp Operator.Add (Value.ref _) (Value.ref _)) _ _ _)); (fail_if_success (with_reducible show wpAny _ _ (subscriptTail _ _ (Value.ref _) (Value.int _ _)) _ _ _)); (fail_if_success (with_reducible show wpAny _ _ (compareOp CmpOp.NotEq (Value.ref _) (Value.ref _)) _ _ _)); (fail_if_success (with_reducible show wpAny _ _ (eval (PySem.Expr.List [PySem.Expr.Constant (Const.str (Str.ofString "z")) _ _] _) _) _ _ _)); first | ((with_reducible show wpAny _ _ (call (Value.ref 191) [_, _]) _ _ _); refine' take_use (by k_asm) (by assumption) (by repeat' (first | ((with_reducible show Two _ _ _ _ _ _); first | assumption | (refine' Two.head ?_) | (refine' Two.tail ?_ ?_ ?_)) | k_ne | assumption | (refine' OffT.app ?_ ?_) | exact List.forall_mem_nil _ | fail)) (by first | assumption | decide | omega) (by first | assumption | decide | omega) (by k_asm) (by k_asm) (by k_asm) (by k_asm) (by exact rfl) (by exact rfl) (by exact rfl) (by exact rfl) (by dsimp only [Around.deeper]; omega) (by dsimp only [Around.deeper]; omega) ?_; intro rr tt hh1 tk1 so1 qo1 F' N' hS1 rr0 rr1 U1; (try dsimp only at N' U1); (try k_sweep)) | ((with_reducible show wpAny _ _ (assign (Expr.Tuple _ _ _) _ (Value.ref _)) _ _ _); refine' kun_list (by k_asm) (by k_asm) (by exact base_list_Ch (by assumption) (by assumption)) (by exact rfl) (by exact rfl) (by exact rfl) ?_; intro _ _ _; (try k_sweep)) | walk1 | (dsimp only; walk1) | (leave1; try dsimp only))))
      refine item_tupleT (tup_base (by k_asm) (hb' _ _ hq)) (by omega) (by omega) rfl rfl ?_
      (repeat' (first | (k_unfold; (try dsimp only)) | (k_end; wrow_close) | ((fail_if_success (with_reducible show wpAny _ _ (call (Value.ref 208) _) _ _ _)); (fail_if_success (with_reducible show wpAny _ _ (binaryOp Operator.Add (Value.ref _) (Value.ref _)) _ _ _)); (fail_if_success (with_reducible show wpAny _ _ (subscriptTail _ _ (Value.ref _) (Value.int _ _)) _ _ _)); (fail_if_success (with_reducible show wpAny _ _ (compareOp CmpOp.NotEq (Value.ref _) (Value.ref _)) _ _ _)); (fail_if_success (with_reducible show wpAny _ _ (eval (PySem.Expr.List [PySem.Expr.Constant (Const.str (Str.ofString "z")) _ _] _) _) _ _ _)); first | ((with_reducible show wpAny _ _ (call (Value.ref 191) [_, _]) _ _ _); refine' take_use (by k_asm) (by assumption) (by repeat' (first | ((with_reducible show Two _ _ _ _ _ _); first | assumption | (refine' Two.head ?_) | (refine' Two.tail ?_ ?_ ?_)) | k_ne | assumption | (refine' OffT.app ?_ ?_) | exact List.forall_mem_nil _ | fail)) (by first | assumption | decide | omega) (by first | assumption | decide | omega) (by k_asm) (by k_asm) (by k_asm) (by k_asm) (by exact rfl) (by exact rfl) (by exact rfl) (by exact rfl) (by dsimp only [Around.deeper]; omega) (by dsimp only [Around.deeper]; omega) ?_; intro rr tt hh1 tk1 so1 qo1 F' N' hS1 rr0 rr1 U1; (try dsimp only at N' U1); (try k_sweep)) | ((with_reducible show wpAny _ _ (assign (Expr.Tuple _ _ _) _ (Value.ref _)) _ _ _); refine' kun_list (by k_asm) (by k_asm) (by exact base_list_Ch (by assumption) (by assumption)) (by exact rfl) (by exact rfl) (by exact rfl) ?_; intro _ _ _; (try k_sweep)) | walk1 | (dsimp only; walk1) | (leave1; try dsimp only))))
      have hul2 : ui.length ≤ 999 := by (rw [List.length_append] at hul; simp at hul; omega)
      (try dsimp only)
      refine' kmk_add_lit ?aFc ?aNc ?aac ?abc rfl ?_ ?azc
      case aNc => k_asm
      case aFc => k_asm
      case aac => first | exact base_list_Ch (by k_asm) (by assumption) | exact led_list (by k_asm) (by k_mem)
      case abc => first | exact base_list_Ch (by k_asm) (by assumption) | exact led_list (by k_asm) (by k_mem)
      case azc => (simp only [List.length_append, List.length_take, List.length_drop, List.length_cons, List.length_nil, sizeLine_eq]; omega)
      intro D5 h5 F5 N5 l5
      k_lt l5
      (try k_sweep)
      (repeat' (first | (k_unfold; (try dsimp only)) | (k_end; wrow_close) | ((fail_if_success (with_reducible show wpAny _ _ (call (Value.ref 208) _) _ _ _)); (fail_if_success (with_reducible show wpAny _ _ (binaryOp Operator.Add (Value.ref _) (Value.ref _)) _ _ _)); (fail_if_success (with_reducible show wpAny _ _ (subscriptTail _ _ (Value.ref _) (Value.int _ _)) _ _ _)); (fail_if_success (with_reducible show wpAny _ _ (compareOp CmpOp.NotEq (Value.ref _) (Value.ref _)) _ _ _)); (fail_if_success (with_reducible show wpAny _ _ (eval (PySem.Expr.List [PySem.Expr.Constant (Const.str (Str.ofString "z")) _ _] _) _) _ _ _)); first | ((with_reducible show wpAny _ _ (call (Value.ref 191) [_, _]) _ _ _); refine' take_use (by k_asm) (by assumption) (by repeat' (first | ((with_reducible show Two _ _ _ _ _ _); first | assumption | (refine' Two.head ?_) | (refine' Two.tail ?_ ?_ ?_)) | k_ne | assumption | (refine' OffT.app ?_ ?_) | exact List.forall_mem_nil _ | fail)) (by first | assumption | decide | omega) (by first | assumption | decide | omega) (by k_asm) (by k_asm) (by k_asm) (by k_asm) (by exact rfl) (by exact rfl) (by exact rfl) (by exact rfl) (by dsimp only [Around.deeper]; omega) (by dsimp only [Around.deeper]; omega) ?_; intro rr tt hh1 tk1 so1 qo1 F' N' hS1 rr0 rr1 U1; (try dsimp only at N' U1); (try k_sweep)) | ((with_reducible show wpAny _ _ (assign (Expr.Tuple _ _ _) _ (Value.ref _)) _ _ _); refine' kun_list (by k_asm) (by k_asm) (by exact base_list_Ch (by assumption) (by assumption)) (by exact rfl) (by exact rfl) (by exact rfl) ?_; intro _ _ _; (try k_sweep)) | walk1 | (dsimp only; walk1) | (leave1; try dsimp only))))
      refine' fin _ _ _ _ _ _ _ _ (.list ks (pi ++ [(p.1, p.2 + 1)])) ?e1c ?e2c ?e3c ?e4c ?e5c ?e6c ?e7c
      case e2c => k_asm
      case e1c => k_asm
      case e4c => assumption
      case e3c => (repeat' (first | ((with_reducible show Two _ _ _ _ _ _); first | assumption | (refine' Two.head ?_) | (refine' Two.tail ?_ ?_ ?_)) | k_ne | assumption | (refine' OffT.app ?_ ?_) | exact List.forall_mem_nil _ | fail))
      case e5c => (rw [hn]; exact chg_ats_list (.last _ _))
      case e6c => (rw [hn]; exact wf_list hkn (by omega) (fun k hk => (hwf k hk).up) (okAts_last hok))
      case e7c =>
        rw [hn]
        refine' tin_list ⟨_, _, _, rfl, .inr ⟨?nc1, ?nc2, ?nc3⟩⟩ ⟨_, _, rfl, .inl hr0, hrl⟩ (hvs.mono fun _ _ y => y.mono fun _ _ e => .inl e) ⟨_, _, rfl, .inr ⟨?mc1, ?mc2, ?mc3⟩, ?lc⟩ ((hui.mono fun _ _ y => y.mono fun _ _ e => .inl e).append (.cons ⟨_, _, _, _, rfl, .inr ⟨?oc1, ?oc2, ?oc3⟩⟩ .nil))
        case nc1 => k_mem
        case mc1 => k_mem
        case oc1 => k_mem
        case lc => (rw [List.length_append]; simp; omega)
        all_goals k_ne
  · -- way 4
    (try dsimp only)
    refine' kmk_add_lit ?aFb ?aNb ?aab ?abb rfl ?_ ?azb
    case aNb => k_asm
    case aFb => k_asm
    case aab => first | exact base_list_Ch (by k_asm) (by assumption) | exact led_list (by k_asm) (by k_mem)
    case abb => first | exact base_list_Ch (by k_asm) (by assumption) | exact led_list (by k_asm) (by k_mem)
    case azb => (simp only [List.length_append, List.length_take, List.length_drop, List.length_cons, List.length_nil, sizeLine_eq]; omega)
    intro D5 h5 F5 N5 l5
    k_lt l5
    (try k_sweep)
    (repeat' (first | (k_unfold; (try dsimp only)) | (k_end; wrow_close) | ((fail_if_success (with_reducible show wpAny _ _ (call (Value.ref 208) _) _ _ _)); (fail_if_success (with_reducible show wpAny _ _ (binaryOp Operator.Add (Value.ref _) (Value.ref _)) _ _ _)); (fail_if_success (with_reducible show wpAny _ _ (subscriptTail _ _ (Value.ref _) (Value.int _ _)) _ _ _)); (fail_if_success (with_reducible show wpAny _ _ (compareOp CmpOp.NotEq (Value.ref _) (Value.ref _)) _ _ _)); (fail_if_success (with_reducible show wpAny _ _ (eval (PySem.Expr.List [PySem.Expr.Constant (Const.str (Str.ofString "z")) _ _] _) _) _ _ _)); first | ((with_reducible show wpAny _ _ (call (Value.ref 191) [_, _]) _ _ _); refine' take_use (by k_asm) (by assumption) (by repeat' (first | ((with_reducible show Two _ _ _ _ _ _); first | assumption | (refine' Two.head ?_) | (refine' Two.tail ?_ ?_ ?_)) | k_ne | assumption | (refine' OffT.app ?_ ?_) | exact List.forall_mem_nil _ | fail)) (by first | assumption | decide | omega) (by first | assumption | decide | omega) (by k_asm) (by k_asm) (by k_asm) (by k_asm) (by exact rfl) (by exact rfl) (by exact rfl) (by exact rfl) (by dsimp only [Around.deeper]; omega) (by dsimp only [Around.deeper]; omega) ?_; intro rr tt hh1 tk1 so1 qo1 F' N' hS1 rr0 rr1 U1; (try dsimp only at N' U1); (try k_sweep)) | ((with_reducible show wpAny _ _ (assign (Expr.Tuple _ _ _) _ (Value.ref _)) _ _ _); refine' kun_list (by k_asm) (by k_asm) (by exact base_list_Ch (by assumption) (by assumption)) (by exact rfl) (by exact rfl) (by exact rfl) ?_; intro _ _ _; (try k_sweep)) | walk1 | (dsimp only; walk1) | (leave1; try dsimp only))))
    refine' fin _ _ _ _ _ _ _ _ (.list ks (ps ++ [(("other" : Str), 1)])) ?e1b ?e2b ?e3b ?e4b ?e5b ?e6b ?e7b
    case e2b => k_asm
    case e1b => k_asm
    case e4b => assumption
    case e3b => (repeat' (first | ((with_reducible show Two _ _ _ _ _ _); first | assumption | (refine' Two.head ?_) | (refine' Two.tail ?_ ?_ ?_)) | k_ne | assumption | (refine' OffT.app ?_ ?_) | exact List.forall_mem_nil _ | fail))
    case e5b => (rw [hn]; exact chg_ats_list (.more _))
    case e6b => (rw [hn]; exact wf_list hkn (by omega) (fun k hk => (hwf k hk).up) (okAts_other hok))
    case e7b =>
      rw [hn]
      refine' tin_list ⟨_, _, _, rfl, .inr ⟨?nb1, ?nb2, ?nb3⟩⟩ ⟨_, _, rfl, .inl hr0, hrl⟩ (hvs.mono fun _ _ y => y.mono fun _ _ e => .inl e) ⟨_, _, rfl, .inr ⟨?mb1, ?mb2, ?mb3⟩, ?lb⟩ ((hau.mono fun _ _ y => y.mono fun _ _ e => .inl e).append (.cons ⟨_, _, _, _, rfl, .inr ⟨?ob1, ?ob2, ?ob3⟩⟩ .nil))
      case nb1 => k_mem
      case mb1 => k_mem
      case ob1 => k_mem
      case lb => (rw [List.length_append]; simp; have := hau.length; have := hok.2.1; omega)
      all_goals k_ne

set_option maxHeartbeats 8000000 in
theorem ch_call {w : World} {n : Nat} {mean : ExcName → Option Value} {mg mb : Str → Option Value} {base : Heap} {outs : List Env} {s : Shared} {RR : Result → Shared → Prop} {S Q : Addr} {so qo : Obj} {b₀ : Heap} {a0 : Addr} {k : Nat} {t : Tok} {mm : Nat} {ks : List Tr} {ti : List (Option Str)} {tx : Option Str} {ra at0 ea : Addr} {vs es : List Value} {k1 k2 k3 : Nat} (hn5 : n ≤ 5)
    (hS : SrcMu S Q [(S, so), (Q, qo)]) (hm : ∀ p ∈ [(S, so), (Q, qo)], s.heap.get? p.1 = some p.2)
    (key : Amb w mean mg mb (AA (800 - 10 * n) (8000 - 100 * n) outs) base outs (hid s.heap [(S, so), (Q, qo)])) (hb0 : ∀ a o, b₀.get? a = some o → (hid s.heap [(S, so), (Q, qo)]).get? a = some o) (M : b₀.get? a0 = some (listOf #[.str ("call" : Str) t, .ref ea, .ref ra, .ref at0] k)) (hn : n = mm + 1) (CC : ChC w mm) (hr : b₀.get? ra = some (listOf vs.toArray k1)) (hvl : vs.length ≤ 10) (hkl : ks.length ≤ 10) (hkn : ks ≠ []) (hvs : All2 (TIn (Hp b₀) mm) vs ks) (hwf : ∀ k ∈ ks, Wf 1 mm k)
    (he : b₀.get? ea = some (listOf es.toArray k3)) (hel : es.length ≤ 1000) (hes : CarriedAll es ((ti ++ [tx]).map tagD)) (htl : (ti ++ [tx]).length ≤ 10) (htg : ∀ x ∈ ti ++ [tx], okTag x) (ha : b₀.get? at0 = some (listOf #[] k2))
    (ret : ∀ h' tk' r T', Kept [S, Q] s.heap h' → Src h' S Q → Chg n (.call (ti ++ [tx]) ks) T' → Wf 2 n T' → TIn (fun a o => b₀.get? a = some o ∨ New s.heap h' a o) n r T' → RR (.ok (.ret r)) { s with heap := h', toks := tk' }) :
    codeAny (model PySem.Challenge.rw_pq1317_01.row.prog w) (AA (800 - 10 * n) (8000 - 100 * n) outs) (.call (.ref 208) ⟨[.ref S, .ref a0], []⟩) RR s := by
  have KX := key.X
  revert KX
  k_fill
  intro KX
  refine' enter (binds := [("source", .ref S), ("tree", .ref a0)]) key hm ?k6 ?k7 ?k8 ?k9 ?kB ?_ ?c2 ?c3 ?c4 ?c5
  case k6 => k_is
  case k7 => k_is
  case k8 => exact Nat.lt_of_le_of_lt (Nat.sub_le _ _) (Nat.le_of_ble_eq_true rfl)
  case k9 => exact BindsTo.of_eq rfl
  case kB => exact locs rfl
  case c2 => decide
  case c3 => exact rfl
  case c4 => exact rfl
  case c5 => exact rfl
  intro g' L' h' hg F' N' B' X' T'
  clear KX
  have fin : ∀ h' m' news gl so qo tk r V, Fr g' L' h' m' → News g' L' h' news → Two S Q so qo news gl → SrcMu S Q [(S, so), (Q, qo)] → Chg n (.call (ti ++ [tx]) ks) V → Wf 2 n V → TIn (fun a o => b₀.get? a = some o ∨ ((a, o) ∈ news ∧ (@Ne Nat a S) ∧ (@Ne Nat a Q))) n r V → RR (.ok (.ret r)) { s with heap := h', toks := tk } :=
    fun h' m' news gl so qo tk r V F N U hS C W x => let z := ch_fin hg F N U hS x; ret _ _ _ _ z.1 z.2.1 C W z.2.2
  have hb' : ∀ a o, b₀.get? a = some o → g'.get? a = some o := by rw [hg]; exact hb0
  have L0 : g'.IsList a0 #[.str ("call" : Str) t, .ref ea, .ref ra, .ref at0] := ⟨_, hb' _ _ M, rfl, _, rfl⟩
  have sS : @LT.lt Nat instLTNat S s.heap.objs.size := Heap.lt_size (hm _ (.head _))
  have sQ : @LT.lt Nat instLTNat Q s.heap.objs.size := Heap.lt_size (hm _ (.tail _ (.head _)))
  have hr0 := hr
  have hr' : g'.IsList ra vs.toArray := ⟨_, hb' _ _ hr, rfl, _, rfl⟩
  have hv1 : 1 ≤ vs.length := by
    rw [hvs.length]
    exact Nat.succ_le_of_lt (List.length_pos_iff.mpr hkn)
  have hrl : vs.length ≤ 1000 := by omega
  clear hr
  have he' : g'.IsList ea es.toArray := ⟨_, hb' _ _ he, rfl, _, rfl⟩
  rw [List.map_append] at hes
  obtain ⟨ei, e0, rfl, hei, hex⟩ := carried_last hes
  rw [← List.map_append] at hes
  have htz : ∀ x ∈ ti ++ [some ("z" : Str)], okTag x := fun x hx => by
    rcases List.mem_append.mp hx with hx | hx
    · exact htg x (List.mem_append.mpr (.inl hx))
    · obtain rfl := List.mem_singleton.mp hx; exact .inr (.inr (.inr rfl))
  have hez : ∀ t, CarriedAll (ei ++ [.str ("z" : Str) t]) ((ti ++ [some ("z" : Str)]).map tagD) := fun t => by
    rw [List.map_append]; exact carried_app hei (.cons (.str _ _) .nil)
  clear hg ret key hm M hb0
  (try dsimp only)
  (try k_fold)
  (repeat' (first | (k_unfold; (try dsimp only)) | (k_end; wrow_close) | ((fail_if_success (with_reducible show wpAny _ _ (call (Value.ref 208) _) _ _ _)); (fail_if_success (with_reducible show wpAny _ _ (binaryOp Operator.Add (Value.ref _) (Value.ref _)) _ _ _)); (fail_if_success (with_reducible show wpAny _ _ (subscriptTail _ _ (Value.ref _) (Value.int _ _)) _ _ _)); (fail_if_success (with_reducible show wpAny _ _ (compareOp CmpOp.NotEq (Value.ref _) (Value.ref _)) _ _ _)); (fail_if_success (with_reducible show wpAny _ _ (eval (PySem.Expr.List [PySem.Expr.Constant (Const.str (Str.ofString "z")) _ _] _) _) _ _ _)); first | ((with_reducible show wpAny _ _ (call (Value.ref 191) [_, _]) _ _ _); refine' take_use (by k_asm) (by assumption) (by repeat' (first | ((with_reducible show Two _ _ _ _ _ _); first | assumption | (refine' Two.head ?_) | (refine' Two.tail ?_ ?_ ?_)) | k_ne | assumption | (refine' OffT.app ?_ ?_) | exact List.forall_mem_nil _ | fail)) (by first | assumption | decide | omega) (by first | assumption | decide | omega) (by k_asm) (by k_asm) (by k_asm) (by k_asm) (by exact rfl) (by exact rfl) (by exact rfl) (by exact rfl) (by dsimp only [Around.deeper]; omega) (by dsimp only [Around.deeper]; omega) ?_; intro rr tt hh1 tk1 so1 qo1 F' N' hS1 rr0 rr1 U1; (try dsimp only at N' U1); (try k_sweep)) | ((with_reducible show wpAny _ _ (assign (Expr.Tuple _ _ _) _ (Value.ref _)) _ _ _); refine' kun_list (by k_asm) (by k_asm) (by exact base_list_Ch (by assumption) (by assumption)) (by exact rfl) (by exact rfl) (by exact rfl) ?_; intro _ _ _; (try k_sweep)) | walk1 | (dsimp only; walk1) | (leave1; try dsimp only))))
  all_goals try (exfalso; omega)
  · -- a kid
    (try dsimp only)
    refine' len_base ?d1 hr' ?d2 ?_
    case d1 => k_asm
    case d2 => omega
    (repeat' (first | (k_unfold; (try dsimp only)) | (k_end; wrow_close) | ((fail_if_success (with_reducible show wpAny _ _ (call (Value.ref 208) _) _ _ _)); (fail_if_success (with_reducible show wpAny _ _ (binaryOp Operator.Add (Value.ref _) (Value.ref _)) _ _ _)); (fail_if_success (with_reducible show wpAny _ _ (subscriptTail _ _ (Value.ref _) (Value.int _ _)) _ _ _)); (fail_if_success (with_reducible show wpAny _ _ (compareOp CmpOp.NotEq (Value.ref _) (Value.ref _)) _ _ _)); (fail_if_success (with_reducible show wpAny _ _ (eval (PySem.Expr.List [PySem.Expr.Constant (Const.str (Str.ofString "z")) _ _] _) _) _ _ _)); first | ((with_reducible show wpAny _ _ (call (Value.ref 191) [_, _]) _ _ _); refine' take_use (by k_asm) (by assumption) (by repeat' (first | ((with_reducible show Two _ _ _ _ _ _); first | assumption | (refine' Two.head ?_) | (refine' Two.tail ?_ ?_ ?_)) | k_ne | assumption | (refine' OffT.app ?_ ?_) | exact List.forall_mem_nil _ | fail)) (by first | assumption | decide | omega) (by first | assumption | decide | omega) (by k_asm) (by k_asm) (by k_asm) (by k_asm) (by exact rfl) (by exact rfl) (by exact rfl) (by exact rfl) (by dsimp only [Around.deeper]; omega) (by dsimp only [Around.deeper]; omega) ?_; intro rr tt hh1 tk1 so1 qo1 F' N' hS1 rr0 rr1 U1; (try dsimp only at N' U1); (try k_sweep)) | ((with_reducible show wpAny _ _ (assign (Expr.Tuple _ _ _) _ (Value.ref _)) _ _ _); refine' kun_list (by k_asm) (by k_asm) (by exact base_list_Ch (by assumption) (by assumption)) (by exact rfl) (by exact rfl) (by exact rfl) ?_; intro _ _ _; (try k_sweep)) | walk1 | (dsimp only; walk1) | (leave1; try dsimp only))))
    obtain ⟨i, rfl⟩ := Int.eq_ofNat_of_zero_le rr0
    have hil : i < vs.length := by omega
    obtain ⟨v, hv⟩ : ∃ v, vs[i]? = some v := ⟨_, List.getElem?_eq_getElem hil⟩
    obtain ⟨T, hT1, hT2⟩ := hvs.get hv
    rename News _ _ _ _ => NN
    revert NN
    rename News _ _ _ _ => NO
    intro NN
    have zS : @LT.lt Nat instLTNat S _ := Heap.lt_size (NO (S, _) (by k_mem)).1
    have zQ : @LT.lt Nat instLTNat Q _ := Heap.lt_size (NO (Q, _) (by k_mem)).1
    dsimp only at NN zS zQ ⊢
    rw [pick_upto] at NN
    clear NO
    refine item_listL (k := (i : Int)) (base_list_Ch (by k_asm) hr') (by omega) (by omega) (by simpa using hv) ?_
    (repeat' (first | (k_unfold; (try dsimp only)) | (k_end; wrow_close) | ((fail_if_success (with_reducible show wpAny _ _ (call (Value.ref 208) _) _ _ _)); (fail_if_success (with_reducible show wpAny _ _ (binaryOp Operator.Add (Value.ref _) (Value.ref _)) _ _ _)); (fail_if_success (with_reducible show wpAny _ _ (subscriptTail _ _ (Value.ref _) (Value.int _ _)) _ _ _)); (fail_if_success (with_reducible show wpAny _ _ (compareOp CmpOp.NotEq (Value.ref _) (Value.ref _)) _ _ _)); (fail_if_success (with_reducible show wpAny _ _ (eval (PySem.Expr.List [PySem.Expr.Constant (Const.str (Str.ofString "z")) _ _] _) _) _ _ _)); first | ((with_reducible show wpAny _ _ (call (Value.ref 191) [_, _]) _ _ _); refine' take_use (by k_asm) (by assumption) (by repeat' (first | ((with_reducible show Two _ _ _ _ _ _); first | assumption | (refine' Two.head ?_) | (refine' Two.tail ?_ ?_ ?_)) | k_ne | assumption | (refine' OffT.app ?_ ?_) | exact List.forall_mem_nil _ | fail)) (by first | assumption | decide | omega) (by first | assumption | decide | omega) (by k_asm) (by k_asm) (by k_asm) (by k_asm) (by exact rfl) (by exact rfl) (by exact rfl) (by exact rfl) (by dsimp only [Around.deeper]; omega) (by dsimp only [Around.deeper]; omega) ?_; intro rr tt hh1 tk1 so1 qo1 F' N' hS1 rr0 rr1 U1; (try dsimp only at N' U1); (try k_sweep)) | ((with_reducible show wpAny _ _ (assign (Expr.Tuple _ _ _) _ (Value.ref _)) _ _ _); refine' kun_list (by k_asm) (by k_asm) (by exact base_list_Ch (by assumption) (by assumption)) (by exact rfl) (by exact rfl) (by exact rfl) ?_; intro _ _ _; (try k_sweep)) | walk1 | (dsimp only; walk1) | (leave1; try dsimp only))))
    (try dsimp only)
    refine' ch_use CC hT2 (hwf _ (List.mem_of_getElem? hT1)) hb' ?c1 ?c2 ?c3 ?c4 ?c5 ?c6 ?c7 rfl rfl rfl rfl ?c8 ?c9 ?_
    case c5 => k_asm
    case c2 => assumption
    case c1 => (repeat' (first | ((with_reducible show Two _ _ _ _ _ _); first | assumption | (refine' Two.head ?_) | (refine' Two.tail ?_ ?_ ?_)) | k_ne | assumption | (refine' OffT.app ?_ ?_) | exact List.forall_mem_nil _ | fail))
    case c3 => k_asm
    case c4 => k_asm
    case c6 => k_asm
    case c7 => k_asm
    case c8 => (dsimp only [Around.deeper]; omega)
    case c9 => (dsimp only [Around.deeper]; omega)
    intro rv rV tlk hh2 tk2 so2 qo2 F6 N6 hS2 hnew rC rW rT oTk U2
    (try simp only [List.cons_append, List.nil_append] at N6 U2)
    (try k_sweep)
    (repeat' (first | (k_unfold; (try dsimp only)) | (k_end; wrow_close) | ((fail_if_success (with_reducible show wpAny _ _ (call (Value.ref 208) _) _ _ _)); (fail_if_success (with_reducible show wpAny _ _ (binaryOp Operator.Add (Value.ref _) (Value.ref _)) _ _ _)); (fail_if_success (with_reducible show wpAny _ _ (subscriptTail _ _ (Value.ref _) (Value.int _ _)) _ _ _)); (fail_if_success (with_reducible show wpAny _ _ (compareOp CmpOp.NotEq (Value.ref _) (Value.ref _)) _ _ _)); (fail_if_success (with_reducible show wpAny _ _ (eval (PySem.Expr.List [PySem.Expr.Constant (Const.str (Str.ofString "z")) _ _] _) _) _ _ _)); first | ((with_reducible show wpAny _ _ (call (Value.ref 191) [_, _]) _ _ _); refine' take_use (by k_asm) (by assumption) (by repeat' (first | ((with_reducible show Two _ _ _ _ _ _); first | assumption | (refine' Two.head ?_) | (refine' Two.tail ?_ ?_ ?_)) | k_ne | assumption | (refine' OffT.app ?_ ?_) | exact List.forall_mem_nil _ | fail)) (by first | assumption | decide | omega) (by first | assumption | decide | omega) (by k_asm) (by k_asm) (by k_asm) (by k_asm) (by exact rfl) (by exact rfl) (by exact rfl) (by exact rfl) (by dsimp only [Around.deeper]; omega) (by dsimp only [Around.deeper]; omega) ?_; intro rr tt hh1 tk1 so1 qo1 F' N' hS1 rr0 rr1 U1; (try dsimp only at N' U1); (try k_sweep)) | ((with_reducible show wpAny _ _ (assign (Expr.Tuple _ _ _) _ (Value.ref _)) _ _ _); refine' kun_list (by k_asm) (by k_asm) (by exact base_list_Ch (by assumption) (by assumption)) (by exact rfl) (by exact rfl) (by exact rfl) ?_; intro _ _ _; (try k_sweep)) | walk1 | (dsimp only; walk1) | (leave1; try dsimp only))))
    (try dsimp only)
    refine' kmk_add_lit ?aFk1 ?aNk1 ?aak1 ?abk1 rfl ?_ ?azk1
    case aNk1 => k_asm
    case aFk1 => k_asm
    case aak1 => first | exact base_list_Ch (by k_asm) (by assumption) | exact led_list (by k_asm) (by k_mem)
    case abk1 => first | exact base_list_Ch (by k_asm) (by assumption) | exact led_list (by k_asm) (by k_mem)
    case azk1 => (simp only [List.length_append, List.length_take, List.length_drop, List.length_cons, List.length_nil, sizeLine_eq]; omega)
    intro D5 h5 F5 N5 l5
    k_lt l5
    (try k_sweep)
    (repeat' (first | (k_unfold; (try dsimp only)) | (k_end; wrow_close) | ((fail_if_success (with_reducible show wpAny _ _ (call (Value.ref 208) _) _ _ _)); (fail_if_success (with_reducible show wpAny _ _ (binaryOp Operator.Add (Value.ref _) (Value.ref _)) _ _ _)); (fail_if_success (with_reducible show wpAny _ _ (subscriptTail _ _ (Value.ref _) (Value.int _ _)) _ _ _)); (fail_if_success (with_reducible show wpAny _ _ (compareOp CmpOp.NotEq (Value.ref _) (Value.ref _)) _ _ _)); (fail_if_success (with_reducible show wpAny _ _ (eval (PySem.Expr.List [PySem.Expr.Constant (Const.str (Str.ofString "z")) _ _] _) _) _ _ _)); first | ((with_reducible show wpAny _ _ (call (Value.ref 191) [_, _]) _ _ _); refine' take_use (by k_asm) (by assumption) (by repeat' (first | ((with_reducible show Two _ _ _ _ _ _); first | assumption | (refine' Two.head ?_) | (refine' Two.tail ?_ ?_ ?_)) | k_ne | assumption | (refine' OffT.app ?_ ?_) | exact List.forall_mem_nil _ | fail)) (by first | assumption | decide | omega) (by first | assumption | decide | omega) (by k_asm) (by k_asm) (by k_asm) (by k_asm) (by exact rfl) (by exact rfl) (by exact rfl) (by exact rfl) (by dsimp only [Around.deeper]; omega) (by dsimp only [Around.deeper]; omega) ?_; intro rr tt hh1 tk1 so1 qo1 F' N' hS1 rr0 rr1 U1; (try dsimp only at N' U1); (try k_sweep)) | ((with_reducible show wpAny _ _ (assign (Expr.Tuple _ _ _) _ (Value.ref _)) _ _ _); refine' kun_list (by k_asm) (by k_asm) (by exact base_list_Ch (by assumption) (by assumption)) (by exact rfl) (by exact rfl) (by exact rfl) ?_; intro _ _ _; (try k_sweep)) | walk1 | (dsimp only; walk1) | (leave1; try dsimp only))))
    rename News _ _ _ _ => NN
    revert NN
    rename News _ _ _ _ => NO
    intro NN
    have zS2 : @LT.lt Nat instLTNat S _ := Heap.lt_size (NO (S, _) (by k_mem)).1
    have zQ2 : @LT.lt Nat instLTNat Q _ := Heap.lt_size (NO (Q, _) (by k_mem)).1
    dsimp only at NN zS2 zQ2 ⊢
    rw [pick_next] at NN
    clear NO
    (try dsimp only)
    refine' kmk_add_lit ?aFk2 ?aNk2 ?aak2 ?abk2 rfl ?_ ?azk2
    case aNk2 => k_asm
    case aFk2 => k_asm
    case aak2 => first | exact base_list_Ch (by k_asm) (by assumption) | exact led_list (by k_asm) (by k_mem)
    case abk2 => first | exact base_list_Ch (by k_asm) (by assumption) | exact led_list (by k_asm) (by k_mem)
    case azk2 => (simp only [List.length_append, List.length_take, List.length_drop, List.length_cons, List.length_nil, sizeLine_eq]; omega)
    intro D5 h5 F5 N5 l5
    k_lt l5
    (try k_sweep)
    (repeat' (first | (k_unfold; (try dsimp only)) | (k_end; wrow_close) | ((fail_if_success (with_reducible show wpAny _ _ (call (Value.ref 208) _) _ _ _)); (fail_if_success (with_reducible show wpAny _ _ (binaryOp Operator.Add (Value.ref _) (Value.ref _)) _ _ _)); (fail_if_success (with_reducible show wpAny _ _ (subscriptTail _ _ (Value.ref _) (Value.int _ _)) _ _ _)); (fail_if_success (with_reducible show wpAny _ _ (compareOp CmpOp.NotEq (Value.ref _) (Value.ref _)) _ _ _)); (fail_if_success (with_reducible show wpAny _ _ (eval (PySem.Expr.List [PySem.Expr.Constant (Const.str (Str.ofString "z")) _ _] _) _) _ _ _)); first | ((with_reducible show wpAny _ _ (call (Value.ref 191) [_, _]) _ _ _); refine' take_use (by k_asm) (by assumption) (by repeat' (first | ((with_reducible show Two _ _ _ _ _ _); first | assumption | (refine' Two.head ?_) | (refine' Two.tail ?_ ?_ ?_)) | k_ne | assumption | (refine' OffT.app ?_ ?_) | exact List.forall_mem_nil _ | fail)) (by first | assumption | decide | omega) (by first | assumption | decide | omega) (by k_asm) (by k_asm) (by k_asm) (by k_asm) (by exact rfl) (by exact rfl) (by exact rfl) (by exact rfl) (by dsimp only [Around.deeper]; omega) (by dsimp only [Around.deeper]; omega) ?_; intro rr tt hh1 tk1 so1 qo1 F' N' hS1 rr0 rr1 U1; (try dsimp only at N' U1); (try k_sweep)) | ((with_reducible show wpAny _ _ (assign (Expr.Tuple _ _ _) _ (Value.ref _)) _ _ _); refine' kun_list (by k_asm) (by k_asm) (by exact base_list_Ch (by assumption) (by assumption)) (by exact rfl) (by exact rfl) (by exact rfl) ?_; intro _ _ _; (try k_sweep)) | walk1 | (dsimp only; walk1) | (leave1; try dsimp only))))
    refine' fin _ _ _ _ _ _ _ _ (.call (ti ++ [tx]) ((ks.take i ++ [rV]) ++ ks.drop (i + 1))) ?e1k ?e2k ?e3k ?e4k ?e5k ?e6k ?e7k
    case e2k => k_asm
    case e1k => k_asm
    case e4k => assumption
    case e3k => (repeat' (first | ((with_reducible show Two _ _ _ _ _ _); first | assumption | (refine' Two.head ?_) | (refine' Two.tail ?_ ?_ ?_)) | k_ne | assumption | (refine' OffT.app ?_ ?_) | exact List.forall_mem_nil _ | fail))
    case e5k => (rw [hn]; exact chg_kid_call hT1 rC)
    case e6k => (rw [hn]; exact wf_call (by simp) (by omega) (by simp) (Nat.le_trans (kids_len hkl) (by omega)) (kids_wf hwf rW) htg)
    case e7k =>
      rw [hn]
      refine' tin_call ⟨_, _, _, rfl, .inr ⟨?nk1, ?nk2, ?nk3⟩⟩ ⟨_, _, rfl, .inl he, hel⟩ hes ⟨_, _, rfl, .inr ⟨?mk1, ?mk2, ?mk3⟩, ?lk⟩ ((((All2.take i hvs).mono fun _ _ y => y.mono fun _ _ e => .inl e).append (.cons (rT.mono fun a o h => h.imp id fun h => ⟨?kt, (oTk _ h).1, (oTk _ h).2⟩) .nil)).append ((All2.drop (i + 1) hvs).mono fun _ _ y => y.mono fun _ _ e => .inl e)) ⟨_, _, rfl, .inl ha, Nat.zero_le _⟩
      case nk1 => k_mem
      case mk1 => k_mem
      case kt => (repeat (first | exact h | refine List.mem_cons_of_mem _ ?_))
      case lk => (simp; omega)
      all_goals k_ne
  · -- the last tag
    rename News _ _ _ _ => NN
    revert NN
    rename News _ _ _ _ => NO
    intro NN
    have zS : @LT.lt Nat instLTNat S _ := Heap.lt_size (NO (S, _) (by k_mem)).1
    have zQ : @LT.lt Nat instLTNat Q _ := Heap.lt_size (NO (Q, _) (by k_mem)).1
    dsimp only at NN zS zQ ⊢
    rw [pick_init] at NN
    clear NO
    walk1
    (repeat' (first | (k_unfold; (try dsimp only)) | (k_end; wrow_close) | ((fail_if_success (with_reducible show wpAny _ _ (call (Value.ref 208) _) _ _ _)); (fail_if_success (with_reducible show wpAny _ _ (binaryOp Operator.Add (Value.ref _) (Value.ref _)) _ _ _)); (fail_if_success (with_reducible show wpAny _ _ (subscriptTail _ _ (Value.ref _) (Value.int _ _)) _ _ _)); (fail_if_success (with_reducible show wpAny _ _ (compareOp CmpOp.NotEq (Value.ref _) (Value.ref _)) _ _ _)); (fail_if_success (with_reducible show wpAny _ _ (eval (PySem.Expr.List [PySem.Expr.Constant (Const.str (Str.ofString "z")) _ _] _) _) _ _ _)); first | ((with_reducible show wpAny _ _ (call (Value.ref 191) [_, _]) _ _ _); refine' take_use (by k_asm) (by assumption) (by repeat' (first | ((with_reducible show Two _ _ _ _ _ _); first | assumption | (refine' Two.head ?_) | (refine' Two.tail ?_ ?_ ?_)) | k_ne | assumption | (refine' OffT.app ?_ ?_) | exact List.forall_mem_nil _ | fail)) (by first | assumption | decide | omega) (by first | assumption | decide | omega) (by k_asm) (by k_asm) (by k_asm) (by k_asm) (by exact rfl) (by exact rfl) (by exact rfl) (by exact rfl) (by dsimp only [Around.deeper]; omega) (by dsimp only [Around.deeper]; omega) ?_; intro rr tt hh1 tk1 so1 qo1 F' N' hS1 rr0 rr1 U1; (try dsimp only at N' U1); (try k_sweep)) | ((with_reducible show wpAny _ _ (assign (Expr.Tuple _ _ _) _ (Value.ref _)) _ _ _); refine' kun_list (by k_asm) (by k_asm) (by exact base_list_Ch (by assumption) (by assumption)) (by exact rfl) (by exact rfl) (by exact rfl) ?_; intro _ _ _; (try k_sweep)) | walk1 | (dsimp only; walk1) | (leave1; try dsimp only))))
    have hel2 : ei.length ≤ 999 := by (rw [List.length_append] at hel; simp at hel; omega)
    (try dsimp only)
    refine' kmk_add_lit ?aFb ?aNb ?aab ?abb rfl ?_ ?azb
    case aNb => k_asm
    case aFb => k_asm
    case aab => first | exact base_list_Ch (by k_asm) (by assumption) | exact led_list (by k_asm) (by k_mem)
    case abb => first | exact base_list_Ch (by k_asm) (by assumption) | exact led_list (by k_asm) (by k_mem)
    case azb => (simp only [List.length_append, List.length_take, List.length_drop, List.length_cons, List.length_nil, sizeLine_eq]; omega)
    intro D5 h5 F5 N5 l5
    k_lt l5
    (try k_sweep)
    (repeat' (first | (k_unfold; (try dsimp only)) | (k_end; wrow_close) | ((fail_if_success (with_reducible show wpAny _ _ (call (Value.ref 208) _) _ _ _)); (fail_if_success (with_reducible show wpAny _ _ (binaryOp Operator.Add (Value.ref _) (Value.ref _)) _ _ _)); (fail_if_success (with_reducible show wpAny _ _ (subscriptTail _ _ (Value.ref _) (Value.int _ _)) _ _ _)); (fail_if_success (with_reducible show wpAny _ _ (compareOp CmpOp.NotEq (Value.ref _) (Value.ref _)) _ _ _)); (fail_if_success (with_reducible show wpAny _ _ (eval (PySem.Expr.List [PySem.Expr.Constant (Const.str (Str.ofString "z")) _ _] _) _) _ _ _)); first | ((with_reducible show wpAny _ _ (call (Value.ref 191) [_, _]) _ _ _); refine' take_use (by k_asm) (by assumption) (by repeat' (first | ((with_reducible show Two _ _ _ _ _ _); first | assumption | (refine' Two.head ?_) | (refine' Two.tail ?_ ?_ ?_)) | k_ne | assumption | (refine' OffT.app ?_ ?_) | exact List.forall_mem_nil _ | fail)) (by first | assumption | decide | omega) (by first | assumption | decide | omega) (by k_asm) (by k_asm) (by k_asm) (by k_asm) (by exact rfl) (by exact rfl) (by exact rfl) (by exact rfl) (by dsimp only [Around.deeper]; omega) (by dsimp only [Around.deeper]; omega) ?_; intro rr tt hh1 tk1 so1 qo1 F' N' hS1 rr0 rr1 U1; (try dsimp only at N' U1); (try k_sweep)) | ((with_reducible show wpAny _ _ (assign (Expr.Tuple _ _ _) _ (Value.ref _)) _ _ _); refine' kun_list (by k_asm) (by k_asm) (by exact base_list_Ch (by assumption) (by assumption)) (by exact rfl) (by exact rfl) (by exact rfl) ?_; intro _ _ _; (try k_sweep)) | walk1 | (dsimp only; walk1) | (leave1; try dsimp only))))
    refine' fin _ _ _ _ _ _ _ _ (.call (ti ++ [some ("z" : Str)]) ks) ?e1b ?e2b ?e3b ?e4b ?e5b ?e6b ?e7b
    case e2b => k_asm
    case e1b => k_asm
    case e4b => assumption
    case e3b => (repeat' (first | ((with_reducible show Two _ _ _ _ _ _); first | assumption | (refine' Two.head ?_) | (refine' Two.tail ?_ ?_ ?_)) | k_ne | assumption | (refine' OffT.app ?_ ?_) | exact List.forall_mem_nil _ | fail))
    case e5b => (rw [hn]; exact chg_tag_call)
    case e6b => (rw [hn]; exact wf_call (by simp) (by simp at htl ⊢; omega) hkn (by omega) (fun k hk => (hwf k hk).up) htz)
    case e7b =>
      rw [hn]
      refine' tin_call ⟨_, _, _, rfl, .inr ⟨?nb1, ?nb2, ?nb3⟩⟩ ⟨_, _, rfl, .inr ⟨?mb1, ?mb2, ?mb3⟩, ?lb⟩ (hez _) ⟨_, _, rfl, .inl hr0, hrl⟩ (hvs.mono fun _ _ y => y.mono fun _ _ e => .inl e) ⟨_, _, rfl, .inl ha, Nat.zero_le _⟩
      case nb1 => k_mem
      case mb1 => k_mem
      case lb => (rw [List.length_append]; simp; omega)
      all_goals k_ne
end Mine
end Ch

section ChA
open PySem PySem.Spec PySem.Calls PyProof.Rows PySem.W PyProof.V
namespace Mine

theorem ch_all {w : World} : ∀ n, n ≤ 5 → ChC w n := by
  intro n
  induction n with
  | zero =>
    intro hn
    constructor
    intro mean mg mb A A₁ base outs s RR S Q v T b₀ hh hd hu hA Y hS hb hT hW ret
    refine up hh hd hu hA ?_
    obtain ⟨so, qo, hS, eS, eQ⟩ := hS.get
    have hm : ∀ p ∈ [(S, so), (Q, qo)], s.heap.get? p.1 = some p.2 := List.forall_mem_cons.mpr ⟨eS, List.forall_mem_cons.mpr ⟨eQ, fun _ h => nomatch h⟩⟩
    have key : Amb w mean mg mb (AA (800 - 10 * 0) (8000 - 100 * 0) outs) base outs (hid s.heap [(S, so), (Q, qo)]) := ⟨⟨rfl, Y.B.stays, Y.B.frames⟩, Y.X, Y.T⟩
    cases T with
    | null => obtain ⟨t, rows, ats, ⟨a, t', k, rfl, M⟩, _, _⟩ := (by unfold TIn at hT; exact hT); exact ch_null hn hS hm key hb M ret
    | name x =>
      obtain ⟨t, rows, ats, ⟨a, t', k, rfl, M⟩, ⟨ra, k1, rfl, hr, _⟩, ⟨at0, k2, rfl, ha, _⟩⟩ := (by unfold TIn at hT; exact hT)
      exact ch_name hn hS hm key hb M (by unfold Wf at hW; exact hW) hr ha ret
    | vec kk r ps =>
      obtain ⟨t, rows, vs, ats, us, ⟨a, t', k, rfl, M⟩, ⟨ra, k1, rfl, hr, hrl⟩, hi, ⟨at0, k2, rfl, ha, hal⟩, hua⟩ := (by unfold TIn at hT; exact hT)
      have z := hW.vec
      exact ch_vec hn hS hm key hb M z.1 hr hrl hi z.2.1 z.2.2.1 ha hua z.2.2.2 hal ret
    | list ks ps => exact (by unfold TIn at hT; exact hT : False).elim
    | call tg ks => exact (by unfold TIn at hT; exact hT : False).elim
  | succ m IH =>
    intro hn
    have C := IH (by omega)
    constructor
    intro mean mg mb A A₁ base outs s RR S Q v T b₀ hh hd hu hA Y hS hb hT hW ret
    refine up hh hd hu hA ?_
    obtain ⟨so, qo, hS, eS, eQ⟩ := hS.get
    have hm : ∀ p ∈ [(S, so), (Q, qo)], s.heap.get? p.1 = some p.2 := List.forall_mem_cons.mpr ⟨eS, List.forall_mem_cons.mpr ⟨eQ, fun _ h => nomatch h⟩⟩
    have key : Amb w mean mg mb (AA (800 - 10 * (m + 1)) (8000 - 100 * (m + 1)) outs) base outs (hid s.heap [(S, so), (Q, qo)]) := ⟨⟨rfl, Y.B.stays, Y.B.frames⟩, Y.X, Y.T⟩
    cases T with
    | null => obtain ⟨t, rows, ats, ⟨a, t', k, rfl, M⟩, _, _⟩ := (by unfold TIn at hT; exact hT); exact ch_null hn hS hm key hb M ret
    | name x =>
      obtain ⟨t, rows, ats, ⟨a, t', k, rfl, M⟩, ⟨ra, k1, rfl, hr, _⟩, ⟨at0, k2, rfl, ha, _⟩⟩ := (by unfold TIn at hT; exact hT)
      exact ch_name hn hS hm key hb M (by unfold Wf at hW; exact hW) hr ha ret
    | vec kk r ps =>
      obtain ⟨t, rows, vs, ats, us, ⟨a, t', k, rfl, M⟩, ⟨ra, k1, rfl, hr, hrl⟩, hi, ⟨at0, k2, rfl, ha, hal⟩, hua⟩ := (by unfold TIn at hT; exact hT)
      have z := hW.vec
      exact ch_vec hn hS hm key hb M z.1 hr hrl hi z.2.1 z.2.2.1 ha hua z.2.2.2 hal ret
    | list ks ps =>
      obtain ⟨t, rows, vs, ats, us, ⟨a, t', k, rfl, M⟩, ⟨ra, k1, rfl, hr, hrl⟩, hvs, ⟨at0, k2, rfl, ha, hal⟩, hua⟩ := (by unfold TIn at hT; exact hT)
      obtain ⟨hk0, hkl, hwf, hok⟩ := (by unfold Wf at hW; exact hW)
      exact ch_list hn hS hm key hb M rfl C hr (by rw [hvs.length]; exact hkl) hkl hk0 hvs hwf ha hua hok hal ret
    | call tg ks =>
      obtain ⟨ex, es, rows, vs, ats, ⟨a, t', k, rfl, M⟩, ⟨ea, k3, rfl, he, hel⟩, hes, ⟨ra, k1, rfl, hr, hrl⟩, hvs, ⟨at0, k2, rfl, ha, _⟩⟩ := (by unfold TIn at hT; exact hT)
      obtain ⟨hk0, ht0, htl, hkl, _, hwf, hok⟩ := (by unfold Wf at hW; exact hW)
      obtain ⟨ti, tx, rfl⟩ : ∃ ti tx, tg = ti ++ [tx] := ⟨_, _, (List.dropLast_concat_getLast ht0).symm⟩
      exact ch_call hn hS hm key hb M rfl C hr (by rw [hvs.length]; exact hkl) hkl hk0 hvs hwf he hel hes htl hok ha ret
end Mine
end ChA

section LawU
open PySem PySem.Spec PySem.Calls PyProof.Rows PySem.W PyProof.V
namespace Mine
theorem tree_all {w : World} : ∀ n, n ≤ 5 → TreeC w n := by
  intro n
  induction n with
  | zero => exact fun hn => tree_step hn fun m h => by omega
  | succ m IH => exact fun hn => tree_step hn fun k h => (Nat.succ.inj h) ▸ IH (Nat.le_of_succ_le hn)
theorem news_swap {h₀ h : Heap} {L : Addr} {a b : List (Addr × Obj)} (N : News h₀ L h (a ++ b)) : News h₀ L h (b ++ a) := fun p hp => N p (by
  rcases List.mem_append.mp hp with hp | hp
  · exact List.mem_append.mpr (.inr hp)
  · exact List.mem_append.mpr (.inl hp))
/-- these objects alone -/
noncomputable def only (H : Heap) (tl : List (Addr × Obj)) : Heap := hideAll H ((List.range H.objs.size).filter fun a => !(tl.map (·.1)).contains a)
theorem only_in {H : Heap} {tl : List (Addr × Obj)} (h : ∀ p ∈ tl, H.get? p.1 = some p.2) {a : Addr} {o : Obj} (e : (only H tl).get? a = some o) : (a, o) ∈ tl := by
  have e' : H.get? a = some o := of_hideAll _ e
  by_cases q : a ∈ tl.map (·.1)
  · obtain ⟨p, hp, rfl⟩ := List.mem_map.mp q
    have := h p hp
    rw [this] at e'
    cases e'
    exact hp
  · have z : a ∈ (List.range H.objs.size).filter fun a => !(tl.map (·.1)).contains a := by
      refine List.mem_filter.mpr ⟨List.mem_range.mpr (Heap.lt_size e'), ?_⟩
      simpa using q
    have := hideAll_none _ (h := H) z
    unfold only at e
    rw [this] at e; cases e
theorem in_only {H : Heap} {tl : List (Addr × Obj)} (h : ∀ p ∈ tl, H.get? p.1 = some p.2) {a : Addr} {o : Obj} (hm : (a, o) ∈ tl) : (only H tl).get? a = some o := by
  refine hideAll_get _ (h _ hm) fun q => ?_
  have := (List.mem_filter.mp q).2
  simp only [Bool.not_eq_true', List.contains_eq_mem, decide_eq_false_iff_not] at this
  exact this (List.mem_map_of_mem (f := (·.1)) hm)
section
variable {w : World} {mean : ExcName → Option Value} {mg mb : Str → Option Value} {A₀ A : Around} {base h₀ : Heap} {outer : List Env} {L : Addr} {m : Str → Option Value} {env : Env} {news : List (Addr × Obj)} {s : Shared} {E : Value → Shared → Prop} {Q' : Value → Shared → Prop}
  {S Q : Addr} {so qo : Obj} {gl : Obj → Obj → List (Addr × Obj)}
theorem built_use2 {n : Nat} {v : Value} {b : Bool} {T : Tr} {tl : List (Addr × Obj)} (C : BuiltC w n) (hT : TIn (OnL tl) n v T) (hw : Wf 2 n T) (hsub : ∀ p ∈ tl, p ∈ news)
    (B : Below A₀ base outer h₀) (F : Fr h₀ L s.heap m) (N : News h₀ L s.heap news) (X : (hd.heap_39 w.params).In h₀) (T' : Tp mean mg mb h₀) (hA : A.frames = some (env :: outer)) (hf : env.frame = some L) (hke : env.scope.kind = .function)
    (hh : A.handled = none) (hd : A.depth ≤ 800 - 10 * n) (hu : A.units ≤ 8000 - 100 * n)
    (ret : ∀ r tl h' tk', Fr h₀ L h' m → News h₀ L h' (news ++ tl) → (∀ p ∈ tl, ∀ q ∈ news, (@Ne Nat p.1 q.1)) → VIn w (OnL tl) n r (turnIf n b T) → (IsV T → VTop w (OnL tl) n r (turnIf n b T)) → Q' r { s with heap := h', toks := tk' }) :
    wpAny (model PySem.Challenge.rw_pq1317_01.row.prog w) A (call (.ref 201) [v, .bool b]) Q' E s := by
  refine wpAny_call (C.run hh hd hu hA (amb_of (mu := []) B F News.nil X T' hA hf hke) (hT.mono fun a o e => (N _ (hsub _ e)).1) hw fun h' tk' r k x y => ?_)
  obtain ⟨tl, N', hn, ht⟩ := new_tl (h' := h') F
  exact ret r tl h' tk' (k.fr F (fun x => nomatch x) fun _ x => nomatch x) (fun p hp => by
    rcases List.mem_append.mp hp with hp | hp
    · exact k.news N (fun _ _ x => nomatch x) p hp
    · exact N' p hp) (fun p hp q hq => new_ne N hn hq p hp) (x.mono ht) fun z => (y z).mono ht
theorem ch_use2 {n : Nat} {v : Value} {T : Tr} {tt : List (Addr × Obj)} (C : ChC w n) (hT : TIn (OnL tt) n v T) (hw : Wf 1 n T) (hsub : ∀ p ∈ tt, p ∈ news) (hoff : OffT S Q tt) (U : Two S Q so qo news gl) (hS : SrcMu S Q [(S, so), (Q, qo)])
    (B : Below A₀ base outer h₀) (F : Fr h₀ L s.heap m) (N : News h₀ L s.heap news) (X : (hd.heap_39 w.params).In h₀) (T' : Tp mean mg mb h₀) (hA : A.frames = some (env :: outer)) (hf : env.frame = some L) (hke : env.scope.kind = .function)
    (hh : A.handled = none) (hd : A.depth ≤ 800 - 10 * n) (hu : A.units ≤ 8000 - 100 * n)
    (ret : ∀ r V tl h' tk' so' qo', Fr h₀ L h' m → News h₀ L h' (gl so' qo' ++ tl) → SrcMu S Q [(S, so'), (Q, qo')] → (∀ p ∈ tl, ∀ q ∈ news, (@Ne Nat p.1 q.1)) → Chg n T V → Wf 2 n V → TIn (OnL (tt ++ tl)) n r V → OffT S Q tl → Two S Q so' qo' (gl so' qo' ++ tl) (fun a b => gl a b ++ tl) → Q' r { s with heap := h', toks := tk' }) :
    wpAny (model PySem.Challenge.rw_pq1317_01.row.prog w) A (call (.ref 208) [.ref S, v]) Q' E s := by
  have hin : ∀ p ∈ tt, s.heap.get? p.1 = some p.2 := fun p hp => (N p (hsub p hp)).1
  refine wpAny_call (C.run (b₀ := only s.heap tt) hh hd hu hA (amb_two U B F N X T' hA hf hke) (Src.of hS (N _ U.split.1).1 (N _ U.split.2.1).1) (fun a o e => ?_) (hT.mono fun a o e => in_only hin e) hw fun h' tk' r V k s' c a b => ?_)
  · have hm := only_in hin e
    refine hideAll_get _ (hin _ hm) fun k => ?_
    have z := hoff _ hm
    rcases List.mem_cons.mp k with k | k
    · exact z.1 k
    · exact z.2 (List.mem_singleton.mp k)
  obtain ⟨so', qo', hS', e1, e2⟩ := s'.get
  obtain ⟨tl, N', hn, ht⟩ := new_tl (h' := h') F
  exact ret r V tl h' tk' so' qo' (U.fr F N k) (fun p hp => by
    rcases List.mem_append.mp hp with hp | hp
    · exact U.news N k e1 e2 p hp
    · exact N' p hp) hS' (fun p hp q hq => new_ne N hn hq p hp) c a (b.mono fun a o z => List.mem_append.mpr (z.imp (fun y => only_in hin y) fun y => ht a o y)) (offT_new U N hn) ((U.re so' qo').app (offT_new U N hn))
theorem ident_use {n : Nat} {x y : Value} {U V : Tr} {c : Bool} {tl : List (Addr × Obj)} (hn : n ≤ 5) (hx : VIn w (OnL tl) n x U) (hy : VIn w (OnL tl) n y V) (hc : same n U V = c) (hsub : ∀ p ∈ tl, p ∈ news)
    (B : Below A₀ base outer h₀) (F : Fr h₀ L s.heap m) (N : News h₀ L s.heap news) (X : (hd.heap_39 w.params).In h₀) (T' : Tp mean mg mb h₀) (hA : A.frames = some (env :: outer)) (hf : env.frame = some L) (hke : env.scope.kind = .function)
    (hh : A.handled = none) (hd : A.depth ≤ 800 - 10 * (10 + 5 * n)) (hu : A.units ≤ 8000 - 100 * (10 + 5 * n))
    (ret : ∀ h' tk', Fr h₀ L h' m → News h₀ L h' news → Q' (.bool c) { s with heap := h', toks := tk' }) : wpAny (model PySem.Challenge.rw_pq1317_01.row.prog w) A (call (.ref 170) [x, y]) Q' E s := by
  subst hc
  have hin : ∀ p ∈ tl, s.heap.get? p.1 = some p.2 := fun p hp => (N p (hsub p hp)).1
  exact wpAny_call ((ident_all n x y U V (only s.heap tl) hn (hx.mono fun a o e => in_only hin e) (hy.mono fun a o e => in_only hin e)).run hh hd hu hA (fun b o e => of_hideAll _ e) (amb_of (mu := []) B F News.nil X T' hA hf hke) fun h' tk' k =>
    ret h' tk' (k.fr F (fun x => nomatch x) fun _ x => nomatch x) (k.news N fun _ _ x => nomatch x))
theorem code_use {n : Nat} {x y : Value} {U V : Tr} {tl : List (Addr × Obj)} (hn : n ≤ 5) (hx : VIn w (OnL tl) n x U) (hy : VIn w (OnL tl) n y V) (hc : code n U V = true) (hsub : ∀ p ∈ tl, p ∈ news)
    (B : Below A₀ base outer h₀) (F : Fr h₀ L s.heap m) (N : News h₀ L s.heap news) (X : (hd.heap_39 w.params).In h₀) (T' : Tp mean mg mb h₀) (hA : A.frames = some (env :: outer)) (hf : env.frame = some L) (hke : env.scope.kind = .function)
    (hh : A.handled = none) (hd : A.depth ≤ 800 - 10 * (10 + 5 * n)) (hu : A.units ≤ 8000 - 100 * (10 + 5 * n))
    (ret : ∀ h' tk', Fr h₀ L h' m → News h₀ L h' news → Q' (.bool true) { s with heap := h', toks := tk' }) : wpAny (model PySem.Challenge.rw_pq1317_01.row.prog w) A (call (.ref 184) [x, y]) Q' E s := by
  have hin : ∀ p ∈ tl, s.heap.get? p.1 = some p.2 := fun p hp => (N p (hsub p hp)).1
  exact wpAny_call ((code_all n x y U V (only s.heap tl) hn (hx.mono fun a o e => in_only hin e) (hy.mono fun a o e => in_only hin e) hc).run hh hd hu hA (fun b o e => of_hideAll _ e) (amb_of (mu := []) B F News.nil X T' hA hf hke) fun h' tk' k =>
    ret h' tk' (k.fr F (fun x => nomatch x) fun _ x => nomatch x) (k.news N fun _ _ x => nomatch x))
end
theorem law_start {h₀ h : Heap} {L S Q : Addr} {p2 p4 : Addr × Obj} {c x : Int} {tc tg : Tok} {n k : Nat} {vs : List Value} {ns : List Int} {P : Prop}
    (N0 : News h₀ L h [(S, listOf #[.ref Q, .int c tc, .int (1 + x.fmod 9973) tg] n), p2, (Q, listOf (List.toArray vs) k), p4]) (hi : IntsAre vs (List.take 40 ns)) (e1 : (@Ne Nat S Q)) (e2 : (@Ne Nat p2.1 S)) (e3 : (@Ne Nat p2.1 Q)) (e4 : (@Ne Nat p4.1 S)) (e5 : (@Ne Nat p4.1 Q))
    (go : News h₀ L h [(S, listOf #[.ref Q, .int c tc, .int (1 + x.fmod 9973) tg] n), (Q, listOf (List.toArray vs) k), p2, p4] → SrcMu S Q [(S, listOf #[.ref Q, .int c tc, .int (1 + x.fmod 9973) tg] n), (Q, listOf (List.toArray vs) k)] →
      Two S Q (listOf #[.ref Q, .int c tc, .int (1 + x.fmod 9973) tg] n) (listOf (List.toArray vs) k) [(S, listOf #[.ref Q, .int c tc, .int (1 + x.fmod 9973) tg] n), (Q, listOf (List.toArray vs) k), p2, p4] (fun a b => [(S, a), (Q, b), p2, p4]) → P) : P := by
  refine go (fun p hp => N0 p ?_) (.mk hi e1 (Int.add_nonneg (by omega) (fm0 (by omega))) (by have := @fm1 x 9973 (by omega); omega) ?_) (.head ?_)
  · simp only [List.mem_cons, List.not_mem_nil, or_false] at hp ⊢
    rcases hp with h | h | h | h <;> simp [h]
  · rw [hi.length, List.length_take]; exact Nat.min_le_left _ _
  · exact List.forall_mem_cons.mpr ⟨⟨e2, e3⟩, List.forall_mem_cons.mpr ⟨⟨e4, e5⟩, fun _ h => nomatch h⟩⟩
theorem same_if_r {c n : Nat} {V T : Tr} {d : Bool} (h : Wf c n T) : same n V (turnIf n d T) = same n V T := by
  cases d
  · rfl
  · exact same_turn_r n V T h
theorem same_if_l {c n : Nat} {V T : Tr} {d : Bool} (h : Wf c n T) : same n (turnIf n d T) V = same n T V := by
  cases d
  · rfl
  · exact same_turn_l n T V h
theorem code_if_r {c n : Nat} {V T : Tr} {d : Bool} (h : Wf c n T) : code n V (turnIf n d T) = code n V T := by
  cases d
  · rfl
  · exact code_turn_r n V T h
theorem code_if_l {c n : Nat} {V T : Tr} {d : Bool} (h : Wf c n T) : code n (turnIf n d T) V = code n T V := by
  cases d
  · rfl
  · exact code_turn_l n T V h
theorem news_two {h₀ h : Heap} {L : Addr} {news : List (Addr × Obj)} {p1 p2 : Addr × Obj} (N : News h₀ L h news) (h1 : p1 ∈ news) (h2 : p2 ∈ news) : News h₀ L h (p1 :: p2 :: news) := List.forall_mem_cons.mpr ⟨N _ h1, List.forall_mem_cons.mpr ⟨N _ h2, N⟩⟩
theorem law_two {h₀ h : Heap} {L : Addr} {a b c d p1 p2 : Addr × Obj} {e lf : List (Addr × Obj)} (N : News h₀ L h (a :: b :: c :: d :: (e ++ lf))) (h1 : p1 ∈ lf) (h2 : p2 ∈ lf) : News h₀ L h (p1 :: p2 :: a :: b :: c :: d :: (e ++ lf)) :=
  news_two N (.tail _ (.tail _ (.tail _ (.tail _ (List.mem_append_right _ h1))))) (.tail _ (.tail _ (.tail _ (.tail _ (List.mem_append_right _ h2)))))
def LawQ (g : Heap) (L : Addr) (s : Shared) (fl : Flow) (s' : Shared) : Prop := fl = .ret (.bool true) ∧ ∃ h' tk' m', s' = { s with heap := h', toks := tk' } ∧ Fr g L h' m'
theorem law_mono {M : Model} {A : Around} {X : Sem Flow} {Q : Flow → Shared → Prop} {E : Value → Shared → Prop} {g : Heap} {L : Addr} {m : Str → Option Value} {s : Shared} (_F : Fr g L s.heap m) (h1 : wpAny M A X (LawQ g L s) E s)
    (h2 : ∀ h' tk' m', Fr g L h' m' → Q (.ret (.bool true)) { s with heap := h', toks := tk' }) : wpAny M A X Q E s := wpAny_mono h1 (fun _ _ h => by
      obtain ⟨rfl, h', tk', m', rfl, F⟩ := h
      exact h2 h' tk' m' F) fun _ _ e => e
theorem isv_or {w : World} {lf : List (Addr × Obj)} {n : Nat} {v : Value} {T : Tr} (h : VIn w (OnL lf) n v T) : IsV T ∨ ∃ C x dx es k, (C = 38 ∨ C = 88 ∨ C = 110) ∧ v = .ref x ∧ (x, instObj C dx) ∈ lf ∧ (dx, dictOf es k) ∈ lf := by
  cases T with
  | null => obtain ⟨x, xt, rfl, dx, es, nx, hx, hdx, _⟩ := (by unfold VIn at h; exact h); exact .inr ⟨_, _, _, _, _, .inl rfl, rfl, hx, hdx⟩
  | name y => obtain ⟨x, xt, xt', rfl, dx, es, nx, hx, hdx, _⟩ := (by unfold VIn at h; exact h); exact .inr ⟨_, _, _, _, _, .inr (.inl rfl), rfl, hx, hdx⟩
  | vec k r a => exact .inl .vec
  | list ks a => exact .inl .list
  | call t ks =>
    cases n with
    | zero => exact (by unfold VIn at h; exact h : False).elim
    | succ n => obtain ⟨x, xt, rows, vs, tags, es', rfl, ⟨dx, es, nx, hx, hdx, _⟩, _⟩ := (by unfold VIn at h; exact h); exact .inr ⟨_, _, _, _, _, .inr (.inr rfl), rfl, hx, hdx⟩
noncomputable def lcut (dx : Nat) (l : List (Addr × Obj)) : List (Addr × Obj) := l.filter fun p => !(Nat.beq p.1 dx)
theorem mem_lcut {dx : Nat} {l : List (Addr × Obj)} {p : Addr × Obj} : p ∈ lcut dx l ↔ p ∈ l ∧ (@Ne Nat p.1 dx) := by
  unfold lcut
  rw [List.mem_filter]
  refine and_congr Iff.rfl ⟨fun h e => ?_, fun h => ?_⟩
  · rw [e, show Nat.beq dx dx = true from Nat.beq_refl dx] at h; cases h
  · cases q : Nat.beq p.1 dx with
    | false => rfl
    | true => exact absurd (Nat.eq_of_beq_eq_true q) h
theorem law_split {h₀ h : Heap} {L : Addr} {a b c d p1 : Addr × Obj} {dx : Addr} {od : Obj} {tt la lb lc le lf : List (Addr × Obj)} (N : News h₀ L h (a :: b :: c :: d :: (tt ++ la ++ lb ++ lc ++ le ++ lf))) (h1 : p1 ∈ lf) (h2 : (dx, od) ∈ lf) :
    News h₀ L h (p1 :: (dx, od) :: (la ++ lcut dx lf)) := fun p hp => by
  refine N p ?_
  have mem : ∀ q ∈ lf, q ∈ a :: b :: c :: d :: (tt ++ la ++ lb ++ lc ++ le ++ lf) := fun q hq => .tail _ (.tail _ (.tail _ (.tail _ (List.mem_append_right _ hq))))
  rcases List.mem_cons.mp hp with rfl | hp
  · exact mem _ h1
  · rcases List.mem_cons.mp hp with rfl | hp
    · exact mem _ h2
    · rcases List.mem_append.mp hp with hp | hp
      · exact .tail _ (.tail _ (.tail _ (.tail _ (List.mem_append_left _ (List.mem_append_left _ (List.mem_append_left _ (List.mem_append_left _ (List.mem_append_right _ hp))))))))
      · exact mem _ (mem_lcut.mp hp).1
theorem law_off {dx : Addr} {od : Obj} {a b c d : Addr × Obj} {tt la lb lc le lf : List (Addr × Obj)} (hn : ∀ p ∈ lf, ∀ q ∈ a :: b :: c :: d :: (tt ++ la ++ lb ++ lc ++ le), (@Ne Nat p.1 q.1)) (h2 : (dx, od) ∈ lf) :
    ∀ p ∈ la ++ lcut dx lf, (@Ne Nat p.1 dx) := fun p hp => by
  rcases List.mem_append.mp hp with hp | hp
  · exact Ne.symm (hn _ h2 p (.tail _ (.tail _ (.tail _ (.tail _ (List.mem_append_left _ (List.mem_append_left _ (List.mem_append_left _ (List.mem_append_right _ hp)))))))))
  · exact (mem_lcut.mp hp).2
theorem VRest.cut {w : World} {dx : Addr} {lf : List (Addr × Obj)} {n : Nat} {T : Tr} {k : Str} {rows atv : Value} (h : VRest w (fun a o => OnL lf a o ∧ (@Ne Nat a dx)) n T k rows atv) : VRest w (OnL (lcut dx lf)) n T k rows atv :=
  h.mono fun a o z => (mem_lcut (p := (a, o))).mpr ⟨z.1, z.2⟩
theorem VRest.ats {w : World} {P : Addr → Obj → Prop} {n : Nat} {T : Tr} {k : Str} {rows atv : Value} (h : VRest w P n T k rows atv) : AtV w P atv (atsOf T) ∧ ∀ {P' : Addr → Obj → Prop} {atv' : Value} {a' : List (Str × Int)}, (∀ a o, P a o → P' a o) → AtV w P' atv' a' → VRest w P' n (setAts T a') k rows atv' := by
  cases h with
  | vec a b c d => exact ⟨d, fun up d' => .vec a (b.mono up) c d'⟩
  | list b c d => exact ⟨d, fun up d' => .list (b.mono up) (c.mono fun _ _ y => y.mono up) d'⟩
theorem law_dict {w : World} {A : Around} {E : Value → Shared → Prop} {s : Shared} {h₀ : Heap} {L d : Addr} {od : Obj} {m : Str → Option Value} {news : List (Addr × Obj)} {kvs : List (Str × Value)} {Q : Value → Shared → Prop}
    (F : Fr h₀ L s.heap m) (N : News h₀ L s.heap news) (hbig : sysModules < h₀.objs.size) (hm : (d, od) ∈ news) (lo : (d == sysModules) = false) (hd : od.IsDictOf (PySem.strKind PySem.Challenge.rw_pq1317_01.row.prog w) kvs) (hk : kvs.length ≤ 1000)
    (h : ∀ D h' o', Fr h₀ L h' m → News h₀ L h' ((D, o') :: news) → (D == sysModules) = false → o'.IsDictOf (PySem.strKind PySem.Challenge.rw_pq1317_01.row.prog w) kvs → (∀ p ∈ news, p.1 < D) → Q (.ref D) { s with heap := h' }) :
    wpAny (model PySem.Challenge.rw_pq1317_01.row.prog w) A (call (.type "dict") [.ref d]) Q E s := by
  refine kt_call_dict lo (Heap.dictOf_iff.mpr ⟨od, (N _ hm).1, hd⟩) (by rw [sizeLine_eq]; omega) fun h' hm' hs => ?_
  obtain ⟨o', ho', hd'⟩ := Heap.dictOf_iff.mp hm'
  have N1 := News.push F N { cls := .type "dict", data := .dict #[] }
  exact h _ h' o' ((F.push _).change hs (N1 _ (.head _)).2.1 (N1.fresh (.head _))) (N1.setHead N.apart hs ho') (F.notModules hbig) hd' fun p hp => Heap.lt_size (N p hp).1
set_option maxHeartbeats 1000000 in
theorem big_of {w : World} {h : Heap} (X : (hd.heap_39 w.params).In h) : sysModules < h.objs.size := by
  have go : PySem.Challenge.rw_pq1317_01 = PySem.Challenge.rw_pq1317_01 → ∃ o, (hd.heap_39 w.params).lookup 201 = some o := by
    k_fill
    intro _
    exact ⟨_, by k_is⟩
  obtain ⟨o, e⟩ := go rfl
  exact Nat.lt_of_le_of_lt (Nat.le_of_ble_eq_true rfl) (Heap.lt_size (X _ _ e))
def OrJ (w : World) (g : Heap) (L : Addr) (m : Str → Option Value) (s : Shared) (news : List (Addr × Obj)) (P : Addr → Obj → Prop) (ats : List (Str × Int)) (dx : Addr) (v : Value) (s' : Shared) : Prop :=
  ∃ d2 od2 kvs h' tk', v = .ref d2 ∧ s' = { s with heap := h', toks := tk' } ∧ Fr g L h' m ∧ News g L h' ((d2, od2) :: news) ∧ (d2 == sysModules) = false ∧ od2.IsDictOf (PySem.strKind PySem.Challenge.rw_pq1317_01.row.prog w) kvs ∧ kvs.length ≤ 1000 ∧ All2 (AtP P) kvs ats ∧ (@Ne Nat d2 dx)
theorem or_join {A : Around} {X : Sem Value} {Q : Value → Shared → Prop} {E : Value → Shared → Prop} {w : World} {g : Heap} {L dx : Addr} {m : Str → Option Value} {s : Shared} {news : List (Addr × Obj)} {P : Addr → Obj → Prop} {ats : List (Str × Int)} (_F : Fr g L s.heap m) (_N : News g L s.heap news)
    (h1 : wpAny (model PySem.Challenge.rw_pq1317_01.row.prog w) A X (OrJ w g L m s news P ats dx) E s)
    (h2 : ∀ d2 od2 kvs h' tk', Fr g L h' m → News g L h' ((d2, od2) :: news) → (d2 == sysModules) = false → od2.IsDictOf (PySem.strKind PySem.Challenge.rw_pq1317_01.row.prog w) kvs → kvs.length ≤ 1000 → All2 (AtP P) kvs ats → (@Ne Nat d2 dx) → Q (.ref d2) { s with heap := h', toks := tk' }) :
    wpAny (model PySem.Challenge.rw_pq1317_01.row.prog w) A X Q E s := wpAny_mono h1 (fun _ _ h => by
      obtain ⟨d2, od2, kvs, h', tk', rfl, rfl, a, b, c, d, e, f, g⟩ := h
      exact h2 d2 od2 kvs h' tk' a b c d e f g) fun _ _ e => e
theorem isv_more {c n : Nat} {T : Tr} (w : Wf c n T) (h : IsV T) : code n T (setAts T (atsOf T ++ [(("elsewhere" : Str), 1)])) = true ∧ same n T (setAts T (atsOf T ++ [(("elsewhere" : Str), 1)])) = false :=
  more_ats w (by cases h with | vec => exact .inl ⟨_, _, _, rfl⟩ | list => exact .inr ⟨_, _, rfl⟩)
theorem ats_else {P P' : Addr → Obj → Prop} {kvs : List (Str × Value)} {ats : List (Str × Int)} {v : Value} (h : All2 (AtP P) kvs ats) (ne : ∀ p ∈ ats, p.1 ≠ ("elsewhere" : Str)) (up : ∀ a o, P a o → P' a o) (hv : VecIn P' "integer" [1] v .none) :
    All2 (AtP P') (stored kvs ("elsewhere" : Str) v) (ats ++ [(("elsewhere" : Str), 1)]) := by
  have hva : valueAt kvs ("elsewhere" : Str) = none := by
    rcases atP_value (k := ("elsewhere" : Str)) h with z | ⟨x, v', _, z, _⟩
    · exact z.1
    · rw [at?_none fun hm => by obtain ⟨p, hp, e⟩ := List.mem_map.mp hm; exact ne p hp e] at z; cases z
  rw [stored_absent hva]
  exact (h.mono fun _ _ y => ⟨y.1, y.2.mono up⟩).append (.cons ⟨rfl, hv⟩ .nil)
theorem isv_noelse {c n : Nat} {T : Tr} (w : Wf c n T) (h : IsV T) : (∀ p ∈ atsOf T, p.1 ≠ ("elsewhere" : Str)) := by
  cases h with
  | vec => exact w.vec.2.2.2.2.2.2.1
  | list =>
    cases n with
    | zero => exact w.elim
    | succ n => exact (by unfold Wf at w; exact w.2.2.2.2.2.2.1)
theorem isv_len {c n : Nat} {T : Tr} (w : Wf c n T) (h : IsV T) : (atsOf T).length ≤ 10 * c := by
  cases h with
  | vec => exact w.vec.2.2.2.2.1
  | list =>
    cases n with
    | zero => exact w.elim
    | succ n => exact (by unfold Wf at w; exact w.2.2.2.2.1)
theorem law_three {w : World} {h₀ h : Heap} {L x dx D2 : Addr} {news lf : List (Addr × Obj)} {o5 : Obj} {k : Str} {xt t1 t2 t3 t4 t5 : Tok} {rows v : Value} {kvs : List (Str × Value)} {n : Nat} {T : Tr} (_N : News h₀ L h news)
    (hset : ∀ {P' : Addr → Obj → Prop} {atv' : Value} {a' : List (Str × Int)}, (∀ a o, OnL lf a o → P' a o) → AtV w P' atv' a' → VRest w P' n (setAts T a') k rows atv') (hsub : ∀ p ∈ lf, p ∈ news) (hD : (D2, o5) ∈ news) (lo : (D2 == sysModules) = false)
    (hd5 : o5.IsDictOf (PySem.strKind PySem.Challenge.rw_pq1317_01.row.prog w) (stored kvs ("elsewhere" : Str) v)) (ha : All2 (AtP (OnL lf)) kvs (atsOf T)) (hne : ∀ p ∈ atsOf T, p.1 ≠ ("elsewhere" : Str)) (hal : (atsOf T).length ≤ 999)
    (hv : VecIn (OnL news) "integer" [1] v .none) (h1 : (x, instObj 67 dx) ∈ news) (h2 : (dx, dictOf (vecEs w k xt rows (.ref D2) t1 t2 t3 t4 t5) 5) ∈ news) : VIn w (OnL news) n (.ref x) (setAts T (atsOf T ++ [(("elsewhere" : Str), 1)])) := by
  have z := ats_else (P' := OnL news) ha hne (fun a o h => hsub _ h) hv
  refine (hset (fun a o h => hsub _ h) (.inr ⟨D2, o5, _, rfl, hD, lo, hd5, ?_, z⟩)).vin (inst_of (P := OnL news) h1 h2)
  have := z.length
  rw [List.length_append] at this
  rw [this]
  simp only [List.length_cons, List.length_nil]
  omega
theorem va_in {w : World} {h₀ h : Heap} {L : Addr} {news la : List (Addr × Obj)} {n : Nat} {v : Value} {T : Tr} (_N : News h₀ L h news) (hsub : ∀ p ∈ la, p ∈ news) (V : VIn w (OnL la) n v T) : VIn w (OnL news) n v T := V.mono fun _ _ h => hsub _ h
theorem offT_of {S Q : Addr} {so qo : Obj} {news tl : List (Addr × Obj)} {gl : Obj → Obj → List (Addr × Obj)} (U : Two S Q so qo news gl) (h : ∀ p ∈ tl, ∀ q ∈ news, (@Ne Nat p.1 q.1)) : OffT S Q tl := fun p hp => ⟨h p hp _ U.split.1, h p hp _ U.split.2.1⟩
end Mine
end LawU

section Law
open PySem PySem.Spec PySem.Calls PyProof.Rows PySem.W PyProof.V
namespace Mine

local macro_rules | `(tactic| k_all) => `(tactic| assumption)

set_option maxHeartbeats 8000000 in
theorem law_holds : PySem.Challenge.rw_pq1317_01.Holds := by
  refine hd ?_
  k_go0
  refine law_mono (by k_asm) ?_ ?_
  rotate_left 1
  focus (
    intro h' tk' m' Fe
    (try dsimp only)
    (k_end; wrow_close))
  all_goals try k_fold
  (repeat' (first | (k_unfold; (try dsimp only)) | (k_end; wrow_close) | ((fail_if_success (with_reducible show wpAny _ _ (call (Value.ref 196) _) _ _ _)); (fail_if_success (with_reducible show wpAny _ _ (call (Value.ref 201) _) _ _ _)); (fail_if_success (with_reducible show wpAny _ _ (call (Value.ref 208) _) _ _ _)); (fail_if_success (with_reducible show wpAny _ _ (call (Value.ref 191) _) _ _ _)); (fail_if_success (with_reducible show wpAny _ _ (call (Value.ref 170) _) _ _ _)); (fail_if_success (with_reducible show wpAny _ _ (call (Value.ref 184) _) _ _ _)); (fail_if_success (with_reducible show wpAny _ _ (truthy (Value.ref _)) _ _ _)); (fail_if_success (with_reducible show wpAny _ _ (call (Value.type "dict") [_]) _ _ _)); (fail_if_success (with_reducible show wpAny _ _ (setItem _ _ _) _ _ _)); first | walk1 | (dsimp only; walk1) | (leave1; try dsimp only))))
  rename News _ _ _ _ => N0
  rename Fr _ _ _ _ => F0
  refine' law_start N0 ?hi (by k_ne) (by k_ne) (by k_ne) (by k_ne) (by k_ne) ?_
  case hi => assumption
  intro N1 hS1 U1
  clear N0
  (try dsimp only)
  refine' tree_use (tree_all 3 (by omega)) rfl N1 hS1 U1 ?z1 F0 ?z2 ?z3 rfl rfl rfl rfl ?z4 ?z5 ?_
  case z1 => k_asm
  case z2 => k_asm
  case z3 => k_asm
  case z4 => exact Nat.le_of_ble_eq_true rfl
  case z5 => exact Nat.le_of_ble_eq_true rfl
  intro tv T tt h1 tk1 so1 qo1 F1 N1' hS1' hn1 hW hT oT _
  replace N1 := news_swap N1'
  replace hS1 := hS1'
  have U2 := (U1.re so1 qo1).app oT
  clear N1' hS1' U1 F0
  (try simp only [List.cons_append, List.nil_append] at N1 U2)
  (repeat' (first | (k_unfold; (try dsimp only)) | (k_end; wrow_close) | ((fail_if_success (with_reducible show wpAny _ _ (call (Value.ref 196) _) _ _ _)); (fail_if_success (with_reducible show wpAny _ _ (call (Value.ref 201) _) _ _ _)); (fail_if_success (with_reducible show wpAny _ _ (call (Value.ref 208) _) _ _ _)); (fail_if_success (with_reducible show wpAny _ _ (call (Value.ref 191) _) _ _ _)); (fail_if_success (with_reducible show wpAny _ _ (call (Value.ref 170) _) _ _ _)); (fail_if_success (with_reducible show wpAny _ _ (call (Value.ref 184) _) _ _ _)); (fail_if_success (with_reducible show wpAny _ _ (truthy (Value.ref _)) _ _ _)); (fail_if_success (with_reducible show wpAny _ _ (call (Value.type "dict") [_]) _ _ _)); (fail_if_success (with_reducible show wpAny _ _ (setItem _ _ _) _ _ _)); first | walk1 | (dsimp only; walk1) | (leave1; try dsimp only))))
  (try dsimp only)
  refine' built_use2 (built_all 3 (by omega)) hT hW.up ?sa ?xa ?ya ?wa ?va ?ua rfl rfl rfl rfl ?ta ?ra ?_
  case wa => k_asm
  case sa => (intro p hp; repeat (first | exact hp | exact List.mem_append_left _ hp | exact List.mem_append_right _ hp | exact List.mem_append_left _ (List.mem_append_left _ hp) | exact List.mem_append_left _ (List.mem_append_right _ hp) | refine List.mem_cons_of_mem _ ?_))
  case ya => k_asm
  case xa => k_asm
  case va => k_asm
  case ua => k_asm
  case ta => exact Nat.le_of_ble_eq_true rfl
  case ra => exact Nat.le_of_ble_eq_true rfl
  intro va la ha tka Fa Na hna Va Wa
  (try simp only [List.cons_append, List.nil_append] at Na)
  have U3 := U2.app (offT_of U2 hna)
  (try simp only [List.cons_append, List.nil_append] at U3)
  clear U2
  (repeat' (first | (k_unfold; (try dsimp only)) | (k_end; wrow_close) | ((fail_if_success (with_reducible show wpAny _ _ (call (Value.ref 196) _) _ _ _)); (fail_if_success (with_reducible show wpAny _ _ (call (Value.ref 201) _) _ _ _)); (fail_if_success (with_reducible show wpAny _ _ (call (Value.ref 208) _) _ _ _)); (fail_if_success (with_reducible show wpAny _ _ (call (Value.ref 191) _) _ _ _)); (fail_if_success (with_reducible show wpAny _ _ (call (Value.ref 170) _) _ _ _)); (fail_if_success (with_reducible show wpAny _ _ (call (Value.ref 184) _) _ _ _)); (fail_if_success (with_reducible show wpAny _ _ (truthy (Value.ref _)) _ _ _)); (fail_if_success (with_reducible show wpAny _ _ (call (Value.type "dict") [_]) _ _ _)); (fail_if_success (with_reducible show wpAny _ _ (setItem _ _ _) _ _ _)); first | walk1 | (dsimp only; walk1) | (leave1; try dsimp only))))
  (try dsimp only)
  refine' built_use2 (built_all 3 (by omega)) hT hW.up ?sb ?xb ?yb ?wb ?vb ?ub rfl rfl rfl rfl ?tb ?rb ?_
  case wb => k_asm
  case sb => (intro p hp; repeat (first | exact hp | exact List.mem_append_left _ hp | exact List.mem_append_right _ hp | exact List.mem_append_left _ (List.mem_append_left _ hp) | exact List.mem_append_left _ (List.mem_append_right _ hp) | refine List.mem_cons_of_mem _ ?_))
  case yb => k_asm
  case xb => k_asm
  case vb => k_asm
  case ub => k_asm
  case tb => exact Nat.le_of_ble_eq_true rfl
  case rb => exact Nat.le_of_ble_eq_true rfl
  intro vb lb hb tkb Fb Nb hnb Vb Wb
  (try simp only [List.cons_append, List.nil_append] at Nb)
  have U4 := U3.app (offT_of U3 hnb)
  (try simp only [List.cons_append, List.nil_append] at U4)
  clear U3
  (repeat' (first | (k_unfold; (try dsimp only)) | (k_end; wrow_close) | ((fail_if_success (with_reducible show wpAny _ _ (call (Value.ref 196) _) _ _ _)); (fail_if_success (with_reducible show wpAny _ _ (call (Value.ref 201) _) _ _ _)); (fail_if_success (with_reducible show wpAny _ _ (call (Value.ref 208) _) _ _ _)); (fail_if_success (with_reducible show wpAny _ _ (call (Value.ref 191) _) _ _ _)); (fail_if_success (with_reducible show wpAny _ _ (call (Value.ref 170) _) _ _ _)); (fail_if_success (with_reducible show wpAny _ _ (call (Value.ref 184) _) _ _ _)); (fail_if_success (with_reducible show wpAny _ _ (truthy (Value.ref _)) _ _ _)); (fail_if_success (with_reducible show wpAny _ _ (call (Value.type "dict") [_]) _ _ _)); (fail_if_success (with_reducible show wpAny _ _ (setItem _ _ _) _ _ _)); first | walk1 | (dsimp only; walk1) | (leave1; try dsimp only))))
  (try dsimp only)
  refine' ch_use2 (ch_all 3 (by omega)) hT hW ?sc oT U4 hS1 ?xc ?yc ?wc ?vc ?uc rfl rfl rfl rfl ?tc ?rc ?_
  case wc => k_asm
  case sc => (intro p hp; repeat (first | exact hp | exact List.mem_append_left _ hp | exact List.mem_append_right _ hp | exact List.mem_append_left _ (List.mem_append_left _ hp) | refine List.mem_cons_of_mem _ ?_))
  case yc => k_asm
  case xc => k_asm
  case vc => k_asm
  case uc => k_asm
  case tc => exact Nat.le_of_ble_eq_true rfl
  case rc => exact Nat.le_of_ble_eq_true rfl
  intro cv T' lc hc tkc so2 qo2 Fc Nc hS2 hnc hC hW2 hTc oTc U5
  (try simp only [List.cons_append, List.nil_append] at Nc U5)
  clear U4
  (repeat' (first | (k_unfold; (try dsimp only)) | (k_end; wrow_close) | ((fail_if_success (with_reducible show wpAny _ _ (call (Value.ref 196) _) _ _ _)); (fail_if_success (with_reducible show wpAny _ _ (call (Value.ref 201) _) _ _ _)); (fail_if_success (with_reducible show wpAny _ _ (call (Value.ref 208) _) _ _ _)); (fail_if_success (with_reducible show wpAny _ _ (call (Value.ref 191) _) _ _ _)); (fail_if_success (with_reducible show wpAny _ _ (call (Value.ref 170) _) _ _ _)); (fail_if_success (with_reducible show wpAny _ _ (call (Value.ref 184) _) _ _ _)); (fail_if_success (with_reducible show wpAny _ _ (truthy (Value.ref _)) _ _ _)); (fail_if_success (with_reducible show wpAny _ _ (call (Value.type "dict") [_]) _ _ _)); (fail_if_success (with_reducible show wpAny _ _ (setItem _ _ _) _ _ _)); first | walk1 | (dsimp only; walk1) | (leave1; try dsimp only))))
  (try dsimp only)
  refine' take_use Nc hS2 U5 (by omega) (by omega) ?xd Fc ?vd ?ud rfl rfl rfl rfl ?td ?rd ?_
  case xd => k_asm
  case vd => k_asm
  case ud => k_asm
  case td => exact Nat.le_of_ble_eq_true rfl
  case rd => exact Nat.le_of_ble_eq_true rfl
  intro rr rt hd1 tkd so3 qo3 Fd Nd hS3 rr0 rr1 U6
  (try dsimp only at Nd U6)
  clear U5 Fc Nc
  (repeat' (first | (k_unfold; (try dsimp only)) | (k_end; wrow_close) | ((fail_if_success (with_reducible show wpAny _ _ (call (Value.ref 196) _) _ _ _)); (fail_if_success (with_reducible show wpAny _ _ (call (Value.ref 201) _) _ _ _)); (fail_if_success (with_reducible show wpAny _ _ (call (Value.ref 208) _) _ _ _)); (fail_if_success (with_reducible show wpAny _ _ (call (Value.ref 191) _) _ _ _)); (fail_if_success (with_reducible show wpAny _ _ (call (Value.ref 170) _) _ _ _)); (fail_if_success (with_reducible show wpAny _ _ (call (Value.ref 184) _) _ _ _)); (fail_if_success (with_reducible show wpAny _ _ (truthy (Value.ref _)) _ _ _)); (fail_if_success (with_reducible show wpAny _ _ (call (Value.type "dict") [_]) _ _ _)); (fail_if_success (with_reducible show wpAny _ _ (setItem _ _ _) _ _ _)); first | walk1 | (dsimp only; walk1) | (leave1; try dsimp only))))
  (try dsimp only)
  refine' built_use2 (built_all 3 (by omega)) hTc hW2 ?se ?xe ?ye ?we ?ve ?ue rfl rfl rfl rfl ?te ?re ?_
  case we => k_asm
  case ye => k_asm
  case xe => k_asm
  case ve => k_asm
  case ue => k_asm
  case te => exact Nat.le_of_ble_eq_true rfl
  case re => exact Nat.le_of_ble_eq_true rfl
  case se => (intro p hp; simp only [List.mem_cons, List.mem_append] at hp ⊢; rcases hp with h | h <;> simp [h])
  intro ve le he tke Fx Nx hne Ve We
  (try simp only [List.cons_append, List.nil_append] at Nx)
  clear Fd Nd U6 hS3 hS2 hS1
  have Va0 := Va
  replace Va : VIn _ (OnL (la ++ (lb ++ le))) 3 va (turnIf 3 false T) := Va.mono fun a o h => List.mem_append.mpr (.inl h)
  replace Vb : VIn _ (OnL (la ++ (lb ++ le))) 3 vb (turnIf 3 true T) := Vb.mono fun a o h => List.mem_append.mpr (.inr (List.mem_append.mpr (.inl h)))
  replace Ve : VIn _ (OnL (la ++ (lb ++ le))) 3 ve (turnIf 3 (rr == 1) T') := Ve.mono fun a o h => List.mem_append.mpr (.inr (List.mem_append.mpr (.inr h)))
  have cc := chg_ne 3 T T' hW hC

  (repeat' (first | (k_unfold; (try dsimp only)) | (k_end; wrow_close) | ((fail_if_success (with_reducible show wpAny _ _ (call (Value.ref 196) _) _ _ _)); (fail_if_success (with_reducible show wpAny _ _ (call (Value.ref 201) _) _ _ _)); (fail_if_success (with_reducible show wpAny _ _ (call (Value.ref 208) _) _ _ _)); (fail_if_success (with_reducible show wpAny _ _ (call (Value.ref 191) _) _ _ _)); (fail_if_success (with_reducible show wpAny _ _ (call (Value.ref 170) _) _ _ _)); (fail_if_success (with_reducible show wpAny _ _ (call (Value.ref 184) _) _ _ _)); (fail_if_success (with_reducible show wpAny _ _ (truthy (Value.ref _)) _ _ _)); (fail_if_success (with_reducible show wpAny _ _ (call (Value.type "dict") [_]) _ _ _)); (fail_if_success (with_reducible show wpAny _ _ (setItem _ _ _) _ _ _)); first | walk1 | (dsimp only; walk1) | (leave1; try dsimp only))))
  (try dsimp only)
  refine' ident_use (by omega) Va Vb ((same_if_l (d := false) hW).trans ((same_if_r (d := true) hW).trans (same_refl 3 T hW))) ?s1 ?x1 ?y1 ?w1 ?v1 ?u1 rfl rfl rfl rfl ?t1 ?r1 ?_
  case w1 => k_asm
  case y1 => k_asm
  case x1 => k_asm
  case v1 => k_asm
  case u1 => k_asm
  case t1 => exact Nat.le_of_ble_eq_true rfl
  case r1 => exact Nat.le_of_ble_eq_true rfl
  case s1 => (intro p hp; simp only [List.mem_cons, List.mem_append] at hp ⊢; rcases hp with h | h | h <;> simp [h])
  intro h1 tk1 F1 N1
  (try k_sweep)
  (repeat' (first | (k_unfold; (try dsimp only)) | (k_end; wrow_close) | ((fail_if_success (with_reducible show wpAny _ _ (call (Value.ref 196) _) _ _ _)); (fail_if_success (with_reducible show wpAny _ _ (call (Value.ref 201) _) _ _ _)); (fail_if_success (with_reducible show wpAny _ _ (call (Value.ref 208) _) _ _ _)); (fail_if_success (with_reducible show wpAny _ _ (call (Value.ref 191) _) _ _ _)); (fail_if_success (with_reducible show wpAny _ _ (call (Value.ref 170) _) _ _ _)); (fail_if_success (with_reducible show wpAny _ _ (call (Value.ref 184) _) _ _ _)); (fail_if_success (with_reducible show wpAny _ _ (truthy (Value.ref _)) _ _ _)); (fail_if_success (with_reducible show wpAny _ _ (call (Value.type "dict") [_]) _ _ _)); (fail_if_success (with_reducible show wpAny _ _ (setItem _ _ _) _ _ _)); first | walk1 | (dsimp only; walk1) | (leave1; try dsimp only))))
  (try dsimp only)
  refine' ident_use (by omega) Vb Va ((same_if_l (d := true) hW).trans ((same_if_r (d := false) hW).trans (same_refl 3 T hW))) ?s2 ?x2 ?y2 ?w2 ?v2 ?u2 rfl rfl rfl rfl ?t2 ?r2 ?_
  case w2 => k_asm
  case y2 => k_asm
  case x2 => k_asm
  case v2 => k_asm
  case u2 => k_asm
  case t2 => exact Nat.le_of_ble_eq_true rfl
  case r2 => exact Nat.le_of_ble_eq_true rfl
  case s2 => (intro p hp; simp only [List.mem_cons, List.mem_append] at hp ⊢; rcases hp with h | h | h <;> simp [h])
  intro h2 tk2 F2 N2
  (try k_sweep)
  (repeat' (first | (k_unfold; (try dsimp only)) | (k_end; wrow_close) | ((fail_if_success (with_reducible show wpAny _ _ (call (Value.ref 196) _) _ _ _)); (fail_if_success (with_reducible show wpAny _ _ (call (Value.ref 201) _) _ _ _)); (fail_if_success (with_reducible show wpAny _ _ (call (Value.ref 208) _) _ _ _)); (fail_if_success (with_reducible show wpAny _ _ (call (Value.ref 191) _) _ _ _)); (fail_if_success (with_reducible show wpAny _ _ (call (Value.ref 170) _) _ _ _)); (fail_if_success (with_reducible show wpAny _ _ (call (Value.ref 184) _) _ _ _)); (fail_if_success (with_reducible show wpAny _ _ (truthy (Value.ref _)) _ _ _)); (fail_if_success (with_reducible show wpAny _ _ (call (Value.type "dict") [_]) _ _ _)); (fail_if_success (with_reducible show wpAny _ _ (setItem _ _ _) _ _ _)); first | walk1 | (dsimp only; walk1) | (leave1; try dsimp only))))
  (try dsimp only)
  refine' ident_use (by omega) Va Va ((same_if_l (d := false) hW).trans ((same_if_r (d := false) hW).trans (same_refl 3 T hW))) ?s3 ?x3 ?y3 ?w3 ?v3 ?u3 rfl rfl rfl rfl ?t3 ?r3 ?_
  case w3 => k_asm
  case y3 => k_asm
  case x3 => k_asm
  case v3 => k_asm
  case u3 => k_asm
  case t3 => exact Nat.le_of_ble_eq_true rfl
  case r3 => exact Nat.le_of_ble_eq_true rfl
  case s3 => (intro p hp; simp only [List.mem_cons, List.mem_append] at hp ⊢; rcases hp with h | h | h <;> simp [h])
  intro h3 tk3 F3 N3
  (try k_sweep)
  (repeat' (first | (k_unfold; (try dsimp only)) | (k_end; wrow_close) | ((fail_if_success (with_reducible show wpAny _ _ (call (Value.ref 196) _) _ _ _)); (fail_if_success (with_reducible show wpAny _ _ (call (Value.ref 201) _) _ _ _)); (fail_if_success (with_reducible show wpAny _ _ (call (Value.ref 208) _) _ _ _)); (fail_if_success (with_reducible show wpAny _ _ (call (Value.ref 191) _) _ _ _)); (fail_if_success (with_reducible show wpAny _ _ (call (Value.ref 170) _) _ _ _)); (fail_if_success (with_reducible show wpAny _ _ (call (Value.ref 184) _) _ _ _)); (fail_if_success (with_reducible show wpAny _ _ (truthy (Value.ref _)) _ _ _)); (fail_if_success (with_reducible show wpAny _ _ (call (Value.type "dict") [_]) _ _ _)); (fail_if_success (with_reducible show wpAny _ _ (setItem _ _ _) _ _ _)); first | walk1 | (dsimp only; walk1) | (leave1; try dsimp only))))
  (try dsimp only)
  refine' ident_use (by omega) Va Ve ((same_if_l (d := false) hW).trans ((same_if_r hW2).trans cc.1)) ?s4 ?x4 ?y4 ?w4 ?v4 ?u4 rfl rfl rfl rfl ?t4 ?r4 ?_
  case w4 => k_asm
  case y4 => k_asm
  case x4 => k_asm
  case v4 => k_asm
  case u4 => k_asm
  case t4 => exact Nat.le_of_ble_eq_true rfl
  case r4 => exact Nat.le_of_ble_eq_true rfl
  case s4 => (intro p hp; simp only [List.mem_cons, List.mem_append] at hp ⊢; rcases hp with h | h | h <;> simp [h])
  intro h4 tk4 F4 N4
  (try k_sweep)
  (repeat' (first | (k_unfold; (try dsimp only)) | (k_end; wrow_close) | ((fail_if_success (with_reducible show wpAny _ _ (call (Value.ref 196) _) _ _ _)); (fail_if_success (with_reducible show wpAny _ _ (call (Value.ref 201) _) _ _ _)); (fail_if_success (with_reducible show wpAny _ _ (call (Value.ref 208) _) _ _ _)); (fail_if_success (with_reducible show wpAny _ _ (call (Value.ref 191) _) _ _ _)); (fail_if_success (with_reducible show wpAny _ _ (call (Value.ref 170) _) _ _ _)); (fail_if_success (with_reducible show wpAny _ _ (call (Value.ref 184) _) _ _ _)); (fail_if_success (with_reducible show wpAny _ _ (truthy (Value.ref _)) _ _ _)); (fail_if_success (with_reducible show wpAny _ _ (call (Value.type "dict") [_]) _ _ _)); (fail_if_success (with_reducible show wpAny _ _ (setItem _ _ _) _ _ _)); first | walk1 | (dsimp only; walk1) | (leave1; try dsimp only))))
  (try dsimp only)
  refine' ident_use (by omega) Ve Va ((same_if_l hW2).trans ((same_if_r (d := false) hW).trans cc.2)) ?s5 ?x5 ?y5 ?w5 ?v5 ?u5 rfl rfl rfl rfl ?t5 ?r5 ?_
  case w5 => k_asm
  case y5 => k_asm
  case x5 => k_asm
  case v5 => k_asm
  case u5 => k_asm
  case t5 => exact Nat.le_of_ble_eq_true rfl
  case r5 => exact Nat.le_of_ble_eq_true rfl
  case s5 => (intro p hp; simp only [List.mem_cons, List.mem_append] at hp ⊢; rcases hp with h | h | h <;> simp [h])
  intro h5 tk5 F5 N5
  (try k_sweep)
  (repeat' (first | (k_unfold; (try dsimp only)) | (k_end; wrow_close) | ((fail_if_success (with_reducible show wpAny _ _ (call (Value.ref 196) _) _ _ _)); (fail_if_success (with_reducible show wpAny _ _ (call (Value.ref 201) _) _ _ _)); (fail_if_success (with_reducible show wpAny _ _ (call (Value.ref 208) _) _ _ _)); (fail_if_success (with_reducible show wpAny _ _ (call (Value.ref 191) _) _ _ _)); (fail_if_success (with_reducible show wpAny _ _ (call (Value.ref 170) _) _ _ _)); (fail_if_success (with_reducible show wpAny _ _ (call (Value.ref 184) _) _ _ _)); (fail_if_success (with_reducible show wpAny _ _ (truthy (Value.ref _)) _ _ _)); (fail_if_success (with_reducible show wpAny _ _ (call (Value.type "dict") [_]) _ _ _)); (fail_if_success (with_reducible show wpAny _ _ (setItem _ _ _) _ _ _)); first | walk1 | (dsimp only; walk1) | (leave1; try dsimp only))))
  (try dsimp only)
  refine' ident_use (by omega) Ve Vb ((same_if_l hW2).trans ((same_if_r (d := true) hW).trans cc.2)) ?s6 ?x6 ?y6 ?w6 ?v6 ?u6 rfl rfl rfl rfl ?t6 ?r6 ?_
  case w6 => k_asm
  case y6 => k_asm
  case x6 => k_asm
  case v6 => k_asm
  case u6 => k_asm
  case t6 => exact Nat.le_of_ble_eq_true rfl
  case r6 => exact Nat.le_of_ble_eq_true rfl
  case s6 => (intro p hp; simp only [List.mem_cons, List.mem_append] at hp ⊢; rcases hp with h | h | h <;> simp [h])
  intro h6 tk6 F6 N6
  (try k_sweep)
  (repeat' (first | (k_unfold; (try dsimp only)) | (k_end; wrow_close) | ((fail_if_success (with_reducible show wpAny _ _ (call (Value.ref 196) _) _ _ _)); (fail_if_success (with_reducible show wpAny _ _ (call (Value.ref 201) _) _ _ _)); (fail_if_success (with_reducible show wpAny _ _ (call (Value.ref 208) _) _ _ _)); (fail_if_success (with_reducible show wpAny _ _ (call (Value.ref 191) _) _ _ _)); (fail_if_success (with_reducible show wpAny _ _ (call (Value.ref 170) _) _ _ _)); (fail_if_success (with_reducible show wpAny _ _ (call (Value.ref 184) _) _ _ _)); (fail_if_success (with_reducible show wpAny _ _ (truthy (Value.ref _)) _ _ _)); (fail_if_success (with_reducible show wpAny _ _ (call (Value.type "dict") [_]) _ _ _)); (fail_if_success (with_reducible show wpAny _ _ (setItem _ _ _) _ _ _)); first | walk1 | (dsimp only; walk1) | (leave1; try dsimp only))))
  (try dsimp only)
  refine' code_use (by omega) Va Vb ((code_if_l (d := false) hW).trans ((code_if_r (d := true) hW).trans (code_refl 3 T hW))) ?s7 ?x7 ?y7 ?w7 ?v7 ?u7 rfl rfl rfl rfl ?t7 ?r7 ?_
  case w7 => k_asm
  case y7 => k_asm
  case x7 => k_asm
  case v7 => k_asm
  case u7 => k_asm
  case t7 => exact Nat.le_of_ble_eq_true rfl
  case r7 => exact Nat.le_of_ble_eq_true rfl
  case s7 => (intro p hp; simp only [List.mem_cons, List.mem_append] at hp ⊢; rcases hp with h | h | h <;> simp [h])
  intro h7 tk7 F7 N7
  (try k_sweep)
  (repeat' (first | (k_unfold; (try dsimp only)) | (k_end; wrow_close) | ((fail_if_success (with_reducible show wpAny _ _ (call (Value.ref 196) _) _ _ _)); (fail_if_success (with_reducible show wpAny _ _ (call (Value.ref 201) _) _ _ _)); (fail_if_success (with_reducible show wpAny _ _ (call (Value.ref 208) _) _ _ _)); (fail_if_success (with_reducible show wpAny _ _ (call (Value.ref 191) _) _ _ _)); (fail_if_success (with_reducible show wpAny _ _ (call (Value.ref 170) _) _ _ _)); (fail_if_success (with_reducible show wpAny _ _ (call (Value.ref 184) _) _ _ _)); (fail_if_success (with_reducible show wpAny _ _ (truthy (Value.ref _)) _ _ _)); (fail_if_success (with_reducible show wpAny _ _ (call (Value.type "dict") [_]) _ _ _)); (fail_if_success (with_reducible show wpAny _ _ (setItem _ _ _) _ _ _)); first | walk1 | (dsimp only; walk1) | (leave1; try dsimp only))))
  (try dsimp only)
  refine' code_use (by omega) Vb Va ((code_if_l (d := true) hW).trans ((code_if_r (d := false) hW).trans (code_refl 3 T hW))) ?s8 ?x8 ?y8 ?w8 ?v8 ?u8 rfl rfl rfl rfl ?t8 ?r8 ?_
  case w8 => k_asm
  case y8 => k_asm
  case x8 => k_asm
  case v8 => k_asm
  case u8 => k_asm
  case t8 => exact Nat.le_of_ble_eq_true rfl
  case r8 => exact Nat.le_of_ble_eq_true rfl
  case s8 => (intro p hp; simp only [List.mem_cons, List.mem_append] at hp ⊢; rcases hp with h | h | h <;> simp [h])
  intro h8 tk8 F8 N8
  (try k_sweep)
  (repeat' (first | (k_unfold; (try dsimp only)) | (k_end; wrow_close) | ((fail_if_success (with_reducible show wpAny _ _ (call (Value.ref 196) _) _ _ _)); (fail_if_success (with_reducible show wpAny _ _ (call (Value.ref 201) _) _ _ _)); (fail_if_success (with_reducible show wpAny _ _ (call (Value.ref 208) _) _ _ _)); (fail_if_success (with_reducible show wpAny _ _ (call (Value.ref 191) _) _ _ _)); (fail_if_success (with_reducible show wpAny _ _ (call (Value.ref 170) _) _ _ _)); (fail_if_success (with_reducible show wpAny _ _ (call (Value.ref 184) _) _ _ _)); (fail_if_success (with_reducible show wpAny _ _ (truthy (Value.ref _)) _ _ _)); (fail_if_success (with_reducible show wpAny _ _ (call (Value.type "dict") [_]) _ _ _)); (fail_if_success (with_reducible show wpAny _ _ (setItem _ _ _) _ _ _)); first | walk1 | (dsimp only; walk1) | (leave1; try dsimp only))))
  (try dsimp only)
  refine' built_use2 (built_all 3 (by omega)) hT hW.up ?sf ?xf ?yf ?wf ?vf ?uf rfl rfl rfl rfl ?tf ?rf ?_
  case wf => k_asm
  case yf => k_asm
  case xf => k_asm
  case vf => k_asm
  case uf => k_asm
  case tf => exact Nat.le_of_ble_eq_true rfl
  case rf => exact Nat.le_of_ble_eq_true rfl
  case sf => (intro p hp; simp only [List.mem_cons, List.mem_append]; simp [hp])
  intro vf lf hf tkf Ff Nf hnf Vf Wf
  (try simp only [List.cons_append, List.nil_append] at Nf)
  (try k_sweep)
  rcases isv_or Vf with hv | ⟨C, x, dx, es, nx, hC, rfl, hx, hdx⟩
  rotate_left 1
  focus (
    replace Nf := law_two Nf hx hdx
    clear Va Vb Ve We Vf Wf hnf hne cc hTc hW2 hW hn1 oT hna hnb hnc oTc hx hdx Wa Wb
    rcases hC with rfl | rfl | rfl
    all_goals (
      (repeat' (first | (k_unfold; (try dsimp only)) | (k_end; wrow_close) | ((fail_if_success (with_reducible show wpAny _ _ (call (Value.ref 196) _) _ _ _)); (fail_if_success (with_reducible show wpAny _ _ (call (Value.ref 201) _) _ _ _)); (fail_if_success (with_reducible show wpAny _ _ (call (Value.ref 208) _) _ _ _)); (fail_if_success (with_reducible show wpAny _ _ (call (Value.ref 191) _) _ _ _)); (fail_if_success (with_reducible show wpAny _ _ (call (Value.ref 170) _) _ _ _)); (fail_if_success (with_reducible show wpAny _ _ (call (Value.ref 184) _) _ _ _)); (fail_if_success (with_reducible show wpAny _ _ (truthy (Value.ref _)) _ _ _)); (fail_if_success (with_reducible show wpAny _ _ (call (Value.type "dict") [_]) _ _ _)); (fail_if_success (with_reducible show wpAny _ _ (setItem _ _ _) _ _ _)); first | walk1 | (dsimp only; walk1) | (leave1; try dsimp only))))
      exact ⟨rfl, _, _, _, rfl, by k_asm⟩))
  obtain ⟨x, dx, k, xt, rows, atv, t1, t2, t3, t4, t5, rfl, hx, hdx, hne', hR⟩ := Wf hv
  replace hR := VRest.cut hR
  have hbig := big_of (by assumption : (hd.heap_39 _).In _)
  have NX := law_split Nf hx hdx
  have hoff := law_off hnf hdx
  dsimp only [vecEs] at NX
  obtain ⟨hAt, hset⟩ := hR.ats
  have hT0 : turnIf 3 false T = T := rfl
  rw [hT0] at hAt
  simp only [hT0] at hset
  have hmo := isv_more hW hv
  have hnoe := isv_noelse hW hv
  have hale := isv_len hW hv
  clear Nf hnf hx hdx Ve We Va Vb Wa Wb Wf Vf hR hn1 hW2 hTc hna hnb hnc oTc oT hC cc hv hW
  (repeat' (first | (k_unfold; (try dsimp only)) | (k_end; wrow_close) | ((fail_if_success (with_reducible show wpAny _ _ (eval (PySem.Expr.BoolOp _ _ _) _) _ _ _)); (fail_if_success (with_reducible show wpAny _ _ (truthy (Value.ref _)) _ _ _)); first | walk1 | (dsimp only; walk1) | (leave1; try dsimp only))))
  rename News _ _ _ _ => Nz
  rename Fr _ _ _ _ => Fz
  refine or_join (P := OnL (lcut dx lf)) (ats := atsOf T) (dx := dx) Fz Nz ?_ ?_
  focus (
    rcases hAt with ⟨ha, rfl⟩ | ⟨d, od, kvs, rfl, hd', hlo, hod, hkl, hka⟩
    · walk1
      (repeat' (first | (k_unfold; (try dsimp only)) | (k_end; wrow_close) | ((fail_if_success (with_reducible show wpAny _ _ (call (Value.ref 196) _) _ _ _)); (fail_if_success (with_reducible show wpAny _ _ (call (Value.ref 201) _) _ _ _)); (fail_if_success (with_reducible show wpAny _ _ (call (Value.ref 208) _) _ _ _)); (fail_if_success (with_reducible show wpAny _ _ (call (Value.ref 191) _) _ _ _)); (fail_if_success (with_reducible show wpAny _ _ (call (Value.ref 170) _) _ _ _)); (fail_if_success (with_reducible show wpAny _ _ (call (Value.ref 184) _) _ _ _)); (fail_if_success (with_reducible show wpAny _ _ (truthy (Value.ref _)) _ _ _)); (fail_if_success (with_reducible show wpAny _ _ (call (Value.type "dict") [_]) _ _ _)); (fail_if_success (with_reducible show wpAny _ _ (setItem _ _ _) _ _ _)); first | walk1 | (dsimp only; walk1) | (leave1; try dsimp only))))
      rename Obj.IsDictOf _ _ _ => hdi
      clear hdi
      rename Obj.IsDictOf _ _ _ => hds
      rename (_ == sysModules) = false => hlo
      exact ⟨_, _, [], _, _, rfl, rfl, by k_asm, by k_asm, hlo, hds, Nat.zero_le _, (by rw [show atsOf T = [] from ha]; exact .nil), by k_ne⟩
    · have hddx := hoff _ (List.mem_append_right _ hd')
      dsimp only at hddx
      walk1
      (repeat' (first | (k_unfold; (try dsimp only)) | (k_end; wrow_close) | ((fail_if_success (with_reducible show wpAny _ _ (call (Value.ref 196) _) _ _ _)); (fail_if_success (with_reducible show wpAny _ _ (call (Value.ref 201) _) _ _ _)); (fail_if_success (with_reducible show wpAny _ _ (call (Value.ref 208) _) _ _ _)); (fail_if_success (with_reducible show wpAny _ _ (call (Value.ref 191) _) _ _ _)); (fail_if_success (with_reducible show wpAny _ _ (call (Value.ref 170) _) _ _ _)); (fail_if_success (with_reducible show wpAny _ _ (call (Value.ref 184) _) _ _ _)); (fail_if_success (with_reducible show wpAny _ _ (truthy (Value.ref _)) _ _ _)); (fail_if_success (with_reducible show wpAny _ _ (call (Value.type "dict") [_]) _ _ _)); (fail_if_success (with_reducible show wpAny _ _ (setItem _ _ _) _ _ _)); first | walk1 | (dsimp only; walk1) | (leave1; try dsimp only))))
      rename News _ _ _ _ => Nw
      refine wpAny_truthy_dict hlo (Heap.dictOf_iff.mpr ⟨od, (Nw _ (.tail _ (.tail _ (List.mem_append_right _ hd')))).1, hod⟩) (by omega) ?_
      cases kvs with
      | nil =>
        (try dsimp only [List.isEmpty, Bool.not_true])
        (repeat' (first | (k_unfold; (try dsimp only)) | (k_end; wrow_close) | ((fail_if_success (with_reducible show wpAny _ _ (call (Value.ref 196) _) _ _ _)); (fail_if_success (with_reducible show wpAny _ _ (call (Value.ref 201) _) _ _ _)); (fail_if_success (with_reducible show wpAny _ _ (call (Value.ref 208) _) _ _ _)); (fail_if_success (with_reducible show wpAny _ _ (call (Value.ref 191) _) _ _ _)); (fail_if_success (with_reducible show wpAny _ _ (call (Value.ref 170) _) _ _ _)); (fail_if_success (with_reducible show wpAny _ _ (call (Value.ref 184) _) _ _ _)); (fail_if_success (with_reducible show wpAny _ _ (truthy (Value.ref _)) _ _ _)); (fail_if_success (with_reducible show wpAny _ _ (call (Value.type "dict") [_]) _ _ _)); (fail_if_success (with_reducible show wpAny _ _ (setItem _ _ _) _ _ _)); first | walk1 | (dsimp only; walk1) | (leave1; try dsimp only))))
        rename Obj.IsDictOf _ _ _ => hdi
        clear hdi
        rename Obj.IsDictOf _ _ _ => hds
        rename (_ == sysModules) = false => hlo2
        exact ⟨_, _, [], _, _, rfl, rfl, by k_asm, by k_asm, hlo2, hds, Nat.zero_le _, hka, by k_ne⟩
      | cons kv kvs =>
        (try dsimp only [List.isEmpty, Bool.not_false])
        (repeat' (first | (k_unfold; (try dsimp only)) | (k_end; wrow_close) | ((fail_if_success (with_reducible show wpAny _ _ (call (Value.ref 196) _) _ _ _)); (fail_if_success (with_reducible show wpAny _ _ (call (Value.ref 201) _) _ _ _)); (fail_if_success (with_reducible show wpAny _ _ (call (Value.ref 208) _) _ _ _)); (fail_if_success (with_reducible show wpAny _ _ (call (Value.ref 191) _) _ _ _)); (fail_if_success (with_reducible show wpAny _ _ (call (Value.ref 170) _) _ _ _)); (fail_if_success (with_reducible show wpAny _ _ (call (Value.ref 184) _) _ _ _)); (fail_if_success (with_reducible show wpAny _ _ (truthy (Value.ref _)) _ _ _)); (fail_if_success (with_reducible show wpAny _ _ (call (Value.type "dict") [_]) _ _ _)); (fail_if_success (with_reducible show wpAny _ _ (setItem _ _ _) _ _ _)); first | walk1 | (dsimp only; walk1) | (leave1; try dsimp only))))
        rename News _ _ _ _ => Nw2
        exact ⟨d, od, _, _, _, rfl, rfl, by k_asm, List.forall_mem_cons.mpr ⟨Nw2 _ (.tail _ (.tail _ (List.mem_append_right _ hd'))), Nw2⟩, hlo, hod, hkl, hka, hddx⟩)
  intro d2 od2 kvs h2 tk2 F2 N2 lo2 hd2 hk2 ha2 hdd
  (try dsimp only)
  (try k_sweep)
  (repeat' (first | (k_unfold; (try dsimp only)) | (k_end; wrow_close) | ((fail_if_success (with_reducible show wpAny _ _ (call (Value.ref 196) _) _ _ _)); (fail_if_success (with_reducible show wpAny _ _ (call (Value.ref 201) _) _ _ _)); (fail_if_success (with_reducible show wpAny _ _ (call (Value.ref 208) _) _ _ _)); (fail_if_success (with_reducible show wpAny _ _ (call (Value.ref 191) _) _ _ _)); (fail_if_success (with_reducible show wpAny _ _ (call (Value.ref 170) _) _ _ _)); (fail_if_success (with_reducible show wpAny _ _ (call (Value.ref 184) _) _ _ _)); (fail_if_success (with_reducible show wpAny _ _ (truthy (Value.ref _)) _ _ _)); (fail_if_success (with_reducible show wpAny _ _ (call (Value.type "dict") [_]) _ _ _)); (fail_if_success (with_reducible show wpAny _ _ (setItem _ _ _) _ _ _)); first | walk1 | (dsimp only; walk1) | (leave1; try dsimp only))))
  refine' law_dict ?a1 ?a2 hbig ?a3 lo2 hd2 hk2 ?_
  case a1 => k_asm
  case a2 => k_asm
  case a3 => k_mem
  intro D2 h3 o2 F3 N3 lo3 hd3 l2
  have htD : ∀ p ∈ la ++ lcut dx lf, (@Ne Nat p.1 D2) := fun p hp => Nat.ne_of_lt (l2 p (.tail _ (.tail _ (.tail _ hp))))
  k_lt l2
  clear lo2 hd2
  (try k_sweep)
  (repeat' (first | (k_unfold; (try dsimp only)) | (k_end; wrow_close) | ((fail_if_success (with_reducible show wpAny _ _ (call (Value.ref 196) _) _ _ _)); (fail_if_success (with_reducible show wpAny _ _ (call (Value.ref 201) _) _ _ _)); (fail_if_success (with_reducible show wpAny _ _ (call (Value.ref 208) _) _ _ _)); (fail_if_success (with_reducible show wpAny _ _ (call (Value.ref 191) _) _ _ _)); (fail_if_success (with_reducible show wpAny _ _ (call (Value.ref 170) _) _ _ _)); (fail_if_success (with_reducible show wpAny _ _ (call (Value.ref 184) _) _ _ _)); (fail_if_success (with_reducible show wpAny _ _ (truthy (Value.ref _)) _ _ _)); (fail_if_success (with_reducible show wpAny _ _ (call (Value.type "dict") [_]) _ _ _)); (fail_if_success (with_reducible show wpAny _ _ (setItem _ _ _) _ _ _)); first | walk1 | (dsimp only; walk1) | (leave1; try dsimp only))))
  rename News _ _ _ _ => NN
  rename Fr _ _ _ _ => FF
  refine' kda_set FF NN ?b1 hd3 (strKind_is _ _ _ _) ?b2 ?_
  case b1 => k_updF
  case b2 => rw [sizeLine_eq]; omega
  intro h5 o5 F5 N5 hd5
  dsimp only at N5
  have V3 := law_three (T := T) (x := x) (dx := dx) (xt := xt) (t1 := t1) (t2 := t2) (t3 := t3) (t4 := t4) (t5 := t5) N5 hset (fun p hp => ?c1) ?c2 lo3 hd5 ha2 hnoe (by omega) ?c3 ?c4 ?c5
  case c1 => (repeat (first | exact List.mem_append_right _ hp | refine List.mem_cons_of_mem _ ?_))
  case c2 => k_mem
  case c4 => k_mem
  case c5 => k_mem
  case c3 =>
    refine' ⟨_, _, _, _, rfl, ⟨_, _, _, .head _, .tail _ (.head _), List.forall_mem_cons.mpr ⟨?x8, List.forall_mem_cons.mpr ⟨?x9, List.forall_mem_cons.mpr ⟨?xa, fun _ h => nomatch h⟩⟩⟩⟩, ⟨_, _, rfl, .tail _ (.tail _ (.head _)), ?xb⟩, ?xc⟩
    case x8 => rfl
    case x9 => rfl
    case xa => rfl
    case xb => show 1 ≤ 1000; omega
    case xc => exact .cons (.int _ _) .nil
  have Va1 := va_in N5 (fun p hp => ?d1) Va0
  case d1 => (repeat (first | exact List.mem_append_left _ hp | refine List.mem_cons_of_mem _ ?_))
  (repeat' (first | (k_unfold; (try dsimp only)) | (k_end; wrow_close) | ((fail_if_success (with_reducible show wpAny _ _ (call (Value.ref 196) _) _ _ _)); (fail_if_success (with_reducible show wpAny _ _ (call (Value.ref 201) _) _ _ _)); (fail_if_success (with_reducible show wpAny _ _ (call (Value.ref 208) _) _ _ _)); (fail_if_success (with_reducible show wpAny _ _ (call (Value.ref 191) _) _ _ _)); (fail_if_success (with_reducible show wpAny _ _ (call (Value.ref 170) _) _ _ _)); (fail_if_success (with_reducible show wpAny _ _ (call (Value.ref 184) _) _ _ _)); (fail_if_success (with_reducible show wpAny _ _ (truthy (Value.ref _)) _ _ _)); (fail_if_success (with_reducible show wpAny _ _ (call (Value.type "dict") [_]) _ _ _)); (fail_if_success (with_reducible show wpAny _ _ (setItem _ _ _) _ _ _)); first | walk1 | (dsimp only; walk1) | (leave1; try dsimp only))))
  (try dsimp only)
  refine' code_use (by omega) Va1 V3 (hmo.1) (fun p hp => hp) ?xg ?yg ?wg ?vg ?ug rfl rfl rfl rfl ?tg ?rg ?_
  case wg => k_asm
  case yg => k_asm
  case xg => k_asm
  case vg => k_asm
  case ug => k_asm
  case tg => exact Nat.le_of_ble_eq_true rfl
  case rg => exact Nat.le_of_ble_eq_true rfl
  intro hg tkg Fg Ng
  (try k_sweep)
  (repeat' (first | (k_unfold; (try dsimp only)) | (k_end; wrow_close) | ((fail_if_success (with_reducible show wpAny _ _ (call (Value.ref 196) _) _ _ _)); (fail_if_success (with_reducible show wpAny _ _ (call (Value.ref 201) _) _ _ _)); (fail_if_success (with_reducible show wpAny _ _ (call (Value.ref 208) _) _ _ _)); (fail_if_success (with_reducible show wpAny _ _ (call (Value.ref 191) _) _ _ _)); (fail_if_success (with_reducible show wpAny _ _ (call (Value.ref 170) _) _ _ _)); (fail_if_success (with_reducible show wpAny _ _ (call (Value.ref 184) _) _ _ _)); (fail_if_success (with_reducible show wpAny _ _ (truthy (Value.ref _)) _ _ _)); (fail_if_success (with_reducible show wpAny _ _ (call (Value.type "dict") [_]) _ _ _)); (fail_if_success (with_reducible show wpAny _ _ (setItem _ _ _) _ _ _)); first | walk1 | (dsimp only; walk1) | (leave1; try dsimp only))))
  (try dsimp only)
  refine' ident_use (by omega) Va1 V3 (hmo.2) (fun p hp => hp) ?xh ?yh ?wh ?vh ?uh rfl rfl rfl rfl ?th ?rh ?_
  case wh => k_asm
  case yh => k_asm
  case xh => k_asm
  case vh => k_asm
  case uh => k_asm
  case th => exact Nat.le_of_ble_eq_true rfl
  case rh => exact Nat.le_of_ble_eq_true rfl
  intro hh tkh Fh Nh
  (try k_sweep)
  (repeat' (first | (k_unfold; (try dsimp only)) | (k_end; wrow_close) | ((fail_if_success (with_reducible show wpAny _ _ (call (Value.ref 196) _) _ _ _)); (fail_if_success (with_reducible show wpAny _ _ (call (Value.ref 201) _) _ _ _)); (fail_if_success (with_reducible show wpAny _ _ (call (Value.ref 208) _) _ _ _)); (fail_if_success (with_reducible show wpAny _ _ (call (Value.ref 191) _) _ _ _)); (fail_if_success (with_reducible show wpAny _ _ (call (Value.ref 170) _) _ _ _)); (fail_if_success (with_reducible show wpAny _ _ (call (Value.ref 184) _) _ _ _)); (fail_if_success (with_reducible show wpAny _ _ (truthy (Value.ref _)) _ _ _)); (fail_if_success (with_reducible show wpAny _ _ (call (Value.type "dict") [_]) _ _ _)); (fail_if_success (with_reducible show wpAny _ _ (setItem _ _ _) _ _ _)); first | walk1 | (dsimp only; walk1) | (leave1; try dsimp only))))
  exact ⟨rfl, _, _, _, rfl, by k_asm⟩
end Mine
end Law

theorem PySem.Challenge.cw_pq1317_01_holds : PySem.Challenge.rw_pq1317_01.Holds := by
  exact Mine.law_holds
