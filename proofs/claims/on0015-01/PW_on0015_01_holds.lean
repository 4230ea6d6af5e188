import PyProof.Rows.All
import Wide.All
import OpenK.AllK
import Wide.FinOn
import KE.KLcTest
import KE.KItemsList
import KE.KSortTup
import PySem.Challenge.RW_on0015_01
set_option Elab.async false

section
open PySem PySem.W PyProof.Rows
set_option Elab.async false
set_option maxRecDepth 100000
set_option maxHeartbeats 8000000
namespace Mine
noncomputable def topRunQ (p : Program) (w : World) (n₀ : Nat) (ann : Option Value) : Nat → SharedT → Thread → Option SharedT
  | 0, _, _ => none
  | n + 1, s, t => match through t with
    | true => some s
    | false => match PySem.W.Fast.tw6613529449190102663 n₀ ann t with
      | false => none
      | true => match PySem.W.Fast.tw10156331382660048174 (PySem.W.Fast.tw11892475500146522536 PySem.W.Fast.tw14364793385576792824) p w s t with
        | some (s', t') => topRunQ p w n₀ ann n s' t'
        | none => none
theorem topRunQ_of {p : Program} {w : World} {n₀ : Nat} {ann : Option Value} : ∀ {n : Nat} {s r : SharedT} {t : Thread}, topRunQ p w n₀ ann n s t = some r → topRun treeTable p w n₀ ann n s.abs t = some r.abs
  | 0, _, _, _, h => by cases h
  | n + 1, s, r, t, h => by
    unfold topRunQ at h
    unfold topRun
    cases ht : through t with
    | true => rw [ht] at h; cases h; rfl
    | false =>
      rw [ht] at h
      rw [← PySem.W.Fast.te6613529449190102663, ← PySem.W.Fast.te10156331382660048174, ← PySem.W.Fast.te11892475500146522536, ← PySem.W.Fast.te14364793385576792824] at h
      cases hk : stepOk n₀ ann t with
      | false => rw [hk] at h; cases h
      | true =>
        rw [hk] at h
        cases hs : stepT (denote treeTable) p w s t with
        | none => rw [hs] at h; cases h
        | some r => obtain ⟨s₂, t₂⟩ := r; rw [hs] at h; rw [stepT_spec hs]; exact topRunQ_of h
noncomputable def mkBT : List Obj → Nat → BT → BT
  | [], _, t => t
  | o :: r, n, t => mkBT r (n + 1) (t.ins n o)
theorem boot_tree (P : Params) : absHeap (mkBT (boot_heap P).objs.toList 0 .nil) (boot_heap P).objs.size (boot_heap P).life = boot_heap P := by kernel_rfl
noncomputable def S0 (w : World) (os : OsState) : SharedT := ⟨mkBT (boot_heap w.params).objs.toList 0 .nil, (boot_heap w.params).objs.size, (boot_heap w.params).life, Array.mk [], boot_drawn, boot_toks, os⟩
theorem S0_abs (w : World) (os : OsState) : (S0 w os).abs = ⟨boot_heap w.params, Array.mk [], boot_drawn, boot_toks, os⟩ :=
  congrArg (fun h => (⟨h, Array.mk [], boot_drawn, boot_toks, os⟩ : Shared)) (boot_tree w.params)
noncomputable def endRun (p : Program) (N : Nat) (w : World) (os : OsState) : Option SharedT :=
  topRunQ p w (boot_heap w.params).objs.size ((boot_heap w.params).nsMap mainGlobals "__annotations__") N (S0 w os) (topStub p)
noncomputable def lookA (p q : Program) (loose : List Str) (Xt : Shared → Bool) (w : World) (r : SharedT) :=
  (staticsOk (importedModules p.main.body) (boot_heap w.params) r.abs.heap && namesBound p r.abs.heap && gensDone r.abs && laidKept (boot_heap w.params) r.abs.heap,
   (PySem.W.Fast.tw4187177175401517315 q loose (importedModules p.main.body) Xt true r.abs).1)
noncomputable def lookB (p q : Program) (loose : List Str) (Xt : Shared → Bool) (r : SharedT) := (PySem.W.Fast.tw4187177175401517315 q loose (importedModules p.main.body) Xt true r.abs).2
theorem left_any {p q : Program} {loose : List Str} {Xt : Shared → Bool} {α : Type} {Yf : Shared → α} {Ya : World → α} {N : Nat}
    (e : opening p = plainProg p.main.scope.names) (hN : Nat.ble 600 N = true) (f : ∀ s, fenceModules? p s = some s)
    (z : ∀ P : Params, (boot_heap P).isNs mainGlobals = true)
    (hA : ∀ (w : World) (os : OsState), (endRun p N w os).map (lookA p q loose Xt w) = some (true, (openGood q loose).1))
    (hB : ∀ (w : World) (os : OsState), (endRun p N w os).map (lookB p q loose Xt) = some (openGood q loose).2)
    (hC : ∀ (w : World) (os : OsState), (endRun p N w os).map (fun r => Yf r.abs) = some (Ya w)) :
    LeftO p q loose Xt Yf Ya N := fun w => by
  obtain ⟨⟨hp, gs, d, k, os⟩, e1, e'⟩ := Option.map_eq_some_iff.mp (boot_open e hN f w)
  obtain ⟨rfl, rfl, rfl, rfl⟩ : hp = boot_heap w.params ∧ gs = Array.mk [] ∧ d = boot_drawn ∧ k = boot_toks := by simpa using e'
  obtain ⟨r, hr, hl⟩ := Option.map_eq_some_iff.mp (hA w os)
  obtain ⟨r₂, hr₂, lB⟩ := Option.map_eq_some_iff.mp (hB w os)
  obtain ⟨r₃, hr₃, l3⟩ := Option.map_eq_some_iff.mp (hC w os)
  obtain rfl : r = r₂ := Option.some.inj (hr.symm.trans hr₂)
  obtain rfl : r = r₃ := Option.some.inj (hr.symm.trans hr₃)
  have ht := topRunQ_of hr
  rw [S0_abs] at ht
  have l1 := congrArg (fun x => x.1) hl
  have lA := congrArg (fun x => x.2) hl
  dsimp only [lookA] at l1 lA
  have l2 : openSeen q loose (importedModules p.main.body) Xt true r.abs = openGood q loose := by
    rw [PySem.W.Fast.te4187177175401517315]
    exact Prod.ext lA lB
  have t : topFrom treeTable p w N ⟨boot_heap w.params, Array.mk [], boot_drawn, boot_toks, os⟩ = some r.abs := by
    unfold topFrom
    dsimp only
    rw [z w.params, ht]
    show (match staticsOk (importedModules p.main.body) (boot_heap w.params) r.abs.heap && namesBound p r.abs.heap && gensDone r.abs && laidKept (boot_heap w.params) r.abs.heap with | true => _ | false => _) = _
    rw [l1]
  unfold openEnds
  rw [e1]
  show (topFrom treeTable p w N ⟨boot_heap w.params, Array.mk [], boot_drawn, boot_toks, os⟩).map _ = _
  rw [t]
  show some (openSeen q loose (importedModules p.main.body) Xt true r.abs, Yf r.abs) = _
  rw [l2, l3]
noncomputable def vw : Program := view PySem.Challenge.pw_on0015_01 [1, 2, 3, 4, 5, 7, 8, 9, 10, 11, 12, 13, 15, 16, 17, 18, 19, 20, 21, 22, 23, 24, 25, 26, 27, 28]
theorem boot_ns (P : Params) : (boot_heap P).isNs mainGlobals = true := by kernel_rfl
theorem law_opening : opening PySem.Challenge.pw_on0015_01 = plainProg PySem.Challenge.pw_on0015_01.main.scope.names := by kernel_rfl
theorem law_fence : ∀ s, fenceModules? PySem.Challenge.pw_on0015_01 s = some s := fun s => by kernel_rfl
theorem law_said : OpenLaw.wellSaid PySem.Challenge.rw_on0015_01 = true := by
  refine (congrFun PySem.W.Fast.te9446332074065402090 _).trans ?_
  delta PySem.W.Fast.tw9446332074065402090 PySem.W.Fast.tw17960256430627541270
  repeat' with_reducible apply look_both
  · delta PySem.W.Fast.tw2436336058641802641
    repeat' with_reducible apply look_both
    · delta PySem.W.Fast.tw12908688711261696721
      repeat' with_reducible apply look_both
      all_goals decide +kernel
    all_goals decide +kernel
  all_goals decide +kernel
noncomputable abbrev xt : Shared → Bool := fun s => xlAt vw [] s && recOk (RowW.records PySem.Challenge.rw_on0015_01.row.toRowW) s
theorem run_a (w : World) (os : OsState) : (endRun PySem.Challenge.pw_on0015_01 3946 w os).map (lookA PySem.Challenge.pw_on0015_01 vw [] xt w) = some (true, (openGood vw []).1) := by kernel_rfl
theorem run_b (w : World) (os : OsState) : (endRun PySem.Challenge.pw_on0015_01 3946 w os).map (lookB PySem.Challenge.pw_on0015_01 vw [] xt) = some (openGood vw []).2 := by kernel_rfl
section
local macro_rules | `(tactic| o_law) => `(tactic| refine holds_law Mine.law_said fun said => ?_)
local macro_rules | `(tactic| o_head $H) => `(tactic| (refine holds_open (q := Mine.vw) (loose := []) (Xt := Mine.xt) (XP := XL Mine.vw []) (Yf := Hook.obs $H) (Ya := Hook.val $H) (YP := Hook.says $H) (N := 3946) ?hl (Hook.of $H) (Hook.keeps $H) (fun s e => xl_of s (Bool.and_eq_true_iff.mp e).1) XL.keeps (by rfl) (by rfl) (by rfl) (fun s e => recFacts_of (Bool.and_eq_true_iff.mp e).2) (by rfl) (by first | assumption | decide +kernel) (by decide +kernel) ⟨rfl, rfl, rfl, rfl, rfl, by decide +kernel⟩ ?hw ?hc; (case hl => exact left_any Mine.law_opening (by rfl) Mine.law_fence Mine.boot_ns Mine.run_a Mine.run_b (fun w os => by kernel_rfl))))
open_top hd for PySem.Challenge.rw_on0015_01
end
end Mine
end

section
open PySem PySem.W PyProof.Rows PySem.Calls
set_option Elab.async false
set_option maxRecDepth 100000
namespace Mine

abbrev Sub (h g : Heap) : Prop := ∀ b o, h.get? b = some o → g.get? b = some o
def TupO (o : Obj) : Prop := o.cls = .type "tuple" ∧ ∃ xs n, o.data = .seq xs n
/-- all objects of h stand in h', but those at S; tuples always -/
def Keep (S : List Addr) (h h' : Heap) : Prop := ∀ b o, h.get? b = some o → (b ∉ S ∨ TupO o) → h'.get? b = some o

theorem Keep.refl (S : List Addr) (h : Heap) : Keep S h h := fun _ _ e _ => e
theorem Keep.trans {S : List Addr} {a b c : Heap} (x : Keep S a b) (y : Keep S b c) : Keep S a c := fun d o e k => y d o (x d o e k) k
theorem Keep.mono {S S' : List Addr} {h h' : Heap} (x : Keep S h h') (i : ∀ a ∈ S, a ∈ S') : Keep S' h h' :=
  fun d o e k => x d o e (k.imp (fun n m => n (i d m)) id)
theorem Keep.of_sub {S : List Addr} {h h' : Heap} (x : Sub h h') : Keep S h h' := fun d o e _ => x d o e
theorem Keep.sub {h h' : Heap} (x : Keep [] h h') : Sub h h' := fun d o e => x d o e (.inl (by simp))
theorem Keep.at {S : List Addr} {h h' : Heap} (x : Keep S h h') {a : Addr} (n : a ∉ S) {o : Obj} (e : h.get? a = some o) : h'.get? a = some o := x a o e (.inl n)
theorem Keep.of_same {d : Addr} {h h' : Heap} (x : Heap.SameBut d h h') (n : ∀ o, h.get? d = some o → ¬ TupO o) : Keep [d] h h' := fun b o e k => by
  by_cases q : b = d
  · subst q
    rcases k with k | k
    · exact absurd (List.mem_singleton.mpr rfl) k
    · exact absurd k (n o e)
  · exact (x.2 b q).trans e
theorem Keep.tup {S : List Addr} {h h' : Heap} (x : Keep S h h') {a : Addr} {items : Array Value} (t : IsTup h a items) : IsTup h' a items :=
  let ⟨o, ho, hc, n, hd⟩ := t; ⟨o, x a o ho (.inr ⟨hc, items, n, hd⟩), hc, n, hd⟩

/-- the objects of g that h₀ has not, written as a list -/
def dump (h₀ g : Heap) : List (Addr × Obj) := (List.range g.objs.size).filterMap fun a => if (h₀.get? a).isSome then none else (g.get? a).map fun o => (a, o)
theorem mem_dump {h₀ g : Heap} {a : Addr} {o : Obj} : (a, o) ∈ dump h₀ g ↔ g.get? a = some o ∧ h₀.get? a = none := by
  unfold dump
  rw [List.mem_filterMap]
  constructor
  · rintro ⟨b, _, hb⟩
    split at hb
    · cases hb
    · rename_i hn
      obtain ⟨o', ho', e⟩ := Option.map_eq_some_iff.mp hb
      cases e
      exact ⟨ho', by simpa using hn⟩
  · rintro ⟨hg, hn⟩
    refine ⟨a, List.mem_range.mpr (Heap.lt_size hg), ?_⟩
    rw [if_neg (by simp [hn]), hg]; rfl
theorem dump_off {h₀ g : Heap} {a : Addr} (e : g.get? a = none) : ∀ p ∈ dump h₀ g, p.1 ≠ a := by
  rintro ⟨b, o⟩ hp q
  subst q
  rw [(mem_dump.mp hp).1] at e; cases e

theorem sub_of {h₀ g h : Heap} {L : Addr} {m : Str → Option Value} {news : List (Addr × Obj)} (F : Fr h₀ L h m) (N : News h₀ L h news) (hd : ∀ p ∈ dump h₀ g, p ∈ news) (SG : Sub h₀ g) : Sub g h := fun b o e => by
  cases q : h₀.get? b with
  | none => exact (N (b, o) (hd _ (mem_dump.mpr ⟨e, q⟩))).1
  | some o' =>
    have := SG b o' q
    rw [e] at this
    cases this
    exact F.keep b o q
theorem fr_L {h₀ h : Heap} {L : Addr} {m : Str → Option Value} (F : Fr h₀ L h m) : h₀.get? L = none := by
  cases q : h₀.get? L with
  | none => rfl
  | some o => exact absurd (Nat.lt_of_lt_of_le (Heap.lt_size q) F.above) (Nat.lt_irrefl _)
theorem dump_L {h₀ g h : Heap} {L : Addr} {m : Str → Option Value} {news : List (Addr × Obj)} (F : Fr h₀ L h m) (N : News h₀ L h news) (hd : ∀ p ∈ dump h₀ g, p ∈ news) : g.get? L = none := by
  cases q : g.get? L with
  | none => rfl
  | some o =>
    have := N (L, o) (hd _ (mem_dump.mpr ⟨q, fr_L F⟩))
    exact absurd rfl this.2.1
theorem fr_size {h₀ h : Heap} {L : Addr} {m : Str → Option Value} (F : Fr h₀ L h m) : h₀.objs.size ≤ h.objs.size := Nat.le_of_lt (Nat.lt_of_le_of_lt F.above F.ns.lt)

theorem step {α : Type} {t : Sem α} {M : Model} {A : Around} {Q : α → Shared → Prop} {E : Value → Shared → Prop} {s : Shared} {h₀ g : Heap} {L : Addr} {m : Str → Option Value}
    (cs : List (Addr × Obj)) (S H : List Addr) (Post : α → Heap → Prop)
    (F : Fr h₀ L s.heap m) (N : News h₀ L s.heap (cs ++ dump h₀ g)) (SG : Sub h₀ g)
    (hoff : ∀ a ∈ S, a ≠ L ∧ h₀.get? a = none ∧ ∀ p ∈ cs, p.1 ≠ a)
    (hH : ∀ a ∈ H, h₀.get? a = none ∧ g.get? a = none)
    (hc : ∀ (Q' : α → Shared → Prop), (∀ v h' tk, Keep S s.heap h' → Post v h' → Q' v { s with heap := h', toks := tk }) → wpAny M A t Q' E s)
    (k : ∀ v h' tk g', Fr h₀ L h' m → News h₀ L h' (cs ++ dump h₀ g') → Sub h₀ g' → Sub g' h' → Keep S g g' → Keep S s.heap h' → (∀ a o, h'.get? a = some o → a ≠ L → a ∉ H → g'.get? a = some o) → (∀ a ∈ H, g'.get? a = none) → Post v h' →
      Q v { s with heap := h', toks := tk }) : wpAny M A t Q E s := by
  refine hc _ fun v h' tk hk hp => ?_
  have hgh : Sub g s.heap := sub_of F N (fun p hp => List.mem_append.mpr (.inr hp)) SG
  have hgL : g.get? L = none := dump_L F N (fun p hp => List.mem_append.mpr (.inr hp))
  have hLS : L ∉ S := fun q => (hoff L q).1 rfl
  have h0S : ∀ b o, h₀.get? b = some o → b ∉ S := fun b o e q => by rw [(hoff b q).2.1] at e; cases e
  have h0L := fr_L F
  have F' : Fr h₀ L h' m := ⟨F.ns.at' fun o e => hk L o e (.inl hLS), fun b o e => hk b o (F.keep b o e) (.inl (h0S b o e)), F.above⟩
  have hin : ∀ a o, h'.get? a = some o → a ≠ L → a ∉ H → (hideAll h' (L :: H)).get? a = some o := fun a o e n1 n2 => hideAll_get _ e (by simp [n1, n2])
  have SG' : Sub h₀ (hideAll h' (L :: H)) := fun b o e => hin b o (F'.keep b o e) (fun q => by rw [q, h0L] at e; cases e) fun q => by rw [(hH b q).1] at e; cases e
  refine k v h' tk (hideAll h' (L :: H)) F' ?_ SG' (fun b o e => of_hideAll _ e) ?_ hk hin (fun a ha => hideAll_none _ (List.mem_cons_of_mem _ ha)) hp
  · rintro ⟨a, o⟩ hm
    rcases List.mem_append.mp hm with hm | hm
    · have z := N (a, o) (List.mem_append.mpr (.inl hm))
      exact ⟨hk _ _ z.1 (.inl fun q => (hoff _ q).2.2 _ hm rfl), z.2⟩
    · obtain ⟨e, e0⟩ := mem_dump.mp hm
      refine ⟨of_hideAll _ e, fun q => ?_, e0⟩
      have : (hideAll h' (L :: H)).get? a = none := hideAll_none _ (by simp only at q; simp [q])
      rw [e] at this; cases this
  · intro b o e kk
    refine hin b o (hk b o (hgh b o e) kk) (fun q => by rw [q, hgL] at e; cases e) fun q => by rw [(hH b q).2] at e; cases e

/-- what a call has around it -/
structure Room (A : Around) (k : Nat) : Prop where
  hand : A.handled = none
  depth : A.depth + k < recursionLimit
  units : A.units + 8 * k + 128 < cLine
theorem Room.deeper {A : Around} {k : Nat} (r : Room A (k + 1)) (env : Env) : Room (A.deeper env) k :=
  ⟨r.hand, by have := r.depth; show A.depth + 1 + k < _; omega, by have := r.units; show A.units + 3 + 8 * k + 128 < _; omega⟩
theorem Room.le {A : Around} {k j : Nat} (r : Room A k) (h : j ≤ k) : Room A j := ⟨r.hand, by have := r.depth; omega, by have := r.units; omega⟩

section
variable {prog : Program} {w : World} {A : Around} {E : Value → Shared → Prop} {s : Shared} {h₀ : Heap} {K : Frag} {Q : Value → Shared → Prop}
  {name qual : Str} {params : Arguments} {body : List Stmt} {scope : Scope} {dV kV doc pm cdv ct oc : Value} {an od : Option Addr} {osl : Array (Option Value)} {f : Addr} {vals : List Value} {binds : List (Str × Value)}

theorem enter_code {R : Result → Shared → Prop} (k : Nat) (hR : Room A (k + 1)) (KX : K.In h₀) (hlim : h₀.NoLimit) (S0 : Sub h₀ s.heap) (hz : h₀.objs.size ≤ s.heap.objs.size)
    (ho : K.lookup f = some ⟨oc, od, .func (fnOf name qual params body scope dV kV doc pm an cdv ct), osl⟩) (hcd : codeIn K cdv qual = true)
    (hbind : BindsTo s (fnOf name qual params body scope dV kV doc pm an cdv ct) ⟨vals, []⟩ binds) (hloc : ∀ y ∈ binds, scope.names.lookup y.1 = some .local)
    (hcell : ∀ x ∈ scope.names, x.2 ≠ .cell)
    (hco : scope.isCoroutine = false) (hgen : scope.isGenerator = false) (hk : scope.kind = .function)
    (h : ∀ (L : Addr) (h₁ : Heap) (A' : Around), Room A' k → L = s.heap.objs.size → Fr h₀ L h₁ (fun y => binds.reverse.lookup y) → News h₀ L h₁ (dump h₀ s.heap) → Sub s.heap h₁ →
      wpAny (model prog w) A' (execs body (envOf qual scope L f cdv)) (fun fl s' => R (.ok (.ret (match fl with | .ret v => v | _ => .none))) s') (fun _ _ => False) { s with heap := h₁, toks := s.toks + binds.length }) :
    codeAny (model prog w) A (.call (.ref f) ⟨vals, []⟩) R s := by
  refine codeAny_call_def (fd := fnOf name qual params body scope dV kV doc pm an cdv ct) (body := body) (binds := binds) (by have := hR.depth; omega) (S0 _ _ (KX _ _ ho)) rfl
    (hlim.keeps S0) ((codeRec_of KX hcd).keeps S0) rfl hbind hcell hloc (fun h₁ hns hk₁ => ?_) hco hgen hk
  refine wpAny_mono (h s.heap.objs.size h₁ _ (hR.deeper _) rfl ⟨hns, fun b o e => hk₁ b o (S0 b o e), hz⟩ ?_ hk₁) (fun fl s' q => q) fun _ _ x => x.elim
  rintro ⟨a, o⟩ hm
  obtain ⟨e, e0⟩ := mem_dump.mp hm
  exact ⟨hk₁ _ _ e, Nat.ne_of_lt (Heap.lt_size e), e0⟩
theorem enter_plain (k : Nat) (R : Room A (k + 1)) (KX : K.In h₀) (hlim : h₀.NoLimit) (S0 : Sub h₀ s.heap) (hz : h₀.objs.size ≤ s.heap.objs.size)
    (ho : K.lookup f = some ⟨oc, od, .func (fnOf name qual params body scope dV kV doc pm an cdv ct), osl⟩) (hcd : codeIn K cdv qual = true)
    (hbind : BindsTo s (fnOf name qual params body scope dV kV doc pm an cdv ct) ⟨vals, []⟩ binds) (hloc : ∀ y ∈ binds, scope.names.lookup y.1 = some .local)
    (hcell : ∀ x ∈ scope.names, x.2 ≠ .cell)
    (hco : scope.isCoroutine = false) (hgen : scope.isGenerator = false) (hk : scope.kind = .function)
    (h : ∀ (L : Addr) (h₁ : Heap) (A' : Around), Room A' k → L = s.heap.objs.size → Fr h₀ L h₁ (fun y => binds.reverse.lookup y) → News h₀ L h₁ (dump h₀ s.heap) → Sub s.heap h₁ →
      wpAny (model prog w) A' (execs body (envOf qual scope L f cdv)) (fun fl s' => Q (match fl with | .ret v => v | _ => .none) s') (fun _ _ => False) { s with heap := h₁, toks := s.toks + binds.length }) :
    wpAny (model prog w) A (call (.ref f) vals) Q E s :=
  wpAny_call (enter_code k R KX hlim S0 hz ho hcd hbind hloc hcell hco hgen hk h)

theorem Room.make {A : Around} {k : Nat} {C : Addr} {rest : List Value} (r : Room A (k + 1)) : Room (A.under (.builtin "type.__call__" ⟨.ref C :: rest, []⟩)) k :=
  ⟨r.hand, by have := r.depth; show A.depth + (Code.builtin "type.__call__" ⟨.ref C :: rest, []⟩).weight + k < _; have : (Code.builtin "type.__call__" ⟨.ref C :: rest, []⟩).weight = 1 := rfl; omega,
   by have := r.units; show A.units + (Code.builtin "type.__call__" ⟨.ref C :: rest, []⟩).cUnits + 8 * k + 128 < _; have : (Code.builtin "type.__call__" ⟨.ref C :: rest, []⟩).cUnits = 1 := rfl; omega⟩

/-- an own class made: the object and its dict are new -/
theorem new_inst {C fI : Addr} {rest : List Value} (KX : K.In h₀) (S0 : Sub h₀ s.heap) (hm : makesIn K C = true) (hi : findIn K (.ref C) "__init__" = some (some (.ref fI))) (hf : isFn K (.ref fI) = true)
    (h : ∀ y dy h', s.heap.objs.size ≤ dy → @LT.lt Nat _ dy y → h'.get? y = some (instObj C dy) → h'.get? dy = some (dictOf [] 0) → Sub s.heap h' → s.heap.objs.size ≤ h'.objs.size →
      codeAny (model prog w) (A.under (.builtin "type.__call__" ⟨.ref C :: rest, []⟩)) (.call (.ref fI) ⟨.ref y :: rest, []⟩) (InitBack y fun r s' => match r with | .ok (.ret v) => Q v s' | .ok _ => False | .error e => E e s') { s with heap := h' }) :
    wpAny (model prog w) A (call (.ref C) rest) Q E s := by
  have X : K.In s.heap := KX.keeps S0
  refine wpAny_call ?_
  obtain ⟨hh, g, d, t, os⟩ := s
  refine make_core (makes_of X hm) (looks_findIn X hi) (fun self => bind_fn X self (beq_iff_eq.mp hf)) (.inl rfl)
    (h _ hh.objs.size ((hh.push emptyDict).push (instObj C hh.objs.size)) (Nat.le_refl _) (Nat.lt_succ_self _) ?_ (Heap.get?_push_of_some _ (Heap.get?_push_size _ rfl)) (fun b o e => Heap.get?_push_of_some _ (Heap.get?_push_of_some _ e)) (by rw [Heap.size_push, Heap.size_push]; show hh.objs.size ≤ _; omega))
  have : ((hh.push emptyDict).push (instObj C hh.objs.size)).get? (hh.push emptyDict).objs.size = some (instObj C hh.objs.size) := Heap.get?_push_size _ rfl
  rwa [Heap.size_push] at this

theorem enter_cells (k : Nat) (R : Room A (k + 1)) (KX : K.In h₀) (hlim : h₀.NoLimit) (S0 : Sub h₀ s.heap) (hz : h₀.objs.size ≤ s.heap.objs.size)
    (ho : K.lookup f = some ⟨oc, od, .func (fnOf name qual params body scope dV kV doc pm an cdv ct), osl⟩) (hcd : codeIn K cdv qual = true)
    (hbind : BindsTo s (fnOf name qual params body scope dV kV doc pm an cdv ct) ⟨vals, []⟩ binds)
    (hkind : (binds.all fun y => scope.names.lookup y.1 == some .local || scope.names.lookup y.1 == some .cell) = true)
    (hnd : ((cellsFrom 0 scope.names []).map (·.1)).Nodup)
    (hco : scope.isCoroutine = false) (hgen : scope.isGenerator = false) (hk : scope.kind = .function)
    (h : ∀ (L : Addr) (h₁ : Heap) (tk : Nat) (cells : List (Addr × Obj)) (A' : Around), Room A' k → L = s.heap.objs.size → Fr h₀ L h₁ (bindL (envOfC qual scope L f cdv).kindOf binds fun _ => none) → News h₀ L h₁ (cells ++ dump h₀ s.heap) →
      CellsAre (bindC (envOfC qual scope L f cdv).kindOf binds fun _ => none) (cellsFrom (L + 1) scope.names []) cells → Sub s.heap h₁ → (∀ p ∈ cells, s.heap.get? p.1 = none) →
      wpAny (model prog w) A' (execs body (envOfC qual scope L f cdv)) (fun fl s' => Q (match fl with | .ret v => v | _ => .none) s') (fun _ _ => False) { s with heap := h₁, toks := tk }) :
    wpAny (model prog w) A (call (.ref f) vals) Q E s := by
  refine wpAny_call (codeAny_call_function (by have := R.depth; omega) (S0 _ _ (KX _ _ ho)) rfl hco hgen rfl ((codeRec_of KX hcd).keeps S0) (hbind _ _ _ _ ?_))
  refine wpAny_newFunctionEnv_cells hk (kindsX hkind _) fun env' he s' x => ?_
  subst he
  refine ⟨(hlim.keeps S0).keeps x.toInCall.keep, codeAny_func ?_⟩
  obtain ⟨h₁, tk, rfl, _⟩ := x.done
  have hk₁ := x.toInCall.keep
  obtain ⟨cells, NC, Y⟩ := Cl.news (h₀ := s.heap) (Nat.le_refl _) fun n c hm => ⟨x.cell n c (lookup_of_mem_nodup (cellsFrom_names scope.names 0 (s.heap.objs.size + 1) [] [] rfl ▸ hnd) hm), x.above n c hm⟩
  refine wpAny_mono (h s.heap.objs.size h₁ tk cells _ (R.deeper _) rfl ⟨x.toInCall.ns, fun b o e => hk₁ b o (S0 b o e), hz⟩ ?_ Y hk₁ fun p hp => (NC p hp).2.2) (fun fl s' q => q) fun _ _ y => y.elim
  rintro ⟨a, o⟩ hp
  rcases List.mem_append.mp hp with hp | hp
  · refine ⟨(NC _ hp).1, (NC _ hp).2.1, ?_⟩
    cases q : h₀.get? a with
    | none => rfl
    | some o' => have := S0 _ _ q; rw [(NC _ hp).2.2] at this; cases this
  · obtain ⟨e, e0⟩ := mem_dump.mp hp
    exact ⟨hk₁ _ _ e, Nat.ne_of_lt (Heap.lt_size e), e0⟩
end
end Mine
end

section
open PySem PySem.W PyProof.Rows PySem.Calls
set_option Elab.async false
set_option maxRecDepth 100000
namespace Mine

/-! data on the heap -/
abbrev Clk := List (Int × Int)
def XTup (h : Heap) (a : Addr) (items : Array Value) : Prop := ∃ n, h.get? a = some { cls := .type "tuple", data := .seq items n }
theorem XTup.isTup {h : Heap} {a : Addr} {items : Array Value} (x : XTup h a items) : IsTup h a items := let ⟨n, e⟩ := x; ⟨_, e, rfl, n, rfl⟩
def PairAt (h : Heap) (v : Value) (p : Int × Int) : Prop := ∃ a t u, v = .ref a ∧ XTup h a #[.int p.1 t, .int p.2 u]
inductive PairsAll (h : Heap) : List Value → List (Int × Int) → Prop
  | nil : PairsAll h [] []
  | cons {v p vs ps} : PairAt h v p → PairsAll h vs ps → PairsAll h (v :: vs) (p :: ps)
/-- a tuple of pairs of ints -/
def TupAt (h : Heap) (v : Value) (ps : Clk) : Prop := ∃ a vs, v = .ref a ∧ XTup h a (List.toArray vs) ∧ PairsAll h vs ps
/-- a list of pairs of ints -/
def LstAt (h : Heap) (a : Addr) (ps : Clk) : Prop := ∃ vs, h.IsList a (List.toArray vs) ∧ PairsAll h vs ps
/-- tuples of h stand in h' -/
def TK (h h' : Heap) : Prop := ∀ b o, h.get? b = some o → TupO o → h'.get? b = some o
theorem TK.refl (h : Heap) : TK h h := fun _ _ x _ => x
theorem TK.trans {a b c : Heap} (x : TK a b) (y : TK b c) : TK a c := fun d o e k => y d o (x d o e k) k
theorem TK.of_keep {S : List Addr} {h h' : Heap} (x : Keep S h h') : TK h h' := fun b o e k => x b o e (.inr k)
theorem TK.of_sub {h h' : Heap} (x : Sub h h') : TK h h' := fun b o e _ => x b o e
theorem TK.tup {h h' : Heap} (k : TK h h') {a : Addr} {items : Array Value} (t : IsTup h a items) : IsTup h' a items :=
  let ⟨o, ho, hc, n, hd⟩ := t; ⟨o, k a o ho ⟨hc, items, n, hd⟩, hc, n, hd⟩
theorem TK.xtup {h h' : Heap} (k : TK h h') {a : Addr} {items : Array Value} (t : XTup h a items) : XTup h' a items := let ⟨n, e⟩ := t; ⟨n, k a _ e ⟨rfl, items, n, rfl⟩⟩
theorem PairAt.tk {h h' : Heap} {v p} (x : PairAt h v p) (k : TK h h') : PairAt h' v p := let ⟨a, t, u, e, i⟩ := x; ⟨a, t, u, e, k.xtup i⟩
theorem PairsAll.tk {h h' : Heap} (k : TK h h') {vs ps} (x : PairsAll h vs ps) : PairsAll h' vs ps := by
  induction x with
  | nil => exact .nil
  | cons a _ ih => exact .cons (a.tk k) ih
theorem TupAt.tk {h h' : Heap} {v ps} (x : TupAt h v ps) (k : TK h h') : TupAt h' v ps := let ⟨a, vs, e, i, r⟩ := x; ⟨a, vs, e, k.xtup i, r.tk k⟩
theorem LstAt.tk {h h' : Heap} {a ps} (x : LstAt h a ps) (k : TK h h') (e : ∀ o, h.get? a = some o → h'.get? a = some o) : LstAt h' a ps := let ⟨vs, i, r⟩ := x; ⟨vs, i.at e, r.tk k⟩
theorem PairsAll.length {h : Heap} {vs ps} (x : PairsAll h vs ps) : vs.length = ps.length := by
  induction x with
  | nil => rfl
  | cons _ _ ih => simp [ih]
theorem PairsAll.get {h : Heap} {vs ps} (x : PairsAll h vs ps) : ∀ {i : Nat} {v : Value}, vs[i]? = some v → ∃ p, ps[i]? = some p ∧ PairAt h v p := by
  induction x with
  | nil => intro i v e; simp at e
  | cons a _ ih =>
    intro i v e
    cases i with
    | zero => simp at e; subst e; exact ⟨_, rfl, a⟩
    | succ i => simpa using ih (by simpa using e)
theorem PairsAll.append {h : Heap} {vs ps ws qs} (x : PairsAll h vs ps) (y : PairsAll h ws qs) : PairsAll h (vs ++ ws) (ps ++ qs) := by
  induction x with
  | nil => exact y
  | cons a _ ih => exact .cons a ih

/-- what a heap shows of tuples, behind a `step` -/
theorem tk_up {h' g' : Heap} {L : Addr} {m : Str → Option Value} {H : List Addr} (hn : h'.Ns L m) (hH : ∀ a ∈ H, ∀ o, h'.get? a = some o → ¬ TupO o)
    (up : ∀ a o, h'.get? a = some o → a ≠ L → a ∉ H → g'.get? a = some o) : TK h' g' := by
  rintro a o ho k
  refine up a o ho ?_ fun q => hH a q o ho k
  rintro rfl
  obtain ⟨o', es, ep, ho', hd', _⟩ := hn
  obtain ⟨_, xs, n, hd⟩ := k
  rw [ho] at ho'; cases ho'
  rw [hd] at hd'; cases hd'

/-! a for loop by an invariant over its turn, the frame's names, the frame's own objects and the anchor heap -/
section
variable {prog : Program} {w : World} {A : Around} {s : Shared} {h₀ g : Heap} {L I : Addr} {env : Env} {target : Expr} {body : List Stmt} {fp : List Addr} {n : Nat} {P : Nat → Value → Prop} {St : Nat → Heap → Prop}
  {m : Str → Option Value} {cs : List (Addr × Obj)}

def ForPost (h₀ : Heap) (L I : Addr) (fp : List Addr) (oI : Obj) (J : (Str → Option Value) → List (Addr × Obj) → Heap → Prop) (s : Shared) (h : Heap) (Q : Flow → Shared → Prop) (f : Flow) (s₃ : Shared) : Prop :=
  match f with
  | .ret v => Q (.ret v) s₃
  | .brk => Q .next s₃
  | _ => ∃ h' tk' m' cs' g', s₃ = { s with heap := h', toks := tk' } ∧ Fr h₀ L h' m' ∧ News h₀ L h' ((I, oI) :: (cs' ++ dump h₀ g')) ∧ Sub h₀ g' ∧ g'.get? I = none ∧ (∀ p ∈ cs', p.1 ≠ I) ∧
      (∀ b ∈ fp, b ≠ I → ∀ o, h.get? b = some o → h'.get? b = some o) ∧ J m' cs' g'

theorem for_gen {R : Result → Shared → Prop} {Q : Flow → Shared → Prop} (W : Walks prog w A I fp [I] n P St) (hIfp : I ∈ fp)
    (hgo : ∀ i v (s : Shared) (Q : Unit → Shared → Prop) (E : Value → Shared → Prop), St i s.heap → Q () s → wpAny (model prog w) A (letOwnedTupleGo target (.ref I) v) Q E s)
    (hob : ∀ i h, St i h → ∃ o, h.get? I = some o) (hLI : L ≠ I) (h0I : h₀.get? I = none) (hgI : g.get? I = none) (hcI : ∀ p ∈ cs, p.1 ≠ I)
    (hL : env.locals = L) (hst : St 0 s.heap) (F : Fr h₀ L s.heap m) (N : News h₀ L s.heap (cs ++ dump h₀ g)) (SG : Sub h₀ g)
    (J : Nat → (Str → Option Value) → List (Addr × Obj) → Heap → Prop) (hj : J 0 m cs g)
    (turn : ∀ i v m₁ cs₁ g₁ h tk oI, i < n → P i v → J i m₁ cs₁ g₁ → Fr h₀ L h m₁ → News h₀ L h ((I, oI) :: (cs₁ ++ dump h₀ g₁)) → Sub h₀ g₁ → g₁.get? I = none → (∀ p ∈ cs₁, p.1 ≠ I) → St (i + 1) h →
      wpAny (model prog w) A (assign target env v) (fun _ s₂ => wpAny (model prog w) A (execs body env) (ForPost h₀ L I fp oI (J (i + 1)) s h Q) (fun _ _ => False) s₂) (fun _ _ => False) { s with heap := h, toks := tk })
    (done : ∀ m₁ cs₁ g₁ h tk, J n m₁ cs₁ g₁ → Fr h₀ L h m₁ → News h₀ L h (cs₁ ++ dump h₀ g₁) → Sub h₀ g₁ → (∃ o, h.get? I = some o) ∨ True → Q .next { s with heap := h, toks := tk })
    (hR : ∀ f s', Q f s' → R (.ok f) s') :
    codeAny (model prog w) A (.forLoop target (.ref I) body [] env) R s := by
  subst hL
  refine codeAny_forLoop_any
    (fun k s' => ∃ h' tk m' cs' g' i, s' = { s with heap := h', toks := tk } ∧ St i h' ∧ Fr h₀ env.locals h' m' ∧ News h₀ env.locals h' (cs' ++ dump h₀ g') ∧ Sub h₀ g' ∧ g'.get? I = none ∧ (∀ p ∈ cs', p.1 ≠ I) ∧ J i m' cs' g' ∧ i ≤ n ∧ k = n + 1 - i) ?_ (n + 1)
    ⟨s.heap, s.toks, m, cs, g, 0, rfl, hst, F, N, SG, hgI, hcI, hj, Nat.zero_le _, rfl⟩
  rintro k s' ⟨h', tk, m', cs', g', i, rfl, hst', F', N', SG', hgI', hcI', hJ, hi, rfl⟩
  have next : ∀ h₁ : Heap, (∀ b o, b ∉ [I] → h'.get? b = some o → h₁.get? b = some o) → Fr h₀ env.locals h₁ m' ∧ News h₀ env.locals h₁ (cs' ++ dump h₀ g') := fun h₁ hk₁ =>
    ⟨⟨F'.ns.at' fun o e => hk₁ _ o (by simpa using hLI) e, fun b o e => hk₁ b o (fun hb => by rw [List.mem_singleton.mp hb, h0I] at e; cases e) (F'.keep b o e), F'.above⟩, fun p hp => by
      refine ⟨hk₁ _ _ (fun hb => ?_) (N' p hp).1, (N' p hp).2⟩
      have hb := List.mem_singleton.mp hb
      rcases List.mem_append.mp hp with hp | hp
      · exact hcI' p hp hb
      · exact dump_off hgI' p hp hb⟩
  by_cases hlt : i < n
  · refine W.item i _ _ _ hlt hst' fun v h₁ tk₁ hP hst₁ hk₁ => ?_
    obtain ⟨F₁, N₁⟩ := next h₁ hk₁
    obtain ⟨oI, hoI⟩ := hob _ _ hst₁
    have N₂ : News h₀ env.locals h₁ ((I, oI) :: (cs' ++ dump h₀ g')) := fun p hp => by
      rcases List.mem_cons.mp hp with rfl | hp
      · exact ⟨hoI, Ne.symm hLI, h0I⟩
      · exact N₁ p hp
    refine hgo (i + 1) v _ _ _ hst₁ ?_
    refine wpAny_mono (turn i v m' cs' g' h₁ tk₁ oI hlt hP hJ F₁ N₂ SG' hgI' hcI' hst₁) (fun _ s₂ x₂ => wpAny_mono x₂ (fun f s₃ x₃ => ?_) fun _ _ x => x.elim) fun _ _ x => x.elim
    have fin : (∃ h₂ tk₂ m₂ cs₂ g₂, s₃ = { s with heap := h₂, toks := tk₂ } ∧ Fr h₀ env.locals h₂ m₂ ∧ News h₀ env.locals h₂ ((I, oI) :: (cs₂ ++ dump h₀ g₂)) ∧ Sub h₀ g₂ ∧ g₂.get? I = none ∧ (∀ p ∈ cs₂, p.1 ≠ I) ∧
      (∀ b ∈ fp, b ≠ I → ∀ o, h₁.get? b = some o → h₂.get? b = some o) ∧ J (i + 1) m₂ cs₂ g₂) → ∃ k', k' < n + 1 - i ∧ ∃ h' tk m' cs' g' i, s₃ = { s with heap := h', toks := tk } ∧ St i h' ∧ Fr h₀ env.locals h' m' ∧ News h₀ env.locals h' (cs' ++ dump h₀ g') ∧ Sub h₀ g' ∧ g'.get? I = none ∧ (∀ p ∈ cs', p.1 ≠ I) ∧ J i m' cs' g' ∧ i ≤ n ∧ k' = n + 1 - i := by
      rintro ⟨h₂, tk₂, m₂, cs₂, g₂, rfl, F₂, N₂', SG₂, hgI₂, hcI₂, hfp, hJ₂⟩
      refine ⟨n + 1 - (i + 1), by omega, h₂, tk₂, m₂, cs₂, g₂, i + 1, rfl, W.frame _ _ _ hst₁ fun b hb o e => ?_, F₂, fun p hp => N₂' p (.tail _ hp), SG₂, hgI₂, hcI₂, hJ₂, hlt, rfl⟩
      by_cases q : b = I
      · subst q
        rw [hoI] at e; cases e
        exact (N₂' _ (.head _)).1
      · exact hfp b hb q o e
    cases f with
    | ret v => exact hR _ _ x₃
    | brk => exact hR _ _ x₃
    | next => exact fin x₃
    | cont => exact fin x₃
  · have hin : i = n := by omega
    subst hin
    refine W.done _ _ _ hst' fun h₁ tk₁ hk₁ => wpAny_execs_nil ?_
    obtain ⟨F₁, N₁⟩ := next h₁ hk₁
    exact hR _ _ (done m' cs' g' h₁ tk₁ hJ F₁ N₁ SG' (.inr trivial))

theorem letGo_tupleiter {elts : List Expr} {x1} {pos : Pos} {I t : Addr} {v : Value} {i : Nat} {E : Value → Shared → Prop} {Q : Unit → Shared → Prop} (hit : s.heap.IsTupleIter I t i) (hQ : Q () s) :
    wpAny (model prog w) A (letOwnedTupleGo (.Tuple elts x1 pos) (.ref I) v) Q E s := by
  obtain ⟨o, ho, hc, hd⟩ := hit
  cases v with
  | ref T =>
    unfold letOwnedTupleGo
    refine wpAny_bind (wpAny_load ho ?_)
    rw [hc, hd]
    dsimp only
    simp only [List.contains_cons, List.contains_nil, Bool.or_false]
    rw [if_neg (by simp)]
    exact wpAny_pure hQ
  | _ => exact wpAny_pure hQ

/-- for a, b in <a tuple of pairs> -/
theorem for_pairs {iter : Expr} {pos pa pb tp : Pos} {kk : Nat} {a b : Str} {T : Addr} {vs : List Value} {ps : Clk} {Q : Flow → Shared → Prop} (hh : A.handled = none) (hL : env.locals = L)
    (hka : env.kindOf a = some .local) (hkb : env.kindOf b = some .local) (hp : (env.scope.kind == .class || (env.scope.kind == .module && env.locals != env.globals)) = false)
    (hT : IsTup g T (List.toArray vs)) (hps : PairsAll g vs ps) (F : Fr h₀ L s.heap m) (N : News h₀ L s.heap (cs ++ dump h₀ g)) (SG : Sub h₀ g)
    (hev : ∀ (Q' : Value → Shared → Prop), Q' (.ref T) s → wpAny (model prog w) A (eval iter env) Q' (fun _ _ => False) s)
    (J : Nat → (Str → Option Value) → List (Addr × Obj) → Heap → Prop) (hj : J 0 m cs g)
    (turn : ∀ I i m₁ cs₁ g₁ h tk oI p t u, ps[i]? = some p → J i m₁ cs₁ g₁ → TK g g₁ → Fr h₀ L h (fun z => if z = b then some (.int p.2 u) else if z = a then some (.int p.1 t) else m₁ z) → News h₀ L h ((I, oI) :: (cs₁ ++ dump h₀ g₁)) → Sub h₀ g₁ →
      h₀.get? I = none → g₁.get? I = none → (∀ p ∈ cs₁, p.1 ≠ I) → ¬ TupO oI →
      wpAny (model prog w) A (execs body env) (ForPost h₀ L I [] oI (fun m' cs' g' => TK g₁ g' ∧ J (i + 1) m' cs' g') s h Q) (fun _ _ => False) { s with heap := h, toks := tk })
    (done : ∀ m₁ cs₁ g₁ h tk, J ps.length m₁ cs₁ g₁ → TK g g₁ → Fr h₀ L h m₁ → News h₀ L h (cs₁ ++ dump h₀ g₁) → Sub h₀ g₁ → Q .next { s with heap := h, toks := tk })
    (hs : ∀ x, foldedSetIterable iter env x = pure x := by intro _; rfl) :
    wpAny (model prog w) A (exec (.For (.Tuple [.Name a pa, .Name b pb] kk tp) iter body [] pos) env) Q (fun _ _ => False) s := by
  refine wpAny_For (hev _ ?_) hs
  have hgs : Sub g s.heap := sub_of F N (fun p hp => List.mem_append.mpr (.inr hp)) SG
  have hTs : s.heap.IsTuple T (List.toArray vs) := hT.keeps hgs
  refine wpAny_pyIter_tuple hTs ?_
  have hTlt : T < s.heap.objs.size := (IsTup.lt hTs)
  have W := Walks.tuple (prog := prog) (w := w) hh s.heap.objs.size T (Nat.ne_of_lt hTlt) (List.toArray vs)
  have hsz : (List.toArray vs).size = ps.length := by simp [hps.length]
  rw [hsz] at W
  have fresh : ∀ x : Heap, Sub x s.heap → x.get? s.heap.objs.size = none := fun x k => by
    cases q : x.get? s.heap.objs.size with
    | none => rfl
    | some o => exact absurd (Heap.lt_size (k _ _ q)) (Nat.lt_irrefl _)
  refine for_gen (g := g) (cs := cs) (m := m) (Q := Q) W (by simp) (fun i v s' Q' E' st hq => letGo_tupleiter st.1 hq) (fun i h st => let ⟨⟨o, ho, _⟩, _⟩ := st; ⟨o, ho⟩) (Nat.ne_of_lt F.ns.lt) (fresh _ F.keep) (fresh _ hgs)
    (fun p hp => Nat.ne_of_lt (Heap.lt_size (N p (List.mem_append.mpr (.inl hp))).1)) hL ⟨⟨_, Heap.get?_push_size _ rfl, rfl, rfl⟩, hTs.push _⟩ (F.push _) (fun p hp => ⟨Heap.get?_push_of_some _ (N p hp).1, (N p hp).2⟩) SG
    (fun i m' cs' g' => TK g g' ∧ J i m' cs' g') ⟨TK.refl _, hj⟩ ?_ (fun m₁ cs₁ g₁ h tk j F' N' S' _ => done m₁ cs₁ g₁ h tk j.2 j.1 F' N' S') (fun f s' q => q)
  rintro i v m₁ cs₁ g₁ h tk oI hi hP ⟨htk, hJ⟩ F' N' SG' hgI hcI hst
  obtain ⟨p, hp', hpair⟩ := hps.get (by simpa using hP)
  obtain ⟨D, t, u, rfl, hD⟩ := hpair
  have hg₁h : Sub g₁ h := sub_of F' N' (fun p hp => .tail _ (List.mem_append.mpr (.inr hp))) SG'
  have hoI : h.get? s.heap.objs.size = some oI := (N' _ (.head _)).1
  have hnt : ¬ TupO oI := by
    obtain ⟨⟨o, ho, hc, _⟩, _⟩ := hst
    rw [hoI] at ho; cases ho
    rintro ⟨q, _⟩
    rw [hc] at q; revert q; decide
  subst hL
  refine kcp_assign (s := { s with heap := h, toks := tk }) hh ((htk.trans (TK.of_sub hg₁h)).xtup hD).isTup hka hkb hp F'.ns fun h₂ tk₂ hn₂ hk₂ => ?_
  have F₂ : Fr h₀ env.locals h₂ _ := ⟨hn₂, fun c o e => hk₂ c o (fun q => by rw [q, fr_L F'] at e; cases e) (F'.keep c o e), F'.above⟩
  have N₂ : News h₀ env.locals h₂ ((s.heap.objs.size, oI) :: (cs₁ ++ dump h₀ g₁)) := fun q hq => ⟨hk₂ _ _ (N' q hq).2.1 (N' q hq).1, (N' q hq).2⟩
  refine wpAny_mono (turn s.heap.objs.size i m₁ cs₁ g₁ h₂ tk₂ oI p t u hp' hJ htk F₂ N₂ SG' (fresh _ F.keep) hgI hcI hnt) (fun f s₃ x => ?_) fun _ _ x => x
  have fin : (∃ h' tk' m' cs' g', s₃ = { s with heap := h', toks := tk' } ∧ Fr h₀ env.locals h' m' ∧ News h₀ env.locals h' ((s.heap.objs.size, oI) :: (cs' ++ dump h₀ g')) ∧ Sub h₀ g' ∧ g'.get? s.heap.objs.size = none ∧ (∀ p ∈ cs', p.1 ≠ s.heap.objs.size) ∧
      (∀ b ∈ ([] : List Addr), b ≠ s.heap.objs.size → ∀ o, h₂.get? b = some o → h'.get? b = some o) ∧ TK g₁ g' ∧ J (i + 1) m' cs' g') →
      ∃ h' tk' m' cs' g', s₃ = { s with heap := h', toks := tk' } ∧ Fr h₀ env.locals h' m' ∧ News h₀ env.locals h' ((s.heap.objs.size, oI) :: (cs' ++ dump h₀ g')) ∧ Sub h₀ g' ∧ g'.get? s.heap.objs.size = none ∧ (∀ p ∈ cs', p.1 ≠ s.heap.objs.size) ∧
      (∀ b ∈ [s.heap.objs.size, T], b ≠ s.heap.objs.size → ∀ o, h.get? b = some o → h'.get? b = some o) ∧ TK g g' ∧ J (i + 1) m' cs' g' := by
    rintro ⟨h', tk', m', cs', g', e, F₃, N₃, SG₃, a1, a2, _, k1, k2⟩
    refine ⟨h', tk', m', cs', g', e, F₃, N₃, SG₃, a1, a2, fun c hc hne o ho => ?_, htk.trans k1, k2⟩
    have hc : c = T := by simpa [hne] using hc
    subst hc
    have hg' : Sub g' h' := sub_of F₃ N₃ (fun p hp => .tail _ (List.mem_append.mpr (.inr hp))) SG₃
    obtain ⟨o₁, e₁, c₁, n₁, d₁⟩ := htk.tup hT
    have e1' := hg₁h _ _ e₁
    rw [ho] at e1'; cases e1'
    exact hg' _ _ (k1 _ _ e₁ ⟨c₁, _, n₁, d₁⟩)
  cases f with
  | ret v => exact x
  | brk => exact x
  | next => exact fin x
  | cont => exact fin x

theorem for_pairs0 {iter : Expr} {pos pa pb tp : Pos} {kk : Nat} {a b : Str} {T : Addr} {vs : List Value} {ps : Clk} {Q : Flow → Shared → Prop} (hh : A.handled = none) (hL : env.locals = L)
    (hka : env.kindOf a = some .local) (hkb : env.kindOf b = some .local) (hp : (env.scope.kind == .class || (env.scope.kind == .module && env.locals != env.globals)) = false)
    (hT : IsTup g T (List.toArray vs)) (hps : PairsAll g vs ps) (F : Fr h₀ L s.heap m) (N : News h₀ L s.heap (cs ++ dump h₀ g)) (SG : Sub h₀ g)
    (hev : ∀ (Q' : Value → Shared → Prop), Q' (.ref T) s → wpAny (model prog w) A (eval iter env) Q' (fun _ _ => False) s)
    (J : Nat → List (Addr × Obj) → Heap → Prop) (hj : J 0 cs g)
    (turn : ∀ I i cs₁ g₁ h tk oI p t u, ps[i]? = some p → J i cs₁ g₁ → TK g g₁ → Fr h₀ L h (fun z => if z = b then some (.int p.2 u) else if z = a then some (.int p.1 t) else m z) → News h₀ L h ((I, oI) :: (cs₁ ++ dump h₀ g₁)) → Sub h₀ g₁ →
      h₀.get? I = none → g₁.get? I = none → (∀ p ∈ cs₁, p.1 ≠ I) → ¬ TupO oI →
      wpAny (model prog w) A (execs body env) (ForPost h₀ L I [] oI (fun m' cs' g' => TK g₁ g' ∧ (∀ z, z ≠ a → z ≠ b → m' z = m z) ∧ J (i + 1) cs' g') s h Q) (fun _ _ => False) { s with heap := h, toks := tk })
    (done : ∀ m₁ cs₁ g₁ h tk, J ps.length cs₁ g₁ → TK g g₁ → (∀ z, z ≠ a → z ≠ b → m₁ z = m z) → Fr h₀ L h m₁ → News h₀ L h (cs₁ ++ dump h₀ g₁) → Sub h₀ g₁ → Q .next { s with heap := h, toks := tk })
    (hs : ∀ x, foldedSetIterable iter env x = pure x := by intro _; rfl) :
    wpAny (model prog w) A (exec (.For (.Tuple [.Name a pa, .Name b pb] kk tp) iter body [] pos) env) Q (fun _ _ => False) s := by
  refine for_pairs hh hL hka hkb hp hT hps F N SG hev (fun i m' cs' g' => (∀ z, z ≠ a → z ≠ b → m' z = m z) ∧ J i cs' g') ⟨fun _ _ _ => rfl, hj⟩ ?_ ?_ hs
  · rintro I i m₁ cs₁ g₁ h tk oI p t u hpi ⟨hm, hJ⟩ htk F' N' SG' h1 h2 h3 h4
    have e : (fun z => if z = b then some (Value.int p.2 u) else if z = a then some (Value.int p.1 t) else m₁ z) = fun z => if z = b then some (Value.int p.2 u) else if z = a then some (Value.int p.1 t) else m z := by
      funext z
      by_cases q : z = b
      · simp [q]
      · by_cases q' : z = a
        · simp [q']
        · simp only [if_neg q, if_neg q']; exact hm z q' q
    rw [e] at F'
    exact turn I i cs₁ g₁ h tk oI p t u hpi hJ htk F' N' SG' h1 h2 h3 h4
  · rintro m₁ cs₁ g₁ h tk ⟨hm, hJ⟩ htk F' N' SG'
    exact done m₁ cs₁ g₁ h tk hJ htk hm F' N' SG'
end

theorem mem_take_succ {α : Type} {ps : List α} {i : Nat} {p q : α} (hp : ps[i]? = some p) (hq : q ∈ ps.take (i + 1)) : q ∈ ps.take i ∨ q = p := by
  rw [List.take_add_one, hp] at hq
  simpa using hq
/-- the count of a goroutine in a clock's pairs -/
noncomputable def cnt : Clk → Int → Int
  | [], _ => 0
  | p :: r, k => if p.1 = k then p.2 else cnt r k
theorem cnt_take_succ {ps : Clk} {i : Nat} {p : Int × Int} {k : Int} (hp : ps[i]? = some p) (hn : ∀ q ∈ ps.take i, q.1 ≠ k) (e : p.1 = k) : cnt ps k = p.2 := by
  induction ps generalizing i with
  | nil => simp at hp
  | cons q r ih =>
    cases i with
    | zero => simp at hp; subst hp; simp [cnt, e]
    | succ i =>
      simp only [List.take_succ_cons, List.mem_cons, forall_eq_or_imp] at hn
      simp only [List.getElem?_cons_succ] at hp
      rw [cnt, if_neg hn.1]
      exact ih hp hn.2
theorem cnt_none {ps : Clk} {k : Int} (hn : ∀ q ∈ ps, q.1 ≠ k) : cnt ps k = 0 := by
  induction ps with
  | nil => rfl
  | cons q r ih =>
    simp only [List.mem_cons, forall_eq_or_imp] at hn
    rw [cnt, if_neg hn.1]
    exact ih hn.2
end Mine
end

section
open PySem PySem.W PyProof.Rows PySem.Calls PySem.Spec
set_option Elab.async false
set_option maxRecDepth 100000
namespace Mine

section
variable {prog : Program} {w : World} {A : Around} {E : Value → Shared → Prop} {s : Shared}

set_option maxRecDepth 8000 in
theorem getAttr?_miss_tuple {a : Addr} {xs : Array Value} {name : Str} {Q : Option Value → Shared → Prop}
    (hx : XTup s.heap a xs) (hmiss : typeLookup (.type "tuple") name = pure none) (hname : (["__module__", "__name__", "__qualname__", "__doc__", "__annotations__"] : List Str).contains name = false) (hA : A.handled = none)
    (h : ∀ h' tk, Sub s.heap h' → Q none { s with heap := h', toks := tk }) (hsz : name.length + 100 ≤ sizeLine := by size_fits) :
    wpAny (model prog w) A (getAttr? (.ref a) name) Q E s := by
  obtain ⟨k, hx⟩ := hx
  obtain ⟨hp, g, d, tk, os⟩ := s
  have hT : ∀ tk', (⟨hp, g, d, tk', os⟩ : Shared).TypeIs (.ref a) "tuple" := fun _ => ⟨_, hx, rfl⟩
  have f1 := sub_AttributeError
  have f3 := F.slot_tuple_getattribute.lookup
  have f4 := F.slot_tuple_getattribute.bind (.ref a)
  have f5 := am_tuple_getattr_none
  unfold getAttr? getAttrBy? getAttrBy
  refine wpAny_bind (wpAny_mkText ?_)
  refine wpAny_bind (wpAny_attempt ?_)
  repeat (any_goals (first | assumption | exact hT _ | ((with_reducible show wpAny _ _ (call (Value.builtin "tuple.__getattribute__") _ _) _ _ _); refine call_meets F.slot_tuple_getattribute (hT _) am_entry_tuple_getattribute (F.args_tuple_getattribute_2 _ _) (meets_getattribute_miss_tuple a xs k #[] name _ hmiss hname hsz) ⟨hx, hA, fun h' tk' e hx' => ?_⟩) | wp_step))
  obtain ⟨t', u', he⟩ := hx'.there
  show wpAny _ _ (getattributeRaised _ _ _ _ _ _ _) _ _ _
  unfold getattributeRaised
  repeat (any_goals (first | assumption | wp_step))
  exact h _ _ hx'.of.keeps

/-- a dict's ints, written: keys and values -/
def IntVals (kvs : List (Int × Value)) (ps : Clk) : Prop := kvs.length = ps.length ∧ ∀ (i : Nat) (p : Int × Int), ps[i]? = some p → ∃ t, kvs[i]? = some (p.1, Value.int p.2 t)
def DInt (prog : Program) (w : World) (h : Heap) (d : Addr) (ps : Clk) : Prop := ∃ kvs, h.DictOf (intKind prog w) d kvs ∧ IntVals kvs ps

theorem dict_loop_entry : entryFor table "dict.update.loop" = some Builtin.«dict.update.loop» := entryFor_of_tree (by kernel_rfl)
theorem dict_loop_plain : plainId "dict.update.loop" = true := by decide +kernel

theorem stored_new {kvs : List (Int × Value)} {k : Int} {v : Value} (h : ∀ q ∈ kvs, q.1 ≠ k) : stored kvs k v = kvs ++ [(k, v)] := by
  unfold stored
  rw [if_neg]
  intro c
  obtain ⟨q, hq, e⟩ := List.any_eq_true.mp c
  exact h q hq (by simpa using e)

theorem dict_loop {I T D : Addr} {vs : List Value} {ps : Clk} {R : Result → Shared → Prop} (hh : A.handled = none) (hne : T ≠ I) (hDI : D ≠ I) (hDT : D ≠ T) (hlen : ps.length ≤ 1000) (hn : (ps.map (·.1)).Nodup) {s₀ : Shared}
    (hR : ∀ h' tk kvs, h'.DictOf (intKind prog w) D kvs → IntVals kvs ps → (∀ b o, b ≠ D → b ≠ I → s₀.heap.get? b = some o → h'.get? b = some o) → R (.ok (.ret .none)) { s₀ with heap := h', toks := tk }) :
    ∀ (k i : Nat) (h : Heap) (tk : Nat) (kvs : List (Int × Value)), ps.length - i = k → i ≤ ps.length → h.IsTupleIter I T i → XTup h T (List.toArray vs) → PairsAll h vs ps → h.DictOf (intKind prog w) D kvs → IntVals kvs (ps.take i) →
      (∀ b o, b ≠ D → b ≠ I → s₀.heap.get? b = some o → h.get? b = some o) → ∀ j : Int,
      codeAny (model prog w) A (.builtin "dict.update.loop" ⟨[.ref D, .ref I, rawInt j, .none], []⟩) R { s₀ with heap := h, toks := tk } := by
  intro k
  induction k with
  | zero =>
    intro i h tk kvs hk hi hit hT hps hD hI keep j
    have hin : i = ps.length := by omega
    subst hin
    rw [List.take_length] at hI
    refine codeAny_builtin dict_loop_entry ?_
    rw [Around.under_plainId dict_loop_plain _]
    show wpAny _ A.in1 (pyNext (.ref I) >>= _) _ _ _
    refine wpAny_bind (wpAny_pyNext_tuple_end hh hit hT.isTup (by simp [hps.length]) fun h' he => ?_)
    dsimp only
    refine wpAny_bind (wpAny_pure (wpAny_pure ?_))
    refine hR h' tk kvs ?_ hI fun b o h1 h2 e => he b o h2 (keep b o h1 h2 e)
    obtain ⟨o, es, ep, ho, r⟩ := hD
    exact ⟨o, es, ep, he D o hDI ho, r⟩
  | succ k ih =>
    intro i h tk kvs hk hi hit hT hps hD hI keep j
    have hlt : i < ps.length := by omega
    have hlt' : i < vs.length := by rw [hps.length]; exact hlt
    obtain ⟨p, hp, a, t, u, hv, hA'⟩ := hps.get (List.getElem?_eq_getElem hlt')
    refine codeAny_builtin dict_loop_entry ?_
    rw [Around.under_plainId dict_loop_plain _]
    show wpAny _ A.in1 (pyNext (.ref I) >>= _) _ _ _
    refine wpAny_bind (wpAny_pyNext_tuple_item hit hT.isTup (x := vs[i]) (by simp [hlt']) fun h' hit' hs' => ?_)
    rw [hv]
    have haI : a ≠ I := by
      rintro rfl
      obtain ⟨o, ho, hc, _⟩ := hit
      obtain ⟨_, e⟩ := hA'
      rw [ho] at e; cases e
      exact absurd (show Value.type "tuple" = .type "tuple_iterator" from hc) (by decide)
    obtain ⟨na, ea⟩ := hA'
    have ea' := hs'.extBut a _ haI ea
    dsimp only
    refine wpAny_bind (wpAny_holding ?_)
    refine wpAny_bind (wpAny_tryCatch ?_)
    unfold Builtin.Dict.pairItems
    refine wpAny_bind (wpAny_typeOf (T := "tuple") ⟨_, ea', rfl⟩ ?_)
    rw [if_pos (by decide)]
    refine wpAny_bind (wpAny_seqItems ea' rfl (wpAny_pure ?_))
    dsimp only [Option.getD]
    refine wpAny_holding ?_
    have hD' : h'.DictOf (intKind prog w) D kvs := by
      obtain ⟨o, es, ep, ho, r⟩ := hD
      exact ⟨o, es, ep, hs'.extBut D o hDI ho, r⟩
    have hlk : kvs.length = i := by rw [hI.1, List.length_take]; omega
    refine wpAny_dictSet_pairs (k := p.1) (intKind_is _ _ _ _) hD' (fun h₂ hD₂ hs₂ => ?_) (by rw [hlk, sizeLine_eq]; omega)
    refine wpAny_pure ⟨plainId_quiet dict_loop_plain _, ?_⟩
    have hs₂' := hs₂.extBut
    have hfresh : ∀ q ∈ kvs, q.1 ≠ p.1 := by
      intro q hq e
      obtain ⟨j', hj'⟩ := List.mem_iff_getElem?.mp hq
      have hj : j' < kvs.length := (List.getElem?_eq_some_iff.mp hj').1
      rw [hlk] at hj
      have hjl : j' < ps.length := by omega
      obtain ⟨t', ht'⟩ := hI.2 j' ps[j'] (by rw [List.getElem?_take, if_pos hj]; exact List.getElem?_eq_getElem hjl)
      rw [hj'] at ht'
      have e1 : q.1 = ps[j'].1 := by have := Option.some.inj ht'; rw [this]
      have e2 : (ps.map (·.1))[j']? = (ps.map (·.1))[i]? := by
        rw [List.getElem?_map, List.getElem?_map, hp, List.getElem?_eq_getElem hjl]
        simp [← e1, e]
      have := (List.getElem?_inj (l := ps.map (·.1)) (by simpa using hjl) hn).mp e2
      omega
    rw [stored_new hfresh] at hD₂
    refine ih (i + 1) h₂ _ _ (by omega) hlt (hit'.at fun o e => hs₂' I o (Ne.symm hDI) e) ?_ ?_ hD₂ ?_ (fun b o h1 h2 e => hs₂' b o h1 (hs'.extBut b o h2 (keep b o h1 h2 e))) _
    · obtain ⟨n, e⟩ := hT
      exact ⟨n, hs₂' T _ (Ne.symm hDT) (hs'.extBut T _ hne e)⟩
    · have hTK : TK h h₂ := fun b o e k => by
        refine hs₂' b o ?_ (hs'.extBut b o ?_ e)
        · rintro rfl
          obtain ⟨o', es, ep, ho, hc, _⟩ := hD
          rw [ho] at e; cases e
          have := hc.1
          rw [k.1] at this; revert this; decide
        · rintro rfl
          obtain ⟨o', ho, hc, _⟩ := hit
          rw [ho] at e; cases e
          have := k.1
          rw [hc] at this; revert this; decide
      exact hps.tk hTK
    · refine ⟨by rw [List.length_append, hlk, List.length_take]; simp; omega, fun j' q hq => ?_⟩
      rw [List.getElem?_take] at hq
      by_cases hj : j' < i
      · rw [if_pos (by omega)] at hq
        obtain ⟨t', ht'⟩ := hI.2 j' q (by rw [List.getElem?_take, if_pos hj]; exact hq)
        exact ⟨t', by rw [List.getElem?_append_left (by omega)]; exact ht'⟩
      · have hj2 : j' = i := by
          by_cases h5 : j' < i + 1
          · omega
          · rw [if_neg h5] at hq; cases hq
        subst hj2
        rw [if_pos (by omega), hp] at hq
        cases hq
        exact ⟨u, by rw [List.getElem?_append_right (by omega), hlk]; simp⟩

theorem dict_pairs {a : Addr} {vs : List Value} {ps : Clk} {Q : Value → Shared → Prop} (hh : A.handled = none) (hT : XTup s.heap a (List.toArray vs)) (hps : PairsAll s.heap vs ps) (hn : (ps.map (·.1)).Nodup) (hlen : ps.length ≤ 1000)
    (h : ∀ h' tk, DInt prog w h' s.heap.objs.size ps → Sub s.heap h' → Q (.ref s.heap.objs.size) { s with heap := h', toks := tk }) :
    wpAny (model prog w) A (call (.type "dict") [.ref a]) Q E s := by
  refine callType_codes (Q₁ := fun obj s₁ => obj = .ref s.heap.objs.size ∧ s₁ = { s with heap := s.heap.push { cls := .type "dict", data := .dict #[] } }) F.kt_called_dict (F.kt_typeCall_dict_1 _) F.entry_dict_init (kt_code_dict_new _ ⟨rfl, rfl⟩) ?_
  rintro obj s₁ ⟨rfl, rfl⟩
  have hnew : (s.heap.push { cls := .type "dict", data := .dict #[] }).DictOf (intKind prog w) s.heap.objs.size [] := Heap.DictOf.new s.heap
  have hT' : XTup (s.heap.push { cls := .type "dict", data := .dict #[] }) a (List.toArray vs) := let ⟨n, e⟩ := hT; ⟨n, Heap.get?_push_of_some _ e⟩
  have hps' := hps.tk (h' := s.heap.push { cls := .type "dict", data := .dict #[] }) fun b o e _ => Heap.get?_push_of_some _ e
  have hda : s.heap.objs.size ≠ a := by
    obtain ⟨_, e⟩ := hT
    exact fun q => absurd (Heap.lt_size e) (by rw [q]; exact Nat.lt_irrefl _)
  refine ⟨hnew.typeIs, F.args_dict_init_2 _ _, ?_⟩
  unfold Builtin.«dict.__init__»
  refine wpAny_bind ?_
  unfold Builtin.Dict.selfAndRest
  refine wpAny_bind (wpAny_notOrdered_dict hnew.typeIs ?_)
  show wpAny _ _ (pure (s.heap.objs.size, [Value.ref a])) _ _ _
  refine wpAny_pure ?_
  show wpAny _ _ (Builtin.Dict.updateFrom "dict.__init__" s.heap.objs.size (.ref a) [] .none) _ _ _
  unfold Builtin.Dict.updateFrom
  refine wpAny_bind (wpAny_typeOf hT'.isTup.typeIs ?_)
  rw [if_pos (by decide)]
  refine wpAny_bind (getAttr?_miss_tuple (name := "keys") hT' (by rw [typeLookup_type, builtinLookup_eq_fast]; kernel_rfl) (by decide) hh fun h' tk hk => ?_)
  simp only [Option.isNone_none, if_true]
  refine wpAny_bind (wpAny_rule ?_)
  have hT₂ : XTup h' a (List.toArray vs) := let ⟨n, e⟩ := hT'; ⟨n, hk _ _ e⟩
  refine wpAny_bind (wpAny_pyIter_tuple hT₂.isTup ?_)
  have hD₂ : h'.DictOf (intKind prog w) s.heap.objs.size [] := by
    obtain ⟨o, es, ep, ho, r⟩ := hnew
    exact ⟨o, es, ep, hk _ _ ho, r⟩
  have hDlt : s.heap.objs.size < h'.objs.size := let ⟨_, _, _, ho, _⟩ := hD₂; Heap.lt_size ho
  have hit : (h'.push { cls := .type "tuple_iterator", data := .fields #[.ref a, .int 0 0] }).IsTupleIter h'.objs.size a 0 := ⟨_, Heap.get?_push_size _ rfl, rfl, rfl⟩
  have halt : a < h'.objs.size := let ⟨_, e⟩ := hT₂; Heap.lt_size e
  refine wpAny_pure ⟨plainId_quiet dict_loop_plain _, ?_⟩
  refine dict_loop (A := A.in1) (s₀ := { s with heap := h' }) (I := h'.objs.size) (T := a) (D := s.heap.objs.size) (vs := vs) (ps := ps) hh (Nat.ne_of_lt halt) (Nat.ne_of_lt hDlt) hda hlen hn
    (fun h₂ tk₂ kvs hD hI kp => ?_) ps.length 0 _ _ [] rfl (Nat.zero_le _) hit (let ⟨n, e⟩ := hT₂; ⟨n, Heap.get?_push_of_some _ e⟩)
    ((hps'.tk (TK.of_sub hk)).tk fun b o e _ => Heap.get?_push_of_some _ e) (let ⟨o, es, ep, ho, r⟩ := hD₂; ⟨o, es, ep, Heap.get?_push_of_some _ ho, r⟩) ⟨rfl, by simp⟩ (fun b o _ _ e => Heap.get?_push_of_some _ e) 0
  refine ⟨rfl, h _ _ ⟨kvs, hD, hI⟩ fun b o e => ?_⟩
  exact kp b o (Nat.ne_of_lt (Heap.lt_size e)) (Nat.ne_of_lt (Nat.lt_trans (Heap.lt_size e) hDlt)) (hk _ _ (Heap.get?_push_of_some _ e))
end
end Mine
end

section
open PySem PySem.W PyProof.Rows PySem.Calls PySem.Spec
set_option Elab.async false
set_option maxRecDepth 100000
namespace Mine

/-! the library's tree of a sort, under a strict order of the places -/
def at' (p : Array Nat) (i : Nat) : Nat := p.getD i 0
structure PermOf (n : Nat) (p : Array Nat) : Prop where
  perm : p.toList.Perm (List.range n)
theorem PermOf.size {n : Nat} {p : Array Nat} (P : PermOf n p) : p.size = n := by
  have := P.perm.length_eq; simpa using this
theorem PermOf.get {n : Nat} {p : Array Nat} (P : PermOf n p) {i : Nat} (h : i < n) : p[i]? = some (at' p i) := by
  have : i < p.size := by rw [P.size]; exact h
  simp [at', Array.getD, this]
theorem PermOf.lt {n : Nat} {p : Array Nat} (P : PermOf n p) {i : Nat} (h : i < n) : at' p i < n := by
  have hm : at' p i ∈ p.toList := by
    have := P.get h
    exact Array.mem_toList_iff.mpr (Array.mem_of_getElem? this)
  exact List.mem_range.mp (P.perm.mem_iff.mp hm)
theorem PermOf.ne {n : Nat} {p : Array Nat} (P : PermOf n p) {i j : Nat} (hi : i < n) (hj : j < n) (hij : i ≠ j) : at' p i ≠ at' p j := by
  intro e
  have hn : p.toList.Nodup := P.perm.nodup_iff.mpr List.nodup_range
  have e1 := P.get hi
  have e2 := P.get hj
  rw [e, ← e2, ← Array.getElem?_toList, ← Array.getElem?_toList] at e1
  have hil : i < p.toList.length := by rw [Array.length_toList, P.size]; exact hi
  exact hij ((List.getElem?_inj hil hn).mp e1)
theorem PermOf.mirror {n : Nat} {p : Array Nat} (P : PermOf n p) (i j d : Nat) : PermOf n (mirror p i j d) := ⟨(Array.perm_iff_toList_perm.mp (mirror_perm p i j d)).trans P.perm⟩
theorem PermOf.bubble {n : Nat} {p : Array Nat} (P : PermOf n p) (i d : Nat) : PermOf n (bubble p i d) := ⟨(Array.perm_iff_toList_perm.mp (bubble_perm p i d)).trans P.perm⟩

section
variable {n : Nat} {lt : Nat → Nat → Bool} {cmp : Nat → Nat → (Bool → Shared → Prop) → Shared → Prop} {s : Shared}
def Asc (lt : Nat → Nat → Bool) (p : Array Nat) (m : Nat) : Prop := ∀ i j, i < j → j < m → lt (at' p i) (at' p j) = true
def Desc (lt : Nat → Nat → Bool) (p : Array Nat) (m : Nat) : Prop := ∀ i j, i < j → j < m → lt (at' p j) (at' p i) = true
structure Strict (n : Nat) (lt : Nat → Nat → Bool) : Prop where
  trans : ∀ i j k, i < n → j < n → k < n → lt i j = true → lt j k = true → lt i k = true
  total : ∀ i j, i < n → j < n → i ≠ j → lt i j = false → lt j i = true
def Cmp (n : Nat) (lt : Nat → Nat → Bool) (cmp : Nat → Nat → (Bool → Shared → Prop) → Shared → Prop) (s : Shared) : Prop := ∀ i j (C : Bool → Shared → Prop), i < n → j < n → C (lt i j) s → cmp i j C s

theorem Asc.succ {p : Array Nat} {m : Nat} (S : Strict n lt) (P : PermOf n p) (hm : m < n) (A : Asc lt p m) (h : lt (at' p (m - 1)) (at' p m) = true) : Asc lt p (m + 1) := by
  intro i j hij hj
  by_cases q : j = m
  · subst q
    by_cases q' : i = j - 1
    · rw [q']; exact h
    · exact S.trans _ _ _ (P.lt (by omega)) (P.lt (by omega)) (P.lt hm) (A i (j - 1) (by omega) (by omega)) h
  · exact A i j hij (by omega)
theorem Desc.succ {p : Array Nat} {m : Nat} (S : Strict n lt) (P : PermOf n p) (hm : m < n) (A : Desc lt p m) (h : lt (at' p m) (at' p (m - 1)) = true) : Desc lt p (m + 1) := by
  intro i j hij hj
  by_cases q : j = m
  · subst q
    by_cases q' : i = j - 1
    · rw [q']; exact h
    · exact S.trans _ _ _ (P.lt hm) (P.lt (by omega)) (P.lt (by omega)) h (A i (j - 1) (by omega) (by omega))
  · exact A i j hij (by omega)

theorem asc_ok {p : Array Nat} {Q : Nat → Shared → Prop} (S : Strict n lt) (hc : Cmp n lt cmp s) (P : PermOf n p) : ∀ (f m : Nat), 1 ≤ m → m + f = n → Asc lt p m →
    (∀ r, m ≤ r → r ≤ n → Asc lt p r → (r = n ∨ lt (at' p r) (at' p (r - 1)) = true) → Q r s) → (kas_asc p f m).kasWp cmp Q s
  | 0, m, _, hm, A, k => k m (Nat.le_refl _) (by omega) A (.inl (by omega))
  | f + 1, m, h1, hm, A, k => by
    show cmp (at' p m) (at' p (m - 1)) (fun c s' => (if c = true then KasT.ret m else kas_asc p f (m + 1)).kasWp cmp Q s') s
    refine hc _ _ _ (P.lt (by omega)) (P.lt (by omega)) ?_
    cases q : lt (at' p m) (at' p (m - 1)) with
    | true => simp only [if_true]; exact k m (Nat.le_refl _) (by omega) A (.inr q)
    | false =>
      simp only [Bool.false_eq_true, if_false]
      refine asc_ok S hc P f (m + 1) (by omega) (by omega) (A.succ S P (by omega) (S.total _ _ (P.lt (by omega)) (P.lt (by omega)) (P.ne (by omega) (by omega) (by omega)) q)) fun r a b => k r (by omega) b

theorem desc_ok {p : Array Nat} {Q : Array Nat × Nat × Nat → Shared → Prop} (S : Strict n lt) (hc : Cmp n lt cmp s) (P : PermOf n p) : ∀ (f m : Nat), 1 ≤ m → m + f = n → Desc lt p m →
    (∀ r, m ≤ r → r ≤ n → Desc lt p r → Q (p, r, 0) s) → (kas_desc f p m 0).kasWp cmp Q s
  | 0, m, _, hm, A, k => k m (Nat.le_refl _) (by omega) A
  | f + 1, m, h1, hm, A, k => by
    show cmp (at' p m) (at' p (m - 1)) (fun c s' => (if c = true then (if 0 > 0 then kas_desc f (kas_rev p (m - (0 + 1)) m) (m + 1) 0 else kas_desc f p (m + 1) 0)
      else KasT.ask (at' p (m - 1)) (at' p m) fun d => if d = true then KasT.ret (p, m, 0) else kas_desc f p (m + 1) (0 + 1)).kasWp cmp Q s') s
    refine hc _ _ _ (P.lt (by omega)) (P.lt (by omega)) ?_
    cases q : lt (at' p m) (at' p (m - 1)) with
    | true =>
      simp only [if_true, Nat.lt_irrefl, if_false, gt_iff_lt]
      exact desc_ok S hc P f (m + 1) (by omega) (by omega) (A.succ S P (by omega) q) fun r a b => k r (by omega) b
    | false =>
      simp only [Bool.false_eq_true, if_false]
      have q2 := S.total _ _ (P.lt (by omega)) (P.lt (by omega)) (P.ne (by omega) (by omega) (by omega)) q
      show cmp (at' p (m - 1)) (at' p m) (fun d s' => (if d = true then KasT.ret (p, m, 0) else kas_desc f p (m + 1) (0 + 1)).kasWp cmp Q s') s
      refine hc _ _ _ (P.lt (by omega)) (P.lt (by omega)) ?_
      rw [q2]
      simp only [if_true]
      exact k m (Nat.le_refl _) (by omega) A

theorem rev_at {p : Array Nat} {m : Nat} (P : PermOf n p) (hm : m ≤ n) {k : Nat} (hk : k < m) : at' (kas_rev p 0 m) k = at' p (m - 1 - k) := by
  have e := getElem?_mirror_all (xs := p) (i := 0) (j := m) (by rw [P.size]; exact hm) k
  have P' : PermOf n (kas_rev p 0 m) := P.mirror 0 m _
  have e1 := P'.get (i := k) (by omega)
  unfold kas_rev at e1 ⊢
  rw [e, if_pos (by omega)] at e1
  rw [show 0 + m - 1 - k = m - 1 - k by omega, P.get (i := m - 1 - k) (by omega)] at e1
  exact (Option.some.inj e1).symm

theorem count_ok {p : Array Nat} {Q : Nat × Array Nat → Shared → Prop} (S : Strict n lt) (hc : Cmp n lt cmp s) (P : PermOf n p) (h1 : 1 ≤ n)
    (k : ∀ r p', 1 ≤ r → r ≤ n → PermOf n p' → Asc lt p' r → Q (r, p') s) : (kas_count n p).kasWp cmp Q s := by
  unfold kas_count
  rw [KasT.kasWp_bind]
  refine asc_ok S hc P (n - 1) 1 (Nat.le_refl _) (by omega) (fun i j a b => by omega) fun r hr1 hr2 A hend => ?_
  by_cases q : r = n
  · subst q
    simp only [beq_self_eq_true, if_true]
    exact k r p hr1 hr2 P A
  · have hend := hend.resolve_left q
    rw [if_neg (by simpa using q)]
    by_cases q2 : r > 1
    · rw [if_pos q2]
      show cmp (at' p 0) (at' p (r - 1)) (fun c s' => (if c = true then KasT.ret (r, p) else kas_descPart r n (kas_rev p 0 r)).kasWp cmp Q s') s
      refine hc _ _ _ (P.lt (by omega)) (P.lt (by omega)) ?_
      rw [A 0 (r - 1) (by omega) (by omega)]
      simp only [if_true]
      exact k r p hr1 hr2 P A
    · rw [if_neg q2]
      have : r = 1 := by omega
      subst this
      unfold kas_descPart
      rw [KasT.kasWp_bind]
      refine desc_ok S hc P (n - (1 + 1)) (1 + 1) (by omega) (by omega) (fun i j a b => ?_) fun m hm1 hm2 D => ?_
      · have : i = 0 := by omega
        have : j = 1 := by omega
        subst_vars
        exact hend
      · dsimp only
        rw [if_neg (by omega)]
        unfold kas_tail3
        rw [KasT.kasWp_bind]
        have P' : PermOf n (kas_rev p 0 m) := P.mirror 0 m _
        refine asc_ok S hc P' (n - m) m (by omega) (by omega) (fun i j a b => ?_) fun r' a b A' _ => ?_
        · rw [rev_at P hm2 (by omega), rev_at P hm2 (by omega)]
          exact D _ _ (by omega) (by omega)
        · exact k r' _ (by omega) b P' A'

theorem place_ok {p : Array Nat} {m : Nat} {Q : Nat → Shared → Prop} (S : Strict n lt) (hc : Cmp n lt cmp s) (P : PermOf n p) (hm : m < n) (A : Asc lt p m) : ∀ (f l r : Nat), l ≤ r → r ≤ m → r - l ≤ f →
    (∀ i, i < l → lt (at' p i) (at' p m) = true) → (∀ i, r ≤ i → i < m → lt (at' p m) (at' p i) = true) →
    (∀ l', l' ≤ m → (∀ i, i < l' → lt (at' p i) (at' p m) = true) → (∀ i, l' ≤ i → i < m → lt (at' p m) (at' p i) = true) → Q l' s) → (kas_place p m f l r).kasWp cmp Q s
  | 0, l, r, h1, h2, h3, lo, hi, k => k l (by omega) lo fun i a b => hi i (by omega) b
  | f + 1, l, r, h1, h2, h3, lo, hi, k => by
    unfold kas_place
    by_cases q : l ≥ r
    · rw [if_pos q]
      exact k l (by omega) lo fun i a b => hi i (by omega) b
    · rw [if_neg q]
      have e1 : l ≤ (l + r) / 2 := by omega
      have e2 : (l + r) / 2 < r := by omega
      show cmp (at' p m) (at' p ((l + r) / 2)) (fun c s' => (if c = true then kas_place p m f l ((l + r) / 2) else kas_place p m f ((l + r) / 2 + 1) r).kasWp cmp Q s') s
      refine hc _ _ _ (P.lt hm) (P.lt (by omega)) ?_
      cases c : lt (at' p m) (at' p ((l + r) / 2)) with
      | true =>
        simp only [if_true]
        refine place_ok S hc P hm A f l _ e1 (by omega) (by omega) lo (fun i a b => ?_) k
        by_cases q' : i = (l + r) / 2
        · rw [q']; exact c
        · exact S.trans _ _ _ (P.lt hm) (P.lt (by omega)) (P.lt (by omega)) c (A _ _ (by omega) b)
      | false =>
        simp only [Bool.false_eq_true, if_false]
        have c' := S.total _ _ (P.lt hm) (P.lt (by omega)) (P.ne hm (by omega) (by omega)) c
        refine place_ok S hc P hm A f _ r (by omega) h2 (by omega) (fun i a => ?_) hi k
        by_cases q' : i = (l + r) / 2
        · rw [q']; exact c'
        · exact S.trans _ _ _ (P.lt (by omega)) (P.lt (by omega)) (P.lt hm) (A _ _ (by omega) (by omega)) c'

theorem bubble_at {p : Array Nat} {m l : Nat} (P : PermOf n p) (hm : m < n) (hl : l ≤ m) {k : Nat} (hk : k < n) :
    at' (bubble p m (m - l)) k = if k = l then at' p m else if l < k ∧ k ≤ m then at' p (k - 1) else at' p k := by
  have e := getElem?_bubble (xs := p) (src := m) (by rw [P.size]; exact hm) (m - l) (by omega) k
  have e1 := (P.bubble m (m - l)).get hk
  rw [e, show m - (m - l) = l by omega] at e1
  by_cases q : k = l
  · rw [if_pos q] at e1 ⊢
    rw [P.get hm] at e1
    exact (Option.some.inj e1).symm
  · rw [if_neg q] at e1 ⊢
    by_cases q2 : l < k ∧ k ≤ m
    · rw [if_pos q2] at e1 ⊢
      rw [P.get (by omega)] at e1
      exact (Option.some.inj e1).symm
    · rw [if_neg q2] at e1 ⊢
      rw [P.get hk] at e1
      exact (Option.some.inj e1).symm

theorem bin_ok {Q : Array Nat → Shared → Prop} (S : Strict n lt) (hc : Cmp n lt cmp s) (k : ∀ p', PermOf n p' → Asc lt p' n → Q p' s) : ∀ (f m : Nat) (p : Array Nat), PermOf n p → m + f = n → Asc lt p m → (kas_bin f p m).kasWp cmp Q s
  | 0, m, p, P, hm, A => by
    have : m = n := by omega
    subst this
    exact k p P A
  | f + 1, m, p, P, hm, A => by
    unfold kas_bin
    rw [KasT.kasWp_bind]
    refine place_ok S hc P (by omega) A m 0 m (Nat.zero_le _) (Nat.le_refl _) (by omega) (fun i a => by omega) (fun i a b => by omega) fun l hl lo hi => ?_
    refine bin_ok S hc k f (m + 1) _ (P.bubble _ _) (by omega) fun i j hij hj => ?_
    rw [bubble_at P (by omega) hl (by omega), bubble_at P (by omega) hl (by omega)]
    by_cases a1 : i = l
    · rw [if_pos a1, if_neg (by omega), if_pos (by omega)]
      exact hi _ (by omega) (by omega)
    · rw [if_neg a1]
      by_cases a2 : l < i ∧ i ≤ m
      · rw [if_pos a2, if_neg (by omega), if_pos (by omega)]
        exact A _ _ (by omega) (by omega)
      · rw [if_neg a2]
        by_cases b1 : j = l
        · rw [if_pos b1]; exact lo _ (by omega)
        · rw [if_neg b1]
          by_cases b2 : l < j ∧ j ≤ m
          · rw [if_pos b2]
            by_cases c1 : i < j - 1
            · exact A _ _ c1 (by omega)
            · exact absurd b2 (by omega)
          · rw [if_neg b2]; exact A _ _ hij (by omega)

theorem sort_ok {Q : Array Nat → Shared → Prop} (S : Strict n lt) (hc : Cmp n lt cmp s) (h1 : 1 ≤ n) (k : ∀ p', PermOf n p' → Asc lt p' n → Q p' s) : (kas_sort n).kasWp cmp Q s := by
  unfold kas_sort
  rw [KasT.kasWp_bind]
  refine count_ok S hc ⟨by simp⟩ h1 fun r p' a b P A => ?_
  dsimp only
  by_cases q : r < n
  · rw [if_pos q, show max r 1 = r by omega]
    exact bin_ok S hc k (n - r) r p' P (by omega) A
  · rw [if_neg q]
    have : r = n := by omega
    subst this
    exact k p' P A
end

/-! the sort of a list of pairs of ints -/
def plt (p q : Int × Int) : Bool := decide (p.1 < q.1) || (decide (p.1 = q.1) && decide (p.2 < q.2))
theorem plt_trans {a b c : Int × Int} (h : plt a b = true) (k : plt b c = true) : plt a c = true := by
  simp only [plt, Bool.or_eq_true, Bool.and_eq_true, decide_eq_true_eq] at *
  omega
theorem plt_total {a b : Int × Int} (n : a ≠ b) (h : plt a b = false) : plt b a = true := by
  obtain ⟨a1, a2⟩ := a
  obtain ⟨b1, b2⟩ := b
  simp only [plt, Bool.or_eq_true, Bool.and_eq_true, decide_eq_true_eq, Bool.or_eq_false_iff, Bool.and_eq_false_iff, decide_eq_false_iff_not, ne_eq, Prod.mk.injEq, not_and] at *
  omega

section
variable {prog : Program} {w : World} {A : Around} {E : Value → Shared → Prop} {s : Shared}

theorem pair_lt {x y : Value} {p q : Int × Int} {Q : Bool → Shared → Prop} (hx : PairAt s.heap x p) (hy : PairAt s.heap y q) (h : Q (plt p q) s) : wpAny (model prog w) A (keyLt' (tuples' true) x y) Q E s := by
  obtain ⟨a, t, u, rfl, n, ea⟩ := hx
  obtain ⟨b, t', u', rfl, n', eb⟩ := hy
  refine kat_lt ea rfl eb rfl ?_
  show KatLex prog w A true false Q [(.int p.1 t, .int q.1 t'), (.int p.2 u, .int q.2 u')] 0 s
  refine kat_cons ((intKind prog w).eqBool (a := p.1) (b := q.1) (intKind_is _ _ _ _) (intKind_is _ _ _ _) ?_)
  refine kat_go (fun e => ?_) (fun e => ?_)
  · have e := of_decide_eq_true e
    refine kat_yes (kat_cons ((intKind prog w).eqBool (a := p.2) (b := q.2) (intKind_is _ _ _ _) (intKind_is _ _ _ _) ?_))
    refine kat_go (fun e2 => ?_) (fun e2 => ?_)
    · have e2 := of_decide_eq_true e2
      refine kat_yes (kat_nil ?_)
      have : plt p q = false := by simp [plt, e, e2]
      rw [← this]; exact h
    · have e2 := of_decide_eq_false e2
      refine kat_no ?_
      show wpAny _ _ (oneLt' false _ _) _ _ _
      refine kat_one _ _ (lt_int ?_)
      have : plt p q = decide (p.2 < q.2) := by simp [plt, e]
      rw [← this]; exact h
  · have e := of_decide_eq_false e
    refine kat_no ?_
    show wpAny _ _ (oneLt' true _ _) _ _ _
    refine oneLt_int ?_
    have : plt p q = decide (p.1 < q.1) := by simp [plt, e]
    rw [← this]; exact h

theorem katTups_of {h : Heap} {vs : List Value} {ps : Clk} (x : PairsAll h vs ps) : ∃ fs, KatTups h vs fs ∧ fs.length = vs.length ∧ ∀ v ∈ fs, ∃ i t, v = .int i t := by
  induction x with
  | nil => exact ⟨[], .nil, rfl, by simp⟩
  | cons a _ ih =>
    obtain ⟨fs, k, e, hi⟩ := ih
    obtain ⟨b, t, u, rfl, n, eb⟩ := a
    refine ⟨_ :: fs, .cons eb rfl rfl rfl k, by simp [e], fun v hv => ?_⟩
    rcases List.mem_cons.mp hv with rfl | hv
    · exact ⟨_, _, rfl⟩
    · exact hi v hv

theorem pairs_kind {vs : List Value} {ps : Clk} {Q : SortKind → Shared → Prop} (x : PairsAll s.heap vs ps) (h1 : 1 ≤ vs.length) (h : Q (tuples' true) s) : wpAny (model prog w) A (keyKind' vs.toArray) Q E s := by
  obtain ⟨fs, k, e, hi⟩ := katTups_of x
  refine kat_kind (T := .type "int") k (by omega) (fun v hv => ?_) (by decide) ?_
  · obtain ⟨i, t, rfl⟩ := hi v hv
    exact Looks.of_pure rfl
  · show Q (tuples' (Value.type "int" != Value.type "tuple")) s
    rw [show (Value.type "int" != Value.type "tuple") = true by decide]; exact h

theorem perm_pick {h : Heap} {vs : List Value} {ps : Clk} (x : PairsAll h vs ps) : ∀ (l : List Nat), (∀ i ∈ l, i < vs.length) → PairsAll h (l.map fun i => vs.getD i .none) (l.map fun i => ps.getD i (0, 0))
  | [], _ => .nil
  | i :: r, hl => by
    have hi := hl i (.head _)
    obtain ⟨p, hp, hx⟩ := x.get (List.getElem?_eq_getElem hi)
    refine .cons ?_ (perm_pick x r fun j hj => hl j (.tail _ hj))
    have e1 : vs.getD i .none = vs[i] := by simp [hi]
    have e2 : ps.getD i (0, 0) = p := by rw [List.getD_eq_getElem?_getD, hp]; rfl
    show PairAt h (vs.getD i .none) (ps.getD i (0, 0))
    rw [e1, e2]; exact hx
theorem perm_map {ps : Clk} : (List.range ps.length).map (fun i => ps.getD i (0, 0)) = ps := by
  apply List.ext_getElem
  · simp
  · intro i h1 h2
    simp [h2]

theorem list_no_tup {vs : Array Value} {n : Nat} (k : TupO (seqObj "list" vs n)) : False := absurd (show Value.type "list" = .type "tuple" from k.1) (by decide)
theorem pair_short {α : Type} {R : α → α → Prop} : ∀ {l : List α}, l.length ≤ 1 → l.Pairwise R
  | [], _ => List.Pairwise.nil
  | [_], _ => List.pairwise_singleton _ _
theorem short_out (vs : List Value) (h : vs.length < 2) : (arrOf (SortSt.mk' general' (vs.toArray.zip vs.toArray) #[] 7 none)).map (·.2) = List.toArray ((List.range vs.length).map fun i => vs.getD i Value.none) := by
  rcases vs with _ | ⟨x, _ | ⟨y, vs⟩⟩
  · show Array.map _ ((#[] : Array Value).zip #[]) = _; simp
  · show Array.map _ ((#[x] : Array Value).zip #[x]) = _; simp
  · simp only [List.length_cons] at h; omega
theorem list_sort_pairs {a : Addr} {vs : List Value} {ps : Clk} {n : Nat} {P : PySem.Fin → Shared → Prop} (ho : s.heap.get? a = some (seqObj "list" vs.toArray n)) (hps : PairsAll s.heap vs ps) (hnd : ps.Nodup) (h64 : vs.length < 64)
    (h : ∀ h' vs' ps' n', h'.get? a = some (seqObj "list" (List.toArray vs') n') → (∀ b o, b ≠ a → s.heap.get? b = some o → h'.get? b = some o) → PairsAll h' vs' ps' → ps'.Perm ps → ps'.Pairwise (fun p q => plt p q = true) → P (.done (.ret .none)) { s with heap := h' }) :
    wpAny (model prog w) A (Builtin.«list.sort» ⟨[.ref a], []⟩) P E s := by
  have ha : a < s.heap.objs.size := Heap.lt_size ho
  have hlen := hps.length
  obtain ⟨e1, ho1⟩ : ∃ e1, (s.heap.update a (Obj.mapSeq fun _ => (#[] : Array Value))).get? a = some (seqObj "list" #[] e1) := ⟨_, get?_update_seq ho fun _ => #[]⟩
  rw [list_sort_plain]
  refine wpAny_bind (listItems_at ho rfl ?_)
  refine wpAny_bind (listUpdate_at ho rfl ?_ (by rw [List.size_toArray, sizeLine_eq]; omega) (Nat.zero_le _))
  refine wpAny_bind (seqEpoch_at ho1 rfl ?_)
  refine wpAny_bind (wpAny_newTuple ?_ (by show vs.length ≤ _; rw [sizeLine_eq]; omega))
  refine wpAny_bind (wpAny_newList ?_ (Nat.zero_le _))
  refine wpAny_holding ?_
  have hk0 : ∀ b o, b ≠ a → s.heap.get? b = some o → (s.heap.update a (Obj.mapSeq fun _ => (#[] : Array Value))).get? b = some o := fun b o hb e => (Heap.get?_update_other _ _ (Ne.symm hb)).trans e
  show wpAny (model prog w) A _ P E { s with heap := ((s.heap.update a (Obj.mapSeq fun _ => (#[] : Array Value))).push (seqObj "tuple" vs.toArray 0)).push (seqObj "list" #[] 0) }
  generalize hH : ((s.heap.update a (Obj.mapSeq fun _ => (#[] : Array Value))).push (seqObj "tuple" vs.toArray 0)).push (seqObj "list" #[] 0) = H
  have hkH : ∀ b o, b ≠ a → s.heap.get? b = some o → H.get? b = some o := fun b o hb e => hH ▸ Heap.get?_push_of_some _ (Heap.get?_push_of_some _ (hk0 b o hb e))
  have hoH : H.get? a = some (seqObj "list" #[] e1) := hH ▸ Heap.get?_push_of_some _ (Heap.get?_push_of_some _ ho1)
  have tkH : TK s.heap H := fun b o e k => hkH b o (fun q => by subst q; rw [ho] at e; cases e; exact list_no_tup k) e
  have hpsH := hps.tk tkH
  have fin : ∀ (l : List Nat), l.Perm (List.range vs.length) → (ps.length ≤ 1 ∨ Asc (fun i j => plt (ps.getD i (0, 0)) (ps.getD j (0, 0))) l.toArray vs.length) →
      P (.done (.ret .none)) { s with heap := H.update a (Obj.mapSeq fun _ => List.toArray (l.map fun i => vs.getD i Value.none)) } := by
    intro l hl hA
    obtain ⟨c2, hc2⟩ : ∃ c2, (H.update a (Obj.mapSeq fun _ => List.toArray (l.map fun i => vs.getD i Value.none))).get? a = some (seqObj "list" (List.toArray (l.map fun i => vs.getD i Value.none)) c2) := ⟨_, get?_update_seq hoH fun _ => List.toArray (l.map fun i => vs.getD i Value.none)⟩
    have hk2 : ∀ b o, b ≠ a → H.get? b = some o → (H.update a (Obj.mapSeq fun _ => List.toArray (l.map fun i => vs.getD i Value.none))).get? b = some o := fun b o hb e => (Heap.get?_update_other _ _ (Ne.symm hb)).trans e
    have tk2 : TK H (H.update a (Obj.mapSeq fun _ => List.toArray (l.map fun i => vs.getD i Value.none))) := fun b o e k => hk2 b o (fun q => by subst q; rw [hoH] at e; cases e; exact list_no_tup k) e
    refine h _ _ (l.map fun i => ps.getD i (0, 0)) c2 hc2 (fun b o hb e => hk2 b o hb (hkH b o hb e)) ((perm_pick hpsH l fun i hi => List.mem_range.mp (hl.mem_iff.mp hi)).tk tk2) ?_ ?_
    · have := hl.map fun i => ps.getD i (0, 0)
      rw [hlen, perm_map] at this
      exact this
    · have hll : l.length = vs.length := by simpa using hl.length_eq
      rcases hA with hA | hA
      · have : l.length ≤ 1 := by omega
        exact pair_short (by simpa using this)
      · rw [List.pairwise_iff_getElem]
        intro i j hi hj hij
        simp only [List.length_map] at hi hj
        have := hA i j hij (by omega)
        simp only [at', Array.getD, List.size_toArray, hi, hj, dif_pos] at this
        simpa using this
  dsimp only
  by_cases h2 : vs.toArray.size < 2
  · have h2' : vs.length < 2 := by simpa using h2
    rw [if_pos h2, if_pos h2]
    refine wpAny_bind (wpAny_pure ?_)
    rw [StateT.run_pure]
    refine wpAny_bind (wpAny_pure ?_)
    dsimp only
    have hout : (arrOf (SortSt.mk' general' (vs.toArray.zip vs.toArray) #[] 7 none)).map (·.2) = List.toArray ((List.range vs.length).map fun i => vs.getD i Value.none) := short_out vs h2'
    rw [hout]
    refine wpAny_bind (seqEpoch_at hoH rfl ?_)
    refine wpAny_bind (listUpdate_at hoH rfl ?_ (Nat.zero_le _) (by rw [List.size_toArray, List.length_map, List.length_range, sizeLine_eq]; omega))
    simp only [bne_self_eq_false, Bool.false_eq_true, if_false]
    exact wpAny_pure (fin (List.range vs.length) (List.Perm.refl _) (.inl (by omega)))
  · have h2' : 2 ≤ vs.length := by simpa using h2
    rw [if_neg h2, if_neg h2]
    refine wpAny_bind (pairs_kind hpsH (by omega) ?_)
    have hS : Strict vs.length (fun i j => plt (ps.getD i (0, 0)) (ps.getD j (0, 0))) := ⟨fun i j k _ _ _ => plt_trans, fun i j hi hj hij => plt_total fun e => hij ?_⟩
    · refine wpAny_bind (wpAny_mono (kat_run (s := { s with heap := H }) (ks := vs) (Q := fun st' s' => s' = { s with heap := H } ∧ ∃ p : Array Nat, PermOf vs.length p ∧ Asc (fun i j => plt (ps.getD i (0, 0)) (ps.getD j (0, 0))) p vs.length ∧ arrOf st' = p.map (kas_item (vs.toArray.zip vs.toArray)) ∧ failedOf st' = none)
        (G := fun p s' => s' = { s with heap := H } ∧ PermOf vs.length p ∧ Asc (fun i j => plt (ps.getD i (0, 0)) (ps.getD j (0, 0))) p vs.length) rfl h2' h64 (fun p st' s' _ b c d => ⟨d.1, p, d.2.1, d.2.2, b, c⟩)
        (sort_ok hS (fun i j C hi hj hC => ?_) (by omega) fun p' P' A' => ⟨rfl, P', A'⟩)) ?_ fun _ _ x => x)
      · unfold kas_ask
        have hi' : i < ps.length := by omega
        have hj' : j < ps.length := by omega
        obtain ⟨p1, hp1, hx1⟩ := hpsH.get (List.getElem?_eq_getElem hi)
        obtain ⟨p2, hp2, hx2⟩ := hpsH.get (List.getElem?_eq_getElem hj)
        have e1 : vs.getD i .none = vs[i] := by simp [hi]
        have e2 : vs.getD j .none = vs[j] := by simp [hj]
        rw [e1, e2]
        refine pair_lt (s := { s with heap := H }) hx1 hx2 ?_
        rw [List.getD_eq_getElem?_getD, List.getD_eq_getElem?_getD, hp1, hp2] at hC
        exact hC
      · rintro ⟨⟨⟩, st'⟩ s' ⟨rfl, p, P', A', har, hf⟩
        dsimp only
        have hout := kat_snds (ks := vs) (vs := vs) rfl har
        rw [hout]
        refine wpAny_bind (seqEpoch_at hoH rfl ?_)
        refine wpAny_bind (listUpdate_at hoH rfl ?_ (Nat.zero_le _) (by rw [List.size_toArray, List.length_map, Array.length_toList, P'.size, sizeLine_eq]; omega))
        rw [hf]
        simp only [bne_self_eq_false, Bool.false_eq_true, if_false]
        exact wpAny_pure (fin p.toList P'.perm (.inr (by simpa using A')))
    · have hi' : i < ps.length := by omega
      have hj' : j < ps.length := by omega
      rw [List.getD_eq_getElem?_getD, List.getD_eq_getElem?_getD, List.getElem?_eq_getElem hi', List.getElem?_eq_getElem hj'] at e
      exact (List.getElem?_inj hi' hnd).mp (by rw [List.getElem?_eq_getElem hi', List.getElem?_eq_getElem hj']; simpa using e)

/-- sorted(<a list of pairs>) -/
theorem sorted_list {l : Addr} {ps : Clk} {Q : Value → Shared → Prop} (hl : LstAt s.heap l ps) (hnd : ps.Nodup) (h64 : ps.length < 64)
    (h : ∀ h' b ps', LstAt h' b ps' → s.heap.get? b = none → Sub s.heap h' → ps'.Perm ps → ps'.Pairwise (fun p q => plt p q = true) → Q (.ref b) { s with heap := h' }) :
    wpAny (model prog w) A (call (.builtin "sorted") [.ref l]) Q E s := by
  obtain ⟨vs, hL, hps⟩ := hl
  have hlen := hps.length
  refine Calls.call_function_entry kind_sorted plain_sorted entry_sorted (args_sorted1 _) ?_
  unfold Builtin.«sorted»
  refine wpAny_bind (m := checkCount "sorted" 1 1 _) (wpAny_pure ?_)
  refine wpAny_bind (collect_list hL ?_ (by rw [sizeLine_eq]; omega))
  refine wpAny_bind (wpAny_newList ?_ (by rw [sizeLine_eq]; omega))
  generalize hH : (s.heap.push (seqObj "list" #[] 0)).update s.heap.objs.size (Obj.mapSeq (· ++ vs.toArray)) = H
  have hsz : H.objs.size = s.heap.objs.size + 1 := by rw [← hH, Heap.size_update, size_push']
  have keep : Sub s.heap H := fun b o q => by
    have hlt : b < s.heap.objs.size := Heap.lt_size q
    rw [← hH, Heap.get?_update_ne _ _ _ _ (Nat.ne_of_lt hlt), Heap.get?_push_ne _ _ _ (Nat.ne_of_lt hlt)]
    exact q
  have hoL : (H.push (seqObj "list" vs.toArray 0)).get? H.objs.size = some (seqObj "list" vs.toArray 0) := Heap.get?_push_size _ rfl
  show wpAny _ _ _ _ _ { s with heap := H.push (seqObj "list" vs.toArray 0) }
  have keep2 : Sub s.heap (H.push (seqObj "list" vs.toArray 0)) := fun b o q => Heap.get?_push_of_some _ (keep b o q)
  refine wpAny_bind (wpAny_holding (wpAny_call_entry slot_list_sort ⟨_, hoL, rfl⟩ entry_list_sort (list_sort_pairs hoL (hps.tk (TK.of_sub keep2)) hnd (by omega) fun h' vs' ps' n' a1 a2 a3 a4 a5 => ⟨_, rfl, ?_⟩) (args_list_sort _)))
  refine wpAny_pure ⟨_, rfl, h h' _ ps' ⟨vs', ⟨_, a1, rfl, n', rfl⟩, a3⟩ ?_ (fun b o e => a2 b o (fun q => ?_) (keep2 b o e)) a4 a5⟩
  · cases q : s.heap.get? H.objs.size with
    | none => rfl
    | some o => exact absurd (Nat.lt_of_le_of_lt (Nat.le_of_lt (Nat.lt_of_lt_of_eq (Nat.lt_succ_self _) hsz.symm)) (Heap.lt_size q)) (Nat.lt_irrefl _)
  · exact absurd (Nat.lt_trans (Nat.lt_of_lt_of_eq (Nat.lt_succ_self _) (hsz.symm.trans q.symm)) (Heap.lt_size e)) (Nat.lt_irrefl _)
end
end Mine
end

section
open PySem PySem.W PyProof.Rows PySem.Calls PySem.Spec
set_option Elab.async false
set_option maxRecDepth 100000
namespace Mine
section
variable {prog : Program} {w : World} {A : Around} {E : Value → Shared → Prop} {s : Shared}

theorem dictAt_of {K : Type} [DecidableEq K] {knd : KeyKind prog w K} {h : Heap} {d : Addr} {kvs : List (K × Value)} (x : h.DictOf knd d kvs) : ∃ ep, h.DictAt knd d kvs ep :=
  let ⟨o, es, ep, ho, r⟩ := x; ⟨ep, o, es, ho, r⟩
theorem dict_sub {K : Type} [DecidableEq K] {knd : KeyKind prog w K} {h h' : Heap} {d : Addr} {kvs : List (K × Value)} (x : h.DictOf knd d kvs) (k : ∀ o, h.get? d = some o → h'.get? d = some o) : h'.DictOf knd d kvs :=
  let ⟨o, es, ep, ho, r⟩ := x; ⟨o, es, ep, k o ho, r⟩
theorem dict_no_tup {K : Type} [DecidableEq K] {knd : KeyKind prog w K} {h : Heap} {d : Addr} {kvs : List (K × Value)} (x : h.DictOf knd d kvs) : ∀ o, h.get? d = some o → ¬ TupO o := fun o e k => by
  obtain ⟨o', es, ep, ho, hx, _⟩ := x
  rw [ho] at e; cases e
  exact absurd (k.1.symm.trans hx.1) (by decide)
theorem dict_live {K : Type} [DecidableEq K] {knd : KeyKind prog w K} {h : Heap} {d : Addr} {kvs : List (K × Value)} (x : h.DictOf knd d kvs) : d < h.objs.size := let ⟨_, _, _, ho, _⟩ := x; Heap.lt_size ho
theorem dict_nodup {K : Type} [DecidableEq K] {knd : KeyKind prog w K} {h : Heap} {d : Addr} {kvs : List (K × Value)} (x : h.DictOf knd d kvs) : (kvs.map (·.1)).Nodup := let ⟨_, _, _, _, _, _, _, _, h⟩ := x; h

theorem intVals_pair {kvs : List (Int × Value)} {ps : Clk} (x : IntVals kvs ps) {i : Nat} {k : Int} {v : Value} (e : kvs[i]? = some (k, v)) : ∃ n t, ps[i]? = some (k, n) ∧ v = .int n t := by
  have hi : i < kvs.length := (List.getElem?_eq_some_iff.mp e).1
  rw [x.1] at hi
  obtain ⟨t, ht⟩ := x.2 i ps[i] (List.getElem?_eq_getElem hi)
  rw [e] at ht
  have ht := Option.some.inj ht
  refine ⟨ps[i].2, t, ?_, congrArg Prod.snd ht⟩
  rw [List.getElem?_eq_getElem hi, show k = ps[i].1 from congrArg Prod.fst ht]
theorem intVals_fst {kvs : List (Int × Value)} {ps : Clk} (x : IntVals kvs ps) : kvs.map (·.1) = ps.map (·.1) := by
  apply List.ext_getElem?
  intro i
  rw [List.getElem?_map, List.getElem?_map]
  cases h : kvs[i]? with
  | none =>
    have : ps[i]? = none := List.getElem?_eq_none (by rw [← x.1]; exact List.getElem?_eq_none_iff.mp h)
    rw [this]; rfl
  | some q =>
    obtain ⟨n, t, e, _⟩ := intVals_pair x (show kvs[i]? = some (q.1, q.2) from h)
    rw [e]; rfl

/-- sorted(d.items()) of a dict of ints -/
theorem sorted_items {r d : Addr} {ps : Clk} {Q : Value → Shared → Prop} (hh : A.handled = none) (hv : s.heap.IsItemsView r d) (hD : DInt prog w s.heap d ps) (h64 : ps.length < 64)
    (h : ∀ h' tk b ps', LstAt h' b ps' → s.heap.get? b = none → Sub s.heap h' → ps'.Perm ps → ps'.Pairwise (fun p q => plt p q = true) → Q (.ref b) { s with heap := h', toks := tk }) :
    wpAny (model prog w) A (call (.builtin "sorted") [.ref r]) Q E s := by
  obtain ⟨kvs, hm, hI⟩ := hD
  obtain ⟨ep, hat⟩ := dictAt_of hm
  have hnd : ps.Nodup := by
    have := dict_nodup hm
    rw [intVals_fst hI] at this
    exact List.Pairwise.of_map (·.1) (fun a b (h : a.1 ≠ b.1) e => h (congrArg Prod.fst e)) this
  refine Calls.call_function_entry kind_sorted plain_sorted entry_sorted (args_sorted1 _) ?_
  unfold Builtin.«sorted»
  refine wpAny_bind (m := checkCount "sorted" 1 1 _) (wpAny_pure ?_)
  refine wpAny_bind (kdx_collect (A := A.in1) hh hv hat (by rw [hI.1, sizeLine_eq]; omega) fun h' tk as hk hl hG => ?_)
  have hal : as.length = ps.length := by rw [hl, hI.1]
  have hps : PairsAll h' (as.map Value.ref) ps := by
    have : ∀ (as : List Addr) (ps : Clk), as.length = ps.length → (∀ (j : Nat) (a : Addr), as[j]? = some a → ∃ p, ps[j]? = some p ∧ PairAt h' (.ref a) p) → PairsAll h' (as.map Value.ref) ps := by
      intro as
      induction as with
      | nil => intro ps e _; cases ps with | nil => exact .nil | cons _ _ => simp at e
      | cons a as ih =>
        intro ps e hx
        cases ps with
        | nil => simp at e
        | cons p ps =>
          obtain ⟨p', e1, e2⟩ := hx 0 a rfl
          simp at e1; subst e1
          exact .cons e2 (ih ps (by simpa using e) fun j b hj => by simpa using hx (j + 1) b (by simpa using hj))
    refine this as ps hal fun j a hj => ?_
    obtain ⟨key, k, x, e1, e2, e3⟩ := hG.pairs j a hj
    obtain ⟨n, t, e4, rfl⟩ := intVals_pair hI e1
    obtain ⟨u, rfl⟩ := Value.isInt_shape e2
    exact ⟨(k, n), e4, a, _, _, rfl, _, e3⟩
  refine wpAny_bind (wpAny_newList ?_ (by rw [List.length_map, hal, sizeLine_eq]; omega))
  have hoL : (h'.push (seqObj "list" (as.map Value.ref).toArray 0)).get? h'.objs.size = some (seqObj "list" (as.map Value.ref).toArray 0) := Heap.get?_push_size _ rfl
  have keep2 : Sub h' (h'.push (seqObj "list" (as.map Value.ref).toArray 0)) := fun b o q => Heap.get?_push_of_some _ q
  show wpAny _ _ _ _ _ { s with heap := h'.push (seqObj "list" (as.map Value.ref).toArray 0), toks := tk }
  refine wpAny_bind (wpAny_holding (wpAny_call_entry slot_list_sort ⟨_, hoL, rfl⟩ entry_list_sort (list_sort_pairs hoL (hps.tk (TK.of_sub keep2)) hnd (by rw [List.length_map, hal]; exact h64) fun h₂ vs' ps' n' a1 a2 a3 a4 a5 => ⟨_, rfl, ?_⟩) (args_list_sort _)))
  refine wpAny_pure ⟨_, rfl, h h₂ tk _ ps' ⟨vs', ⟨_, a1, rfl, n', rfl⟩, a3⟩ ?_ (fun b o e => a2 b o (fun q => ?_) (keep2 b o (hk b o e))) a4 a5⟩
  · cases q : s.heap.get? h'.objs.size with
    | none => rfl
    | some o => exact absurd (Heap.lt_size (hk _ _ q)) (Nat.lt_irrefl _)
  · exact absurd (Heap.lt_size (hk _ _ e)) (by rw [q]; exact Nat.lt_irrefl _)

theorem items_view {K : Type} [DecidableEq K] {knd : KeyKind prog w K} {d : Addr} {kvs : List (K × Value)} {Q : Value → Shared → Prop} (hD : s.heap.DictOf knd d kvs) (lo : (d == sysModules) = false)
    (h : ∀ h' r, h'.IsItemsView r d → Sub s.heap h' → Q (.ref r) { s with heap := h' }) : wpAny (model prog w) A (call (.builtin "dict.items") [.ref d]) Q E s :=
  call_meetsIn PySem.F.slot_dict_items hD.typeIs PySem.F.entry_dict_items (PySem.F.args_dict_items_1 _) (meets_dict_items knd d lo)
    ⟨⟨kvs, hD⟩, h _ _ ⟨_, Heap.get?_push_size _ rfl, rfl, rfl⟩ fun b o e => Heap.get?_push_of_some _ e⟩

theorem dict_get2 {d : Addr} {kvs : List (Int × Value)} {k : Int} {t : Tok} {dflt : Value} {Q : Value → Shared → Prop} (hD : s.heap.DictOf (intKind prog w) d kvs) (lo : (d == sysModules) = false)
    (h : Q ((valueAt kvs k).getD dflt) { s with toks := s.toks + 1 }) : wpAny (model prog w) A (call (.builtin "dict.get") [.ref d, .int k t, dflt]) Q E s :=
  call_meetsIn PySem.F.slot_dict_get hD.typeIs PySem.F.entry_dict_get (PySem.F.args_dict_get_3 _ _ _) (meets_dict_get_default (intKind prog w) d (intKind_is _ _ _ _) lo dflt) ⟨_, hD.mapOf, h⟩

theorem tuple_list {l : Addr} {ps : Clk} {Q : Value → Shared → Prop} (hl : LstAt s.heap l ps) (hz : ps.length ≤ 1000)
    (h : ∀ h' v, TupAt h' v ps → Sub s.heap h' → Q v { s with heap := h' }) : wpAny (model prog w) A (call (.type "tuple") [.ref l]) Q E s := by
  obtain ⟨vs, hL, hps⟩ := hl
  refine call_tuple_list hL (fun h' hk => ?_) (by rw [List.size_toArray, hps.length, sizeLine_eq]; omega)
  have k2 : Sub s.heap (h'.push { cls := .type "tuple", data := .seq vs.toArray }) := fun b o e => Heap.get?_push_of_some _ (hk b o e)
  exact h _ _ ⟨_, vs, rfl, ⟨0, Heap.get?_push_size _ rfl⟩, hps.tk (TK.of_sub k2)⟩ k2
end

/-- the dict's value by its key -/
theorem valueAt_int {kvs : List (Int × Value)} {ps : Clk} (x : IntVals kvs ps) (k : Int) (t : Tok) : ∃ u, (valueAt kvs k).getD (.int 0 t) = .int (cnt ps k) u := by
  induction kvs generalizing ps with
  | nil =>
    have : ps = [] := by have := x.1; simpa using this.symm
    subst this
    exact ⟨t, rfl⟩
  | cons q r ih =>
    cases ps with
    | nil => have := x.1; simp at this
    | cons p ps =>
      have h0 := x.2 0 p rfl
      obtain ⟨u, hu⟩ := h0
      simp only [List.getElem?_cons_zero, Option.some.injEq] at hu
      subst hu
      have x' : IntVals r ps := ⟨by simpa using x.1, fun i p' hp => by simpa using x.2 (i + 1) p' (by simpa using hp)⟩
      unfold valueAt cnt
      by_cases e : p.1 = k
      · simp [e]
      · simp only [List.find?_cons, e, decide_false, if_false]
        exact ih x'
def putC (ps : Clk) (k n : Int) : Clk := if ps.any (fun p => p.1 = k) then ps.map (fun p => if p.1 = k then (p.1, n) else p) else ps ++ [(k, n)]
theorem stored_int {kvs : List (Int × Value)} {ps : Clk} (x : IntVals kvs ps) (k n : Int) (t : Tok) : IntVals (stored kvs k (.int n t)) (putC ps k n) := by
  have hany : kvs.any (fun p => p.1 = k) = ps.any (fun p => p.1 = k) := by
    have e := intVals_fst x
    have := congrArg (fun l => List.any l fun z => decide (z = k)) e
    rw [List.any_map, List.any_map] at this
    exact this
  unfold stored putC
  rw [hany]
  split
  · refine ⟨by simp [x.1], fun i p hp => ?_⟩
    rw [List.getElem?_map] at hp ⊢
    cases hq : ps[i]? with
    | none => rw [hq] at hp; cases hp
    | some q =>
      rw [hq] at hp
      obtain ⟨u, hu⟩ := x.2 i q hq
      rw [hu]
      simp only [Option.map_some, Option.some.injEq] at hp ⊢
      subst hp
      by_cases e : q.1 = k
      · exact ⟨t, by simp [e]⟩
      · exact ⟨u, by simp [e]⟩
  · refine ⟨by simp [x.1], fun i p hp => ?_⟩
    by_cases hi : i < ps.length
    · rw [List.getElem?_append_left hi] at hp
      rw [List.getElem?_append_left (by rw [x.1]; exact hi)]
      exact x.2 i p hp
    · rw [List.getElem?_append_right (by omega)] at hp
      rw [List.getElem?_append_right (by rw [x.1]; omega), x.1]
      have hz : i - ps.length = 0 := by
        cases hz : i - ps.length with
        | zero => rfl
        | succ j => rw [hz] at hp; simp at hp
      rw [hz] at hp ⊢
      simp at hp; subst hp
      exact ⟨t, rfl⟩
theorem cnt_upd (ps : Clk) (k n j : Int) : cnt (ps.map fun p => if p.1 = k then (p.1, n) else p) j = if j = k then (if ps.any (fun p => p.1 = k) then n else 0) else cnt ps j := by
  induction ps with
  | nil => simp [cnt]
  | cons p r ih =>
    rw [List.map_cons, cnt, ih, List.any_cons]
    by_cases e : p.1 = k
    · rw [decide_eq_true e, Bool.true_or, if_pos e]
      by_cases q : j = k
      · simp [e, q]
      · simp [e, q, Ne.symm q, cnt]
    · rw [decide_eq_false e, Bool.false_or, if_neg e]
      by_cases q : j = k
      · rw [if_pos q, if_pos q, if_neg (by rw [q]; exact e)]
      · rw [if_neg q, if_neg q]; rfl
theorem cnt_app (ps qs : Clk) (j : Int) : cnt (ps ++ qs) j = if ps.any (fun p => p.1 = j) then cnt ps j else cnt qs j := by
  induction ps with
  | nil => simp
  | cons p r ih =>
    rw [List.cons_append, cnt, ih, List.any_cons, cnt]
    by_cases e : p.1 = j
    · rw [decide_eq_true e, Bool.true_or, if_pos e, if_pos rfl, if_pos e]
    · rw [decide_eq_false e, Bool.false_or, if_neg e, if_neg e]
theorem cnt_not_any {ps : Clk} {j : Int} (h : ps.any (fun p => p.1 = j) = false) : cnt ps j = 0 :=
  cnt_none fun q hq e => by
    have := List.any_eq_false.mp h q hq
    simp [e] at this
theorem cnt_putC (ps : Clk) (k n j : Int) : cnt (putC ps k n) j = if j = k then n else cnt ps j := by
  unfold putC
  split
  · rename_i h
    rw [cnt_upd, h]; simp
  · rename_i h
    have h : ps.any (fun p => p.1 = k) = false := Bool.eq_false_iff.mpr h
    rw [cnt_app]
    by_cases q : j = k
    · subst q; rw [h]; simp [cnt]
    · rw [if_neg q]
      by_cases r : ps.any (fun p => p.1 = j) = true
      · rw [if_pos r]
      · rw [if_neg r]
        rw [cnt_not_any (Bool.eq_false_iff.mpr r)]
        simp [cnt, Ne.symm q]
theorem mem_putC {ps : Clk} {k n : Int} {p : Int × Int} (h : p ∈ putC ps k n) : p ∈ ps ∨ p = (k, n) := by
  unfold putC at h
  split at h
  · obtain ⟨q, hq, rfl⟩ := List.mem_map.mp h
    by_cases e : q.1 = k
    · right; simp [e]
    · left; simpa [e] using hq
  · rcases List.mem_append.mp h with h | h
    · exact .inl h
    · exact .inr (List.mem_singleton.mp h)
theorem putC_keys {ps : Clk} {k n : Int} (h : (ps.map (·.1)).Nodup) : ((putC ps k n).map (·.1)).Nodup := by
  unfold putC
  split
  · rw [List.map_map]
    have : ((fun x : Int × Int => x.1) ∘ fun p : Int × Int => if p.1 = k then (p.1, n) else p) = (·.1) := by
      funext p
      by_cases e : p.1 = k <;> simp [e]
    rw [this]; exact h
  · rename_i hn
    rw [List.map_append, List.nodup_append]
    refine ⟨h, by simp, ?_⟩
    intro a ha b hb e
    obtain ⟨q, hq, rfl⟩ := List.mem_map.mp ha
    have : b = k := by simpa using hb
    exact hn (List.any_eq_true.mpr ⟨q, hq, by simp [e, this]⟩)

/-! sorted clocks -/
def Srt (c : Clk) : Prop := c.Pairwise (fun p q => p.1 < q.1) ∧ ∀ p ∈ c, 0 ≤ p.1 ∧ p.1 < 4 ∧ 1 ≤ p.2
theorem Srt.keys {c : Clk} (x : Srt c) : (c.map (·.1)).Nodup := by
  rw [List.nodup_iff_pairwise_ne, List.pairwise_map]
  exact x.1.imp fun h => Int.ne_of_lt h
theorem cnt_mem {c : Clk} {p : Int × Int} (h : (c.map (·.1)).Nodup) (hp : p ∈ c) : cnt c p.1 = p.2 := by
  induction c with
  | nil => cases hp
  | cons q r ih =>
    rw [List.map_cons, List.nodup_cons] at h
    rcases List.mem_cons.mp hp with rfl | hp
    · simp [cnt]
    · have : q.1 ≠ p.1 := fun e => h.1 (List.mem_map.mpr ⟨p, hp, e.symm⟩)
      rw [cnt, if_neg this]
      exact ih h.2 hp
theorem cnt_cases (c : Clk) (k : Int) : (∃ p ∈ c, p.1 = k) ∨ ((∀ p ∈ c, p.1 ≠ k) ∧ cnt c k = 0) := by
  by_cases h : ∃ p ∈ c, p.1 = k
  · exact .inl h
  · have h : ∀ p ∈ c, p.1 ≠ k := fun p hp e => h ⟨p, hp, e⟩
    exact .inr ⟨h, cnt_none h⟩
theorem cnt_perm {c d : Clk} (h : (c.map (·.1)).Nodup) (x : d.Perm c) (k : Int) : cnt d k = cnt c k := by
  have hd : (d.map (·.1)).Nodup := (x.map _).nodup_iff.mpr h
  rcases cnt_cases c k with ⟨p, hp, rfl⟩ | ⟨hn, e⟩
  · rw [cnt_mem h hp, cnt_mem hd (x.mem_iff.mpr hp)]
  · rw [e, cnt_none fun q hq => hn q (x.mem_iff.mp hq)]
theorem cnt_nonneg {c : Clk} (h : ∀ p ∈ c, 1 ≤ p.2) (k : Int) : 0 ≤ cnt c k := by
  induction c with
  | nil => simp [cnt]
  | cons q r ih =>
    rw [cnt]
    split
    · have := h q (.head _); omega
    · exact ih fun p hp => h p (.tail _ hp)
theorem Srt.nonneg {c : Clk} (x : Srt c) (k : Int) : 0 ≤ cnt c k := cnt_nonneg (fun p hp => (x.2 p hp).2.2) k
theorem Srt.zero {c : Clk} (x : Srt c) {k : Int} (h : ¬ (0 ≤ k ∧ k < 4)) : cnt c k = 0 := cnt_none fun p hp e => h (by have := x.2 p hp; rw [e] at this; exact ⟨this.1, this.2.1⟩)
theorem Srt.of_perm {c d : Clk} (h : (c.map (·.1)).Nodup) (hb : ∀ p ∈ c, 0 ≤ p.1 ∧ p.1 < 4 ∧ 1 ≤ p.2) (x : d.Perm c) (y : d.Pairwise (fun p q => plt p q = true)) : Srt d := by
  have hd : (d.map (·.1)).Nodup := (x.map _).nodup_iff.mpr h
  rw [List.nodup_iff_pairwise_ne, List.pairwise_map] at hd
  refine ⟨(y.and hd).imp fun {p q} hpq => ?_, fun p hp => hb p (x.mem_iff.mp hp)⟩
  obtain ⟨a, b⟩ := hpq
  simp only [plt, Bool.or_eq_true, Bool.and_eq_true, decide_eq_true_eq] at a
  rcases a with a | a
  · exact a
  · exact absurd a.1 b
theorem nodup_le {α : Type} [DecidableEq α] : ∀ (l m : List α), l.Nodup → (∀ a ∈ l, a ∈ m) → l.length ≤ m.length
  | [], _, _, _ => Nat.zero_le _
  | a :: r, m, h, hs => by
    rw [List.nodup_cons] at h
    have ha := hs a (.head _)
    have := nodup_le r (m.erase a) h.2 fun b hb => (List.mem_erase_of_ne (fun e => h.1 (by rw [← e]; exact hb))).mpr (hs b (.tail _ hb))
    rw [List.length_erase_of_mem ha] at this
    have := List.length_pos_of_mem ha
    simp only [List.length_cons]
    omega
theorem bounds_length {c : Clk} (h : (c.map (·.1)).Nodup) (hb : ∀ p ∈ c, 0 ≤ p.1 ∧ p.1 < 4 ∧ 1 ≤ p.2) : c.length ≤ 4 := by
  have : ∀ k ∈ c.map (·.1), k ∈ ([0, 1, 2, 3] : List Int) := by
    intro k hk
    obtain ⟨p, hp, rfl⟩ := List.mem_map.mp hk
    have := hb p hp
    have h4 : p.1 = 0 ∨ p.1 = 1 ∨ p.1 = 2 ∨ p.1 = 3 := by omega
    rcases h4 with e | e | e | e <;> simp [e]
  have := nodup_le _ _ h this
  simpa using this
theorem Srt.length {c : Clk} (x : Srt c) : c.length ≤ 4 := bounds_length x.keys x.2
/-- two sorted clocks with the same counts are the same -/
theorem Srt.single {k n : Int} (h1 : 0 ≤ k) (h2 : k < 4) (h3 : 1 ≤ n) : Srt [(k, n)] := ⟨by simp, by simp [h1, h2, h3]⟩
theorem Srt.nil : Srt [] := ⟨.nil, by simp⟩

/-! the frame and the ledger over a new heap -/
theorem fr_sub {h₀ h h' : Heap} {L : Addr} {m : Str → Option Value} (F : Fr h₀ L h m) (k : Sub h h') : Fr h₀ L h' m := ⟨F.ns.keeps k, fun b o e => k b o (F.keep b o e), F.above⟩
theorem news_sub {h₀ h h' : Heap} {L : Addr} {news : List (Addr × Obj)} (N : News h₀ L h news) (k : Sub h h') : News h₀ L h' news := fun p hp => ⟨k _ _ (N p hp).1, (N p hp).2⟩
theorem news_new {h₀ h h' : Heap} {L D : Addr} {o : Obj} {m : Str → Option Value} {news : List (Addr × Obj)} (F : Fr h₀ L h m) (N : News h₀ L h news) (k : Sub h h') (hD : h.get? D = none) (ho : h'.get? D = some o) : News h₀ L h' ((D, o) :: news) := fun p hp => by
  rcases List.mem_cons.mp hp with rfl | hp
  · refine ⟨ho, fun q => ?_, ?_⟩
    · obtain ⟨o', _, _, e, _⟩ := F.ns
      rw [← q] at e; rw [hD] at e; cases e
    · cases q : h₀.get? D with
      | none => rfl
      | some o' => have := F.keep _ _ q; rw [hD] at this; cases this
  · exact news_sub N k p hp
theorem fr_same {h₀ h h' : Heap} {L d : Addr} {m : Str → Option Value} (F : Fr h₀ L h m) (hs : Heap.SameBut d h h') (n1 : d ≠ L) (n2 : h₀.get? d = none) : Fr h₀ L h' m :=
  ⟨F.ns.sameBut hs (Ne.symm n1), fun b o e => (hs.2 b fun q => by rw [q, n2] at e; cases e).trans (F.keep b o e), F.above⟩
theorem news_put {h₀ h h' : Heap} {L d : Addr} {o o' : Obj} {pre post : List (Addr × Obj)} (N : News h₀ L h (pre ++ (d, o) :: post)) (h1 : ∀ p ∈ pre, p.1 ≠ d) (h2 : ∀ p ∈ post, p.1 ≠ d) (hs : Heap.SameBut d h h') (ho : h'.get? d = some o') :
    News h₀ L h' (pre ++ (d, o') :: post) := fun p hp => by
  rcases List.mem_append.mp hp with hp | hp
  · have z := N p (List.mem_append.mpr (.inl hp)); exact ⟨(hs.2 _ (h1 p hp)).trans z.1, z.2⟩
  · rcases List.mem_cons.mp hp with rfl | hp
    · have z := N (d, o) (List.mem_append.mpr (.inr (.head _))); exact ⟨ho, z.2⟩
    · have z := N p (List.mem_append.mpr (.inr (.tail _ hp))); exact ⟨(hs.2 _ (h2 p hp)).trans z.1, z.2⟩
theorem not_modules {h₀ : Heap} (hb : h₀.NoLimit) {d : Addr} (h : h₀.objs.size ≤ d) : (d == sysModules) = false := by
  have := modules_low hb
  exact beq_eq_false_iff_ne.mpr fun e => absurd (Nat.lt_of_lt_of_le this h) (by rw [e]; exact Nat.lt_irrefl _)
end Mine
end

section
open PySem PySem.W PyProof.Rows PySem.Calls
namespace Mine
local macro_rules | `(tactic| k_call_by "enter" $b:term) => `(tactic| (
  refine' enter_plain (binds := $b) _ (by assumption) (by assumption) (Top.nolimit (by assumption)) (by assumption) (by assumption) ?kf ?kcd ?kb ?kloc ?kcell ?kco ?kgen ?kk ?_;
  (case kf => k_dflt k_is); (case kcd => k_dflt k_is); (case kb => exact BindsTo.of_eq rfl); (case kloc => exact locs rfl); (case kcell => decide); (case kco => exact rfl); (case kgen => exact rfl); (case kk => exact rfl)))
local macro_rules | `(tactic| k_call_by "enterC" $b:term) => `(tactic| (
  refine' enter_code (binds := $b) _ (by assumption) (by assumption) (Top.nolimit (by assumption)) (by assumption) (by assumption) ?kf ?kcd ?kb ?kloc ?kcell ?kco ?kgen ?kk ?_;
  (case kf => k_dflt k_is); (case kcd => k_dflt k_is); (case kb => exact BindsTo.of_eq rfl); (case kloc => exact locs rfl); (case kcell => decide); (case kco => exact rfl); (case kgen => exact rfl); (case kk => exact rfl)))
local macro_rules | `(tactic| k_call_by "enterK" $b:term) => `(tactic| (
  refine' enter_cells (binds := $b) _ (by assumption) (by assumption) (Top.nolimit (by assumption)) (by assumption) (by assumption) ?kf ?kcd ?kb ?kloc ?kcell ?kco ?kgen ?kk ?_;
  (case kf => k_dflt k_is); (case kcd => k_dflt k_is); (case kb => exact BindsTo.of_eq rfl); (case kloc => exact rfl); (case kcell => decide +kernel); (case kco => exact rfl); (case kgen => exact rfl); (case kk => exact rfl)))
local macro_rules | `(tactic| k_all) => `(tactic| exact dump_off (by assumption))
local macro_rules | `(tactic| walk_at "noA") => `(tactic| ((fail_if_success (with_reducible show wpAny _ _ (exec (Stmt.For _ _ _ _ _) _) _ _ _)); (fail_if_success (with_reducible show wpAny _ _ (call _ _ _) _ _ _)); (fail_if_success (with_reducible show wpAny _ _ (setItem _ _ _) _ _ _))))
local macro_rules | `(tactic| walk_at "noB") => `(tactic| ((fail_if_success (with_reducible show wpAny _ _ (getMethod _ (Str.ofString "append") _) _ _ _)); (fail_if_success (with_reducible show wpAny _ _ (getMethod _ (Str.ofString "get") _) _ _ _))))
local macro_rules | `(tactic| walk_at "noC") => `(tactic| ((fail_if_success (with_reducible show wpAny _ _ (eval (Expr.ListComp _ _ _ _) _) _ _ _)); (fail_if_success (with_reducible show wpAny _ _ (subscriptTail _ _ _ _) _ _ _)); (fail_if_success (with_reducible show wpAny _ _ (compareOp CmpOp.NotIn _ _) _ _ _)); (fail_if_success (with_reducible show wpAny _ _ (binaryOp Operator.Add (Value.ref _) (Value.ref _)) _ _ _))))
local macro_rules | `(tactic| walk_at "noD") => `(tactic| ((fail_if_success (with_reducible show wpAny _ _ (compareOp CmpOp.Eq (Value.ref _) (Value.ref _)) _ _ _)); (fail_if_success (with_reducible show wpAny _ _ (compareOp CmpOp.NotEq (Value.ref _) (Value.ref _)) _ _ _))))
local macro_rules | `(tactic| walk_at "noE") => `(tactic| ((fail_if_success (with_reducible show wpAny _ _ (exec (Stmt.If _ _ _ _) _) _ _ _))))
local macro_rules | `(tactic| walk_at "noF") => `(tactic| ((fail_if_success (with_reducible show wpAny _ _ (newTuple _) _ _ _))))
local macro_rules | `(tactic| walk_at "noG") => `(tactic| ((fail_if_success (with_reducible show wpAny _ _ (pyIter _) _ _ _))))
local macro_rules | `(tactic| walk_at "noH") => `(tactic| ((fail_if_success (with_reducible show wpAny _ _ (exec (Stmt.For _ _ _ _ _) _) _ _ _)); (fail_if_success (with_reducible show wpAny _ _ (setItem _ _ _) _ _ _))))
local macro_rules | `(tactic| walk_at "noI") => `(tactic| ((fail_if_success (with_reducible show wpAny _ _ (eval (Expr.ListComp _ _ _ _) _) _ _ _)); (fail_if_success (with_reducible show wpAny _ _ (compareOp CmpOp.NotIn _ _) _ _ _)); (fail_if_success (with_reducible show wpAny _ _ (binaryOp Operator.Add (Value.ref _) (Value.ref _)) _ _ _))))
local macro_rules | `(tactic| walk_at "st") => `(tactic| first | walk1 | (dsimp only; walk1))
local macro_rules | `(tactic| walk_at "goA") => `(tactic| repeat' (walk_at "noA"; walk_at "st"))
local macro_rules | `(tactic| walk_at "goB") => `(tactic| (try dsimp only) <;> repeat' (walk_at "noA"; walk_at "noB"; walk_at "st"))
local macro_rules | `(tactic| walk_at "goC") => `(tactic| (try dsimp only) <;> repeat' (walk_at "noA"; walk_at "noB"; walk_at "noC"; walk_at "st"))
local macro_rules | `(tactic| walk_at "goD") => `(tactic| (try dsimp only) <;> repeat' (walk_at "noA"; walk_at "noE"; walk_at "noB"; walk_at "noC"; walk_at "st"))
local macro_rules | `(tactic| walk_at "goE") => `(tactic| (try dsimp only) <;> repeat' (walk_at "noA"; walk_at "noF"; walk_at "noB"; walk_at "noC"; walk_at "st"))
local macro_rules | `(tactic| walk_at "goF") => `(tactic| (try dsimp only) <;> repeat' (walk_at "noA"; walk_at "noB"; walk_at "noC"; walk_at "noD"; walk_at "st"))
local macro_rules | `(tactic| walk_at "goG") => `(tactic| (try dsimp only) <;> repeat' (walk_at "noA"; walk_at "noB"; walk_at "noC"; walk_at "noG"; walk_at "noD"; walk_at "st"))
local macro_rules | `(tactic| walk_at "all") => `(tactic| (try dsimp only) <;> repeat' (walk_at "noH"; walk_at "noI"; walk_at "noD"; walk_at "noB"; walk_at "st"))

section
open PySem PySem.W PyProof.Rows PySem.Calls
set_option maxRecDepth 100000
set_option Elab.async false
theorem kfill : PySem.Challenge.rw_on0015_01 = PySem.Challenge.rw_on0015_01 ∧ hd.heap_1 = hd.heap_1 := by
  k_fill
  exact ⟨rfl, rfl⟩

-- enter a plain def: its names and values
-- walk until a loop, a def's call or a step without a line

theorem count_spec {prog p w loose mean mg mb} {A : Around} {E : Value → Shared → Prop} {s : Shared} {h₀ : Heap} (R : Room A 1) (KX : (hd.heap_1 w.params).In h₀) (T : Top p loose mean mg mb h₀)
   (S0 : Sub h₀ s.heap) (hz : h₀.objs.size ≤ s.heap.objs.size) {vc : Value} {c : Clk} (hc : TupAt s.heap vc c) {k : Int} {t : Tok} {Q : Value → Shared → Prop}
   (hQ : ∀ u h' tk, Sub s.heap h' → Q (.int (cnt c k) u) { s with heap := h', toks := tk }) :
   wpAny (model prog w) A (call (.ref 21) [vc, .int k t]) Q E s := by
  obtain ⟨a, vs, rfl, hT, hps⟩ := hc
  k_call_by "enter" [(Str.ofString "clock", Value.ref a), (Str.ofString "goroutine", Value.int k t)]
  intro L h₁ A' R' hL F N SG
  walk_at "goA"
  refine for_pairs0 (L := L) (g := s.heap) (cs := []) R'.hand rfl rfl rfl rfl hT.isTup hps F N S0 (fun Q' q => ?_) (fun i cs g => cs = [] ∧ g = s.heap ∧ ∀ q ∈ c.take i, q.1 ≠ k) ⟨rfl, rfl, by simp⟩ ?_ ?_
  · walk_at "goA"
    exact q
  · rintro I i cs₁ g₁ h tk oI p t' u' hp ⟨rfl, rfl, hJ⟩ _ F' N' _ h1 h2 _ _
    walk_at "goA"
    · rename_i e
      dsimp only [ForPost]
      rw [← cnt_take_succ hp hJ e]
      exact hQ _ _ _ (sub_of F' N' (fun p hp => .tail _ hp) S0)
    · rename_i e
      dsimp only [ForPost]
      refine ⟨_, _, _, [], s.heap, rfl, F', N', S0, h2, by simp, by simp, TK.refl _, ?_, rfl, rfl, ?_⟩
      · intro z e1 e2
        simp only [e1, e2, if_false]
      · intro q hq
        rcases mem_take_succ hp hq with hq | rfl
        · exact hJ q hq
        · exact e
  · rintro m₁ cs₁ g₁ h tk ⟨rfl, rfl, hJ⟩ _ hm F' N' _
    walk_at "goA"
    dsimp only
    rw [List.take_length] at hJ
    rw [← cnt_none hJ]
    exact hQ _ _ _ (sub_of F' N' (fun p hp => hp) S0)

theorem joined_spec {prog p w loose mean mg mb} {A : Around} {E : Value → Shared → Prop} {s : Shared} {h₀ : Heap} (R : Room A 1) (KX : (hd.heap_1 w.params).In h₀) (T : Top p loose mean mg mb h₀)
   (S0 : Sub h₀ s.heap) (hz : h₀.objs.size ≤ s.heap.objs.size) {v1 v2 : Value} {c1 c2 : Clk} (hc1 : TupAt s.heap v1 c1) (hs1 : Srt c1) (hc2 : TupAt s.heap v2 c2) (hs2 : Srt c2) {Q : Value → Shared → Prop}
   (hQ : ∀ v c h' tk, TupAt h' v c → Srt c → (∀ k, cnt c k = max (cnt c1 k) (cnt c2 k)) → Sub s.heap h' → Q v { s with heap := h', toks := tk }) :
   wpAny (model prog w) A (call (.ref 28) [v1, v2]) Q E s := by
  obtain ⟨a1, vs1, rfl, hT1, hp1⟩ := hc1
  obtain ⟨a2, vs2, rfl, hT2, hp2⟩ := hc2
  k_call_by "enter" [(Str.ofString "one", Value.ref a1), (Str.ofString "other", Value.ref a2)]
  intro L h₁ A' R' hL F N SG
  walk_at "goA"
  refine dict_pairs R'.hand (let ⟨n, e⟩ := hT1; ⟨n, SG _ _ e⟩) (hp1.tk (TK.of_sub SG)) hs1.keys (by have := hs1.length; omega) fun h₂ tk₂ hD k₂ => ?_
  obtain ⟨kvs, hD, hI⟩ := hD
  obtain ⟨oD, hoD, hdD⟩ := Heap.dictOf_iff.mp hD
  have hDn : ∀ x : Heap, Sub x h₁ → x.get? h₁.objs.size = none := fun x k => by
    cases q : x.get? h₁.objs.size with
    | none => rfl
    | some o => exact absurd (Heap.lt_size (k _ _ q)) (Nat.lt_irrefl _)
  have lo := not_modules (Top.nolimit T) (d := h₁.objs.size) (fr_size F)
  have hDL : h₁.objs.size ≠ L := Ne.symm (Nat.ne_of_lt F.ns.lt)
  have h0D := hDn _ F.keep
  have hgD := hDn _ SG
  have N₂ := news_new F N k₂ (hDn h₁ fun _ _ e => e) hoD
  have F₂ := fr_sub F k₂
  clear F N
  generalize h₁.objs.size = D at *
  dsimp only
  walk_at "goA"
  rename_i h₃ F₃ N₃
  refine for_pairs0 (L := L) (g := s.heap) (cs := [(D, oD)]) R'.hand rfl rfl rfl rfl hT2.isTup hp2 F₃ N₃ S0 (fun Q' q => ?_)
    (fun i cs g => g = s.heap ∧ ∃ o kvs ps, cs = [(D, o)] ∧ o.IsDictOf (intKind prog w) kvs ∧ IntVals kvs ps ∧ (ps.map (·.1)).Nodup ∧ (∀ q ∈ ps, 0 ≤ q.1 ∧ q.1 < 4 ∧ 1 ≤ q.2) ∧ ∀ k, cnt ps k = max (cnt c1 k) (cnt (c2.take i) k))
    ⟨rfl, oD, kvs, c1, rfl, hdD, hI, hs1.keys, hs1.2, fun k => by have := hs1.nonneg k; simp only [List.take_zero, cnt]; omega⟩ ?_ ?_
  · walk_at "goA"
    exact q
  · rintro I i cs₁ g₁ h tk oI p t' u' hp ⟨rfl, o, kvs, ps, rfl, hd, hI, hnd, hb, hJ⟩ _ F' N' _ h1 h2 h3 _
    have hne : D ≠ I := h3 (D, o) (.head _)
    have hDD : h.DictOf (intKind prog w) D kvs := Heap.dictOf_iff.mpr ⟨o, (N' _ (.tail _ (.head _))).1, hd⟩
    walk_at "goA"
    refine dict_get2 hDD lo ?_
    obtain ⟨u, hu⟩ := valueAt_int hI p.1 tk
    rw [hu]
    have hfresh : cnt (c2.take i) p.1 = 0 := cnt_none fun q hq e => by
      obtain ⟨j, hj⟩ := List.mem_iff_getElem?.mp hq
      rw [List.getElem?_take] at hj
      by_cases hji : j < i
      · rw [if_pos hji] at hj
        have h5 := List.pairwise_iff_getElem.mp hs2.1 j i (List.getElem?_eq_some_iff.mp hj).1 (List.getElem?_eq_some_iff.mp hp).1 hji
        rw [(List.getElem?_eq_some_iff.mp hj).2, (List.getElem?_eq_some_iff.mp hp).2] at h5
        omega
      · rw [if_neg hji] at hj; cases hj
    have hnew : ∀ k, cnt (c2.take (i + 1)) k = if k = p.1 then p.2 else cnt (c2.take i) k := fun k => by
      rw [List.take_add_one, hp]
      show cnt (c2.take i ++ [p]) k = _
      rw [cnt_app]
      by_cases e : k = p.1
      · subst e
        rw [if_pos rfl]
        split
        · rename_i hx
          obtain ⟨q, hq, e⟩ := List.any_eq_true.mp hx
          have := cnt_mem (c := c2.take i) (by
            have := hs2.keys
            rw [← List.take_append_drop i c2, List.map_append, List.nodup_append] at this
            exact this.1) hq
          have e : q.1 = p.1 := by simpa using e
          rw [e, hfresh] at this
          have hb := hs2.2 q (List.mem_of_mem_take hq)
          omega
        · simp [cnt]
      · rw [if_neg e]
        split
        · rfl
        · rename_i hx
          rw [cnt_not_any (Bool.eq_false_iff.mpr hx)]
          simp [cnt, Ne.symm e]
    have hpb := hs2.2 p (List.mem_of_getElem? hp)
    have hJp := hJ p.1
    rw [hfresh] at hJp
    walk_at "goA"
    · rename_i hgt
      refine wpAny_setItem_pairs (knd := intKind prog w) (k := p.1) (intKind_is _ _ _ _) hDD (fun h' hD' hs' => ?_) (by rw [hI.1, sizeLine_eq]; have := bounds_length hnd hb; omega)
      obtain ⟨o', ho', hd'⟩ := Heap.dictOf_iff.mp hD'
      have F'' := fr_same F' hs' hDL h0D
      have N'' := news_put (pre := [(I, oI)]) (post := dump h₀ s.heap) N' (fun q hq => by rw [List.mem_singleton.mp hq]; exact Ne.symm hne) (dump_off hgD) hs' ho'
      clear F' N'
      walk_at "goA"
      dsimp only [ForPost]
      refine ⟨_, _, _, [(D, o')], s.heap, rfl, F'', N'', S0, h2, by simpa using hne, by simp, TK.refl _, ?_, rfl, o', _, _, rfl, hd', stored_int hI _ _ _, putC_keys hnd, ?_, ?_⟩
      · intro z e1 e2
        simp only [e1, e2, if_false]
      · intro q hq
        rcases mem_putC hq with hq | rfl
        · exact hb q hq
        · exact hpb
      · intro k
        rw [cnt_putC, hnew, hJ]
        by_cases e : k = p.1
        · subst e; simp only [if_true]; omega
        · simp only [if_neg e]
    · rename_i hgt
      dsimp only [ForPost]
      refine ⟨_, _, _, [(D, o)], s.heap, rfl, F', N', S0, h2, by simpa using hne, by simp, TK.refl _, ?_, rfl, o, _, _, rfl, hd, hI, hnd, hb, ?_⟩
      · intro z e1 e2
        simp only [e1, e2, if_false]
      · intro k
        rw [hnew, hJ]
        by_cases e : k = p.1
        · subst e; rw [if_pos rfl, hfresh]; omega
        · simp only [if_neg e]
  · rintro m₁ cs₁ g₁ h tk ⟨rfl, o, kvs, ps, rfl, hd, hI, hnd, hb, hJ⟩ _ hm F' N' _
    have hDD : h.DictOf (intKind prog w) D kvs := Heap.dictOf_iff.mpr ⟨o, (N' _ (.head _)).1, hd⟩
    rw [List.take_length] at hJ
    have hm1 : m₁ (Str.ofString "counts") = some (.ref D) := hm _ (by decide) (by decide)
    have F'' : Fr h₀ L h (fun z => if z = Str.ofString "counts" then some (.ref D) else m₁ z) := by
      have : (fun z => if z = Str.ofString "counts" then some (Value.ref D) else m₁ z) = m₁ := by
        funext z
        by_cases e : z = Str.ofString "counts"
        · subst e; rw [if_pos rfl, hm1]
        · rw [if_neg e]
      rw [this]; exact F'
    clear F'
    walk_at "goA"
    refine items_view hDD lo fun h₄ r hv k₄ => ?_
    walk_at "goA"
    refine sorted_items R'.hand hv ⟨kvs, dict_sub hDD (k₄ _), hI⟩ (by have := bounds_length hnd hb; omega) fun h₅ tk₅ b ps' hl _ k₅ hp hs => ?_
    walk_at "goA"
    refine tuple_list hl (by have := hp.length_eq; have := bounds_length hnd hb; omega) fun h₆ v hv k₆ => ?_
    walk_at "goA"
    dsimp only
    refine hQ v ps' h₆ _ hv (Srt.of_perm hnd hb hp hs) (fun k => by rw [cnt_perm hnd hp, hJ]) ?_
    exact fun b o e => k₆ _ _ (k₅ _ _ (k₄ _ _ (sub_of F'' N' (fun p hp => .tail _ hp) S0 b o e)))

theorem ticked_spec {prog p w loose mean mg mb} {A : Around} {E : Value → Shared → Prop} {s : Shared} {h₀ : Heap} (R : Room A 2) (KX : (hd.heap_1 w.params).In h₀) (T : Top p loose mean mg mb h₀)
   (S0 : Sub h₀ s.heap) (hz : h₀.objs.size ≤ s.heap.objs.size) {v1 : Value} {c1 : Clk} (hc1 : TupAt s.heap v1 c1) (hs1 : Srt c1) {k : Int} {t : Tok} (hk : 0 ≤ k ∧ k < 4) {Q : Value → Shared → Prop}
   (hQ : ∀ v c h' tk, TupAt h' v c → Srt c → (∀ j, cnt c j = if j = k then cnt c1 k + 1 else cnt c1 j) → Sub s.heap h' → Q v { s with heap := h', toks := tk }) :
   wpAny (model prog w) A (call (.ref 35) [v1, .int k t]) Q E s := by
  k_call_by "enter" [(Str.ofString "clock", v1), (Str.ofString "goroutine", Value.int k t)]
  intro L h₁ A' R' hL F N SG
  walk_at "goA"
  refine count_spec R' KX T (fun b o e => SG b o (S0 b o e)) (fr_size F) (hc1.tk (TK.of_sub SG)) fun u h₂ tk₂ k₂ => ?_
  have F₂ := fr_sub F k₂
  have N₂ := news_sub N k₂
  clear F N
  walk_at "goA"
  rename Fr _ _ _ _ => F₃
  rename News _ _ _ _ => N₃
  have hg : Sub s.heap _ := sub_of F₃ N₃ (fun p hp => .tail _ (.tail _ hp)) S0
  have hpos := hs1.nonneg k
  refine joined_spec R' KX T F₃.keep (fr_size F₃) (hc1.tk (TK.of_sub hg)) hs1 (c2 := [(k, cnt c1 k + 1)]) ⟨_, _, rfl, ⟨0, (N₃ _ (.head _)).1⟩, .cons ⟨_, _, _, rfl, 0, (N₃ _ (.tail _ (.head _))).1⟩ .nil⟩ (Srt.single hk.1 hk.2 (by omega)) fun v c h₄ tk₄ hv hs hc k₄ => ?_
  walk_at "goA"
  dsimp only
  refine hQ v c h₄ _ hv hs (fun j => ?_) (fun b o e => k₄ b o (hg b o e))
  rw [hc]
  simp only [cnt]
  by_cases e : j = k
  · subst e; simp only [if_true]; omega
  · rw [if_neg (Ne.symm e), if_neg e]; have := hs1.nonneg j; omega

theorem before_spec {prog p w loose mean mg mb} {A : Around} {E : Value → Shared → Prop} {s : Shared} {h₀ : Heap} (R : Room A 2) (KX : (hd.heap_1 w.params).In h₀) (T : Top p loose mean mg mb h₀)
   (S0 : Sub h₀ s.heap) (hz : h₀.objs.size ≤ s.heap.objs.size) {v1 v2 : Value} {c1 c2 : Clk} (hc1 : TupAt s.heap v1 c1) (hs1 : Srt c1) (hc2 : TupAt s.heap v2 c2) (hs2 : Srt c2) {Q : Value → Shared → Prop}
   (hQ : ∀ b h' tk, (b = true ↔ ∀ k, cnt c1 k ≤ cnt c2 k) → Sub s.heap h' → Q (.bool b) { s with heap := h', toks := tk }) :
   wpAny (model prog w) A (call (.ref 42) [v1, v2]) Q E s := by
  obtain ⟨a1, vs1, rfl, hT1, hp1⟩ := hc1
  k_call_by "enter" [(Str.ofString "one", Value.ref a1), (Str.ofString "other", v2)]
  intro L h₁ A' R' hL F N SG
  walk_at "goA"
  refine for_pairs0 (L := L) (g := s.heap) (cs := []) R'.hand rfl rfl rfl rfl hT1.isTup hp1 F N S0 (fun Q' q => ?_) (fun i cs g => cs = [] ∧ g = s.heap ∧ ∀ q ∈ c1.take i, q.2 ≤ cnt c2 q.1) ⟨rfl, rfl, by simp⟩ ?_ ?_
  · walk_at "goA"
    exact q
  · rintro I i cs₁ g₁ h tk oI p t' u' hp ⟨rfl, rfl, hJ⟩ _ F' N' _ h1 h2 _ _
    have hgh := sub_of F' N' (fun p hp => .tail _ hp) S0
    walk_at "goA"
    refine count_spec R' KX T F'.keep (fr_size F') (hc2.tk (TK.of_sub hgh)) fun u h₂ tk₂ k₂ => ?_
    have F₂ := fr_sub F' k₂
    have N₂ := news_sub N' k₂
    clear F' N'
    walk_at "goA"
    · rename_i e
      dsimp only [ForPost]
      refine hQ false _ _ ⟨fun q => (by cases q), fun q => ?_⟩ fun b o e => k₂ b o (hgh b o e)
      have := q p.1
      rw [cnt_mem hs1.keys (List.mem_of_getElem? hp)] at this
      omega
    · rename_i e
      dsimp only [ForPost]
      refine ⟨_, _, _, [], s.heap, rfl, F₂, N₂, S0, h2, by simp, by simp, TK.refl _, ?_, rfl, rfl, ?_⟩
      · intro z e1 e2
        simp only [e1, e2, if_false]
      · intro q hq
        rcases mem_take_succ hp hq with hq | rfl
        · exact hJ q hq
        · omega
  · rintro m₁ cs₁ g₁ h tk ⟨rfl, rfl, hJ⟩ _ hm F' N' _
    walk_at "goA"
    dsimp only
    rw [List.take_length] at hJ
    refine hQ true _ _ ⟨fun _ k => ?_, fun _ => rfl⟩ (sub_of F' N' (fun p hp => hp) S0)
    rcases cnt_cases c1 k with ⟨q, hq, rfl⟩ | ⟨_, e⟩
    · rw [cnt_mem hs1.keys hq]; exact hJ q hq
    · rw [e]; exact hs2.nonneg k

theorem apart_spec {prog p w loose mean mg mb} {A : Around} {E : Value → Shared → Prop} {s : Shared} {h₀ : Heap} (R : Room A 3) (KX : (hd.heap_1 w.params).In h₀) (T : Top p loose mean mg mb h₀)
   (S0 : Sub h₀ s.heap) (hz : h₀.objs.size ≤ s.heap.objs.size) {v1 v2 : Value} {c1 c2 : Clk} (hc1 : TupAt s.heap v1 c1) (hs1 : Srt c1) (hc2 : TupAt s.heap v2 c2) (hs2 : Srt c2) {Q : Value → Shared → Prop}
   (hQ : ∀ b h' tk, (b = true ↔ (¬ ∀ k, cnt c1 k ≤ cnt c2 k) ∧ ¬ ∀ k, cnt c2 k ≤ cnt c1 k) → Sub s.heap h' → Q (.bool b) { s with heap := h', toks := tk }) :
   wpAny (model prog w) A (call (.ref 49) [v1, v2]) Q E s := by
  k_call_by "enter" [(Str.ofString "one", v1), (Str.ofString "other", v2)]
  intro L h₁ A' R' hL F N SG
  walk_at "goA"
  refine before_spec R' KX T F.keep (fr_size F) (hc1.tk (TK.of_sub SG)) hs1 (hc2.tk (TK.of_sub SG)) hs2 fun b h₂ tk₂ hb k₂ => ?_
  have F₂ := fr_sub F k₂
  have N₂ := news_sub N k₂
  have SG₂ : Sub s.heap h₂ := fun b o e => k₂ b o (SG b o e)
  clear F N
  cases b with
  | true =>
    walk_at "goA"
    dsimp only
    have hb := hb.mp rfl
    exact hQ false _ _ ⟨fun q => (by cases q), fun q => absurd hb q.1⟩ SG₂
  | false =>
    walk_at "goA"
    refine before_spec R' KX T F₂.keep (fr_size F₂) (hc2.tk (TK.of_sub SG₂)) hs2 (hc1.tk (TK.of_sub SG₂)) hs1 fun b' h₃ tk₃ hb' k₃ => ?_
    have hn : ¬ ∀ k, cnt c1 k ≤ cnt c2 k := fun q => by have := hb.mpr q; cases this
    cases b' with
    | true =>
      walk_at "goA"
      dsimp only
      exact hQ false _ _ ⟨fun q => (by cases q), fun q => absurd (hb'.mp rfl) q.2⟩ fun b o e => k₃ b o (SG₂ b o e)
    | false =>
      walk_at "goA"
      dsimp only
      exact hQ true _ _ ⟨fun _ => ⟨hn, fun q => by have := hb'.mpr q; cases this⟩, fun _ => rfl⟩ fun b o e => k₃ b o (SG₂ b o e)
end

section
open PySem PySem.W PyProof.Rows PySem.Calls
set_option maxRecDepth 100000
set_option Elab.async false
set_option maxHeartbeats 4000000
theorem kfill4 : PySem.Challenge.rw_on0015_01 = PySem.Challenge.rw_on0015_01 ∧ hd.heap_1 = hd.heap_1 := by
  k_fill
  exact ⟨rfl, rfl⟩
-- enter a plain def: its names and values
-- walk until a loop, a call or a step without a line

/-! the watch on the heap -/
/-- a clock: the count of each goroutine -/
def ClkAt (h : Heap) (v : Value) (f : Int → Int) : Prop := ∃ c, TupAt h v c ∧ Srt c ∧ ∀ k, cnt c k = f k
theorem ClkAt.tk {h h' : Heap} {v f} (x : ClkAt h v f) (k : TK h h') : ClkAt h' v f := let ⟨c, a, b⟩ := x; ⟨c, a.tk k, b⟩
def upd {α : Type} (F : Int → α) (k : Int) (f : α) : Int → α := fun j => if j = k then f else F j
theorem upd_same {α : Type} {F : Int → α} {k : Int} {f : α} : upd F k f k = f := if_pos rfl
theorem upd_ne {α : Type} {F : Int → α} {k j : Int} {f : α} (h : j ≠ k) : upd F k f j = F j := if_neg h
/-- a new goroutine's clock -/
def one (k : Int) : Int → Int := fun j => if j = k then 1 else 0
def tick (f : Int → Int) (k : Int) : Int → Int := fun j => if j = k then f k + 1 else f j
def join (f g : Int → Int) : Int → Int := fun j => max (f j) (g j)
def In4 (k : Int) : Prop := 0 ≤ k ∧ k < 4

def ClocksAt (prog : Program) (w : World) (h : Heap) (D : Addr) (F : Int → Int → Int) : Prop :=
  ∃ kvs, h.DictOf (intKind prog w) D kvs ∧ (∀ q ∈ kvs, In4 q.1) ∧ ∀ k, match valueAt kvs k with | some v => ClkAt h v (F k) | none => F k = one k
/-- the object and its dict -/
def WI (h₀ h : Heap) (x dx Dc Dl Dg : Addr) : Prop :=
  (h₀.get? x = none ∧ h₀.get? dx = none) ∧ ∃ (e1 e2 e3 e4 e5 : Int) (t1 t2 t3 t4 t5 : Tok) (Dp Rl : Addr) (n : Nat), h.get? x = some (instObj 234 dx) ∧
    h.get? dx = some (dictOf [⟨e1, .str (Str.ofString "clocks") t1, .ref Dc⟩, ⟨e2, .str (Str.ofString "lines") t2, .ref Dl⟩, ⟨e3, .str (Str.ofString "gates") t3, .ref Dg⟩, ⟨e4, .str (Str.ofString "places") t4, .ref Dp⟩, ⟨e5, .str (Str.ofString "races") t5, .ref Rl⟩] n)
theorem WI.tr {h₀ h h' : Heap} {x dx Dc Dl Dg : Addr} (a : WI h₀ h x dx Dc Dl Dg) (k : ∀ b, b = x ∨ b = dx → ∀ o, h.get? b = some o → h'.get? b = some o) : WI h₀ h' x dx Dc Dl Dg := by
  obtain ⟨a0, e1, e2, e3, e4, e5, t1, t2, t3, t4, t5, Dp, Rl, n, a1, a2⟩ := a
  exact ⟨a0, e1, e2, e3, e4, e5, t1, t2, t3, t4, t5, Dp, Rl, n, k x (.inl rfl) _ a1, k dx (.inr rfl) _ a2⟩
theorem WI.live {h₀ h : Heap} {x dx Dc Dl Dg : Addr} (a : WI h₀ h x dx Dc Dl Dg) : (∃ o, h.get? x = some o) ∧ ∃ o, h.get? dx = some o := by
  obtain ⟨a0, e1, e2, e3, e4, e5, t1, t2, t3, t4, t5, Dp, Rl, n, a1, a2⟩ := a
  exact ⟨⟨_, a1⟩, _, a2⟩

structure CS (prog : Program) (w : World) (h₀ h : Heap) (x dx Dc Dl Dg : Addr) (F : Int → Int → Int) : Prop where
  wi : WI h₀ h x dx Dc Dl Dg
  oc : h₀.get? Dc = none
  lo : (Dc == sysModules) = false
  nx : x ≠ Dc
  nd : dx ≠ Dc
  cl : ClocksAt prog w h Dc F

theorem ClocksAt.tr {prog w h h' D F} (a : ClocksAt prog w h D F) (k : ∀ o, h.get? D = some o → h'.get? D = some o) (t : TK h h') : ClocksAt prog w h' D F := by
  obtain ⟨kvs, hD, hb, hv⟩ := a
  refine ⟨kvs, dict_sub hD k, hb, fun j => ?_⟩
  have := hv j
  cases q : valueAt kvs j with
  | none => rw [q] at this; exact this
  | some v => rw [q] at this; exact this.tk t
theorem CS.tr {prog w h₀ h h' x dx Dc Dl Dg F} (a : CS prog w h₀ h x dx Dc Dl Dg F) (k : ∀ b, b = x ∨ b = dx ∨ b = Dc → ∀ o, h.get? b = some o → h'.get? b = some o) (t : TK h h') : CS prog w h₀ h' x dx Dc Dl Dg F :=
  ⟨a.wi.tr fun b hb => k b (hb.imp id .inl), a.oc, a.lo, a.nx, a.nd, a.cl.tr (k Dc (.inr (.inr rfl))) t⟩
theorem CS.sub {prog w h₀ h h' x dx Dc Dl Dg F} (a : CS prog w h₀ h x dx Dc Dl Dg F) (k : Sub h h') : CS prog w h₀ h' x dx Dc Dl Dg F := a.tr (fun b _ => k b) (TK.of_sub k)
theorem CS.live {prog w h₀ h x dx Dc Dl Dg F} (a : CS prog w h₀ h x dx Dc Dl Dg F) : ∀ b, b = x ∨ b = dx ∨ b = Dc → ∃ o, h.get? b = some o := by
  rintro b (rfl | rfl | rfl)
  · exact a.wi.live.1
  · exact a.wi.live.2
  · obtain ⟨kvs, ⟨o, es, ep, ho, _⟩, _⟩ := a.cl
    exact ⟨o, ho⟩
/-- behind a `step` -/
theorem CS.up {prog w h₀ h' g' x dx Dc Dl Dg F} {L : Addr} {m : Str → Option Value} (a : CS prog w h₀ h' x dx Dc Dl Dg F) (n : ∀ b, b = x ∨ b = dx ∨ b = Dc → b ≠ L) (hn : h'.Ns L m)
    (up : ∀ a o, h'.get? a = some o → a ≠ L → a ∉ ([] : List Addr) → g'.get? a = some o) : CS prog w h₀ g' x dx Dc Dl Dg F :=
  a.tr (fun b hb o e => up b o e (n b hb) (by simp)) (tk_up hn (by simp) up)

theorem valueAt_cons {q : Int × Value} {r : List (Int × Value)} {j : Int} : valueAt (q :: r) j = if q.1 = j then some q.2 else valueAt r j := by
  unfold valueAt
  rw [List.find?_cons]
  by_cases e : q.1 = j
  · rw [decide_eq_true e, if_pos e]; rfl
  · rw [decide_eq_false e, if_neg e]
theorem valueAt_map {kvs : List (Int × Value)} {k j : Int} {v : Value} : valueAt (kvs.map fun q => if q.1 = k then (q.1, v) else q) j = if j = k then (if kvs.any (fun q => q.1 = k) then some v else none) else valueAt kvs j := by
  induction kvs with
  | nil => simp [valueAt]
  | cons q r ih =>
    rw [List.map_cons, valueAt_cons, ih, List.any_cons, valueAt_cons]
    by_cases e : q.1 = k
    · rw [decide_eq_true e, Bool.true_or, if_pos e]
      by_cases q' : j = k
      · simp [e, q']
      · simp [e, q', Ne.symm q']
    · rw [decide_eq_false e, Bool.false_or, if_neg e]
      by_cases q' : j = k
      · rw [if_pos q', if_pos q', if_neg (by rw [q']; exact e)]
      · rw [if_neg q', if_neg q']
theorem valueAt_none {kvs : List (Int × Value)} {j : Int} (h : kvs.any (fun q => q.1 = j) = false) : valueAt kvs j = none := by
  induction kvs with
  | nil => rfl
  | cons q r ih =>
    rw [List.any_cons, Bool.or_eq_false_iff] at h
    rw [valueAt_cons, if_neg (of_decide_eq_false h.1), ih h.2]
theorem valueAt_snoc {kvs : List (Int × Value)} {k j : Int} {v : Value} (h : kvs.any (fun q => q.1 = k) = false) : valueAt (kvs ++ [(k, v)]) j = if j = k then some v else valueAt kvs j := by
  induction kvs with
  | nil =>
    rw [List.nil_append, valueAt_cons]
    by_cases e : j = k
    · simp [e]
    · rw [if_neg (Ne.symm e), if_neg e]
  | cons q r ih =>
    rw [List.any_cons, Bool.or_eq_false_iff] at h
    have hq := of_decide_eq_false h.1
    rw [List.cons_append, valueAt_cons, ih h.2, valueAt_cons]
    by_cases e : j = k
    · rw [if_pos e, if_pos e, if_neg (by rw [e]; exact hq)]
    · rw [if_neg e, if_neg e]
theorem valueAt_stored {kvs : List (Int × Value)} {k j : Int} {v : Value} : valueAt (stored kvs k v) j = if j = k then some v else valueAt kvs j := by
  unfold stored
  split
  · rename_i h
    rw [valueAt_map, if_pos h]
  · rename_i h
    rw [valueAt_snoc (Bool.eq_false_iff.mpr h)]
theorem mem_stored {kvs : List (Int × Value)} {k : Int} {v : Value} {q : Int × Value} (h : q ∈ stored kvs k v) : q ∈ kvs ∨ q = (k, v) := by
  unfold stored at h
  split at h
  · obtain ⟨q', hq, rfl⟩ := List.mem_map.mp h
    by_cases e : q'.1 = k
    · right; simp [e]
    · left; simpa [e] using hq
  · rcases List.mem_append.mp h with h | h
    · exact .inl h
    · exact .inr (List.mem_singleton.mp h)
theorem keys4 {kvs : List (Int × Value)} (h : (kvs.map (·.1)).Nodup) (hb : ∀ q ∈ kvs, In4 q.1) : kvs.length ≤ 4 := by
  have : ∀ k ∈ kvs.map (·.1), k ∈ ([0, 1, 2, 3] : List Int) := by
    intro k hk
    obtain ⟨p, hp, rfl⟩ := List.mem_map.mp hk
    have := hb p hp
    have h4 : p.1 = 0 ∨ p.1 = 1 ∨ p.1 = 2 ∨ p.1 = 3 := by unfold In4 at this; omega
    rcases h4 with e | e | e | e <;> simp [e]
  have := nodup_le _ _ h this
  simpa using this

section
variable {prog : Program} {w : World} {A : Around} {E : Value → Shared → Prop} {s : Shared} {h₀ : Heap} {x dx Dc Dl Dg : Addr} {F : Int → Int → Int}
theorem keep_dict {K : Type} [DecidableEq K] {knd : KeyKind prog w K} {h h' : Heap} {d : Addr} {kvs : List (K × Value)} (hD : h.DictOf knd d kvs) (hs : Heap.SameBut d h h') : Keep [d] h h' := Keep.of_same hs (dict_no_tup hD)

/-- self.clocks[k] = v -/
theorem set_clock {k : Int} {t : Tok} {v : Value} {f : Int → Int} {Q : Unit → Shared → Prop} (C : CS prog w h₀ s.heap x dx Dc Dl Dg F) (hk : In4 k) (hv : ClkAt s.heap v f)
    (h : ∀ h' tk, Keep [Dc] s.heap h' → CS prog w h₀ h' x dx Dc Dl Dg (upd F k f) → (∃ kvs', h'.DictOf (intKind prog w) Dc kvs' ∧ valueAt kvs' k = some v) → Q () { s with heap := h', toks := tk }) : wpAny (model prog w) A (setItem (.ref Dc) (.int k t) v) Q E s := by
  obtain ⟨kvs, hD, hb, hF⟩ := C.cl
  refine wpAny_setItem_pairs (knd := intKind prog w) (k := k) (intKind_is _ _ _ _) hD (fun h' hD' hs' => ?_) (by rw [sizeLine_eq]; have := keys4 (dict_nodup hD) hb; omega)
  have kp := keep_dict hD hs'
  refine h _ _ kp ⟨C.wi.tr fun b hb o e => kp.at (by rcases hb with rfl | rfl <;> simp [C.nx, C.nd]) e, C.oc, C.lo, C.nx, C.nd, _, hD', fun q hq => ?_, fun j => ?_⟩ ⟨_, hD', by rw [valueAt_stored, if_pos rfl]⟩
  · rcases mem_stored hq with hq | rfl
    · exact hb q hq
    · exact hk
  · rw [valueAt_stored]
    by_cases e : j = k
    · subst e
      rw [if_pos rfl]
      show ClkAt _ _ _
      rw [upd_same]
      exact hv.tk (TK.of_keep kp)
    · rw [if_neg e, upd_ne e]
      have := hF j
      cases q : valueAt kvs j with
      | none => rw [q] at this; exact this
      | some v => rw [q] at this; exact this.tk (TK.of_keep kp)
theorem notin_yes {d : Addr} {kvs : List (Int × Value)} {k : Int} {t : Tok} {Q : Value → Shared → Prop} (hD : s.heap.DictOf (intKind prog w) d kvs) (lo : (d == sysModules) = false) (e : valueAt kvs k = none) (h : Q (.bool true) { s with toks := s.toks + 1 }) :
    wpAny (model prog w) A (compareOp .NotIn (.int k t) (.ref d)) Q E s := wpAny_notIn_of (knd := intKind prog w) (k := k) (intKind_is _ _ _ _) lo hD.mapOf (by rw [e]; exact h)
theorem notin_no {d : Addr} {kvs : List (Int × Value)} {k : Int} {t : Tok} {v : Value} {Q : Value → Shared → Prop} (hD : s.heap.DictOf (intKind prog w) d kvs) (lo : (d == sysModules) = false) (e : valueAt kvs k = some v) (h : Q (.bool false) { s with toks := s.toks + 1 }) :
    wpAny (model prog w) A (compareOp .NotIn (.int k t) (.ref d)) Q E s := wpAny_notIn_of (knd := intKind prog w) (k := k) (intKind_is _ _ _ _) lo hD.mapOf (by rw [e]; exact h)
/-- d[k] of a dict that has k -/
theorem dict_item {d : Addr} {kvs : List (Int × Value)} {k : Int} {t : Tok} {v : Value} {value slice : PySem.Expr} {Q : Value → Shared → Prop} (hD : s.heap.DictOf (intKind prog w) d kvs) (hl : valueAt kvs k = some v) (h : Q v { s with toks := s.toks + 1 })
    (hs : subscripted slice false (.ref d) (.int k t) = operate [.ref d, .int k t] (getItem (.ref d) (.int k t)) := by with_unfolding_all rfl) (hg : ∀ r, letTemporaryGo value (.ref d) r = pure () := by intro _; with_unfolding_all rfl) :
    wpAny (model prog w) A (subscriptTail value slice (.ref d) (.int k t)) Q E s :=
  subscriptTail_builtin hD.typeIs slot_dict_getitem.lookup (wpAny_getItem_of (knd := intKind prog w) (intKind_is _ _ _ _) hD.mapOf hl h) hs hg
end

/-- its two objects, written out on the ledger -/
theorem wi_news {h₀ h g : Heap} {L x dx Dc Dl Dg : Addr} (N : News h₀ L h (dump h₀ g)) (a : WI h₀ g x dx Dc Dl Dg) : ∃ (e1 e2 e3 e4 e5 : Int) (t1 t2 t3 t4 t5 : Tok) (Dp Rl : Addr) (n : Nat),
    News h₀ L h ((x, instObj 234 dx) :: (dx, dictOf [⟨e1, .str (Str.ofString "clocks") t1, .ref Dc⟩, ⟨e2, .str (Str.ofString "lines") t2, .ref Dl⟩, ⟨e3, .str (Str.ofString "gates") t3, .ref Dg⟩, ⟨e4, .str (Str.ofString "places") t4, .ref Dp⟩, ⟨e5, .str (Str.ofString "races") t5, .ref Rl⟩] n) :: dump h₀ g) := by
  obtain ⟨⟨ox, od⟩, e1, e2, e3, e4, e5, t1, t2, t3, t4, t5, Dp, Rl, n, a1, a2⟩ := a
  refine ⟨e1, e2, e3, e4, e5, t1, t2, t3, t4, t5, Dp, Rl, n, fun q hq => ?_⟩
  rcases List.mem_cons.mp hq with rfl | hq
  · exact N _ (mem_dump.mpr ⟨a1, ox⟩)
  · rcases List.mem_cons.mp hq with rfl | hq
    · exact N _ (mem_dump.mpr ⟨a2, od⟩)
    · exact N _ hq
theorem fr_keep {h₀ h h' : Heap} {L : Addr} {m : Str → Option Value} {S : List Addr} (F : Fr h₀ L h m) (k : Keep S h h') (nL : L ∉ S) (n0 : ∀ a ∈ S, h₀.get? a = none) : Fr h₀ L h' m :=
  ⟨F.ns.at' fun o e => k.at nL e, fun b o e => k.at (fun q => by rw [n0 b q] at e; cases e) (F.keep b o e), F.above⟩
theorem news_keep {h₀ h h' : Heap} {L : Addr} {news news' : List (Addr × Obj)} {S : List Addr} (N : News h₀ L h news) (k : Keep S h h') (hs : ∀ p ∈ news', p ∈ news) (n : ∀ p ∈ news', p.1 ∉ S) : News h₀ L h' news' :=
  fun p hp => ⟨k.at (n p hp) (N p (hs p hp)).1, (N p (hs p hp)).2⟩
theorem news_tail {h₀ h : Heap} {L : Addr} {news news' : List (Addr × Obj)} (N : News h₀ L h news) (hs : ∀ p ∈ news', p ∈ news) : News h₀ L h news' := fun p hp => N p (hs p hp)

theorem clock_spec {prog p w loose mean mg mb} {A : Around} {E : Value → Shared → Prop} {s : Shared} {h₀ : Heap} (R : Room A 1) (KX : (hd.heap_1 w.params).In h₀) (T : Top p loose mean mg mb h₀)
   (S0 : Sub h₀ s.heap) (hz : h₀.objs.size ≤ s.heap.objs.size) {x dx Dc Dl Dg : Addr} {F : Int → Int → Int} (C : CS prog w h₀ s.heap x dx Dc Dl Dg F) {k : Int} {t : Tok} (hk : In4 k) {Q : Value → Shared → Prop}
   (hQ : ∀ v h' tk, Keep [Dc] s.heap h' → CS prog w h₀ h' x dx Dc Dl Dg F → ClkAt h' v (F k) → Q v { s with heap := h', toks := tk }) :
   wpAny (model prog w) A (call (.ref 126) [.ref x, .int k t]) Q E s := by
  k_call_by "enter" [(Str.ofString "self", Value.ref x), (Str.ofString "goroutine", Value.int k t)]
  intro L h₁ A' R' hL F₁ N₁ SG
  obtain ⟨e1, e2, e3, e4, e5, t1, t2, t3, t4, t5, Dp, Rl, n, N₂⟩ := wi_news N₁ C.wi
  clear N₁
  have nL : ∀ b, b = x ∨ b = dx ∨ b = Dc → b ≠ L := fun b hb => by
    obtain ⟨o, ho⟩ := C.live b hb
    rw [hL]; exact Nat.ne_of_lt (Heap.lt_size ho)
  obtain ⟨kvs, hD, hb, hF⟩ := id C.cl
  have hFk := hF k
  walk_at "goA"
  cases q : valueAt kvs k with
  | some v =>
    rw [q] at hFk
    refine notin_no (dict_sub hD (SG _)) C.lo q ?_
    walk_at "goA"
    refine dict_item (dict_sub hD (SG _)) q ?_
    walk_at "goA"
    dsimp only
    exact hQ v _ _ (Keep.of_sub SG) (C.sub SG) (hFk.tk (TK.of_sub SG))
  | none =>
    rw [q] at hFk
    refine notin_yes (dict_sub hD (SG _)) C.lo q ?_
    walk_at "goA"
    rename Fr _ _ _ _ => F₃
    rename News _ _ _ _ => N₃
    have hg : Sub s.heap _ := sub_of F₃ N₃ (fun p hp => .tail _ (.tail _ (.tail _ (.tail _ hp)))) S0
    have hv : ClkAt _ _ (F k) := ⟨[(k, 1)], ⟨_, _, rfl, ⟨0, (N₃ _ (.head _)).1⟩, .cons ⟨_, _, _, rfl, 0, (N₃ _ (.tail _ (.head _))).1⟩ .nil⟩, Srt.single hk.1 hk.2 (by omega), fun j => (by
      rw [hFk]
      simp only [cnt, one]
      by_cases e : k = j
      · simp [e]
      · simp [e, Ne.symm e])⟩
    refine set_clock (C.sub hg) hk hv fun h₄ tk₄ k₄ C₄ P₄ => ?_
    have hup : upd F k (F k) = F := by
      funext j
      by_cases e : j = k
      · subst e; rw [upd_same]
      · rw [upd_ne e]
    rw [hup] at C₄
    have F₄ := fr_keep F₃ k₄ (by simpa using (nL Dc (.inr (.inr rfl))).symm) (by simpa using C.oc)
    have N₄ := news_keep (news' := [_, _]) N₃ k₄ (fun p hp => .tail _ (.tail _ (List.mem_append.mpr (.inl hp)))) (by simpa using ⟨C.nx, C.nd⟩)
    clear F₃ N₃
    obtain ⟨kvs', hD', hl'⟩ := P₄
    walk_at "goA"
    refine dict_item hD' hl' ?_
    walk_at "goA"
    dsimp only
    exact hQ _ _ _ ((Keep.of_sub hg).trans k₄) C₄ (hv.tk (TK.of_keep k₄))

theorem learn_spec {prog p w loose mean mg mb} {A : Around} {E : Value → Shared → Prop} {s : Shared} {h₀ : Heap} (R : Room A 2) (KX : (hd.heap_1 w.params).In h₀) (T : Top p loose mean mg mb h₀)
   (S0 : Sub h₀ s.heap) (hz : h₀.objs.size ≤ s.heap.objs.size) {x dx Dc Dl Dg : Addr} {F : Int → Int → Int} (C : CS prog w h₀ s.heap x dx Dc Dl Dg F) {k : Int} {t : Tok} (hk : In4 k) {vo : Value} {fo : Int → Int} (ho : ClkAt s.heap vo fo) {Q : Value → Shared → Prop}
   (hQ : ∀ h' tk, Keep [Dc] s.heap h' → CS prog w h₀ h' x dx Dc Dl Dg (upd F k (join (F k) fo)) → Q .none { s with heap := h', toks := tk }) :
   wpAny (model prog w) A (call (.ref 133) [.ref x, .int k t, vo]) Q E s := by
  k_call_by "enter" [(Str.ofString "self", Value.ref x), (Str.ofString "goroutine", Value.int k t), (Str.ofString "other", vo)]
  intro L h₁ A' R' hL F₁ N₁ SG
  obtain ⟨e1, e2, e3, e4, e5, t1, t2, t3, t4, t5, Dp, Rl, n, N₂⟩ := wi_news N₁ C.wi
  clear N₁
  have nL : ∀ b, b = x ∨ b = dx ∨ b = Dc → b ≠ L := fun b hb => by
    obtain ⟨o, ho⟩ := C.live b hb
    rw [hL]; exact Nat.ne_of_lt (Heap.lt_size ho)
  walk_at "goA"
  refine step [(x, _), (dx, _)] [Dc] [] (fun v h' => CS prog w h₀ h' x dx Dc Dl Dg F ∧ ClkAt h' v (F k)) F₁ N₂ S0 (by simpa using ⟨nL Dc (.inr (.inr rfl)), C.oc, C.nx, C.nd⟩) (by simp)
    (fun Q' q => clock_spec R' KX T F₁.keep (fr_size F₁) (C.sub SG) hk fun v h' tk k c v' => q _ _ _ k ⟨c, v'⟩) ?_
  rintro v h₂ tk₂ g₂ F₂ N₃ SG₂ SH₂ KG₂ _ up₂ _ ⟨C₂, hv₂⟩
  have C₂ := C₂.up nL F₂.ns up₂
  obtain ⟨c₂, hv₂, hs₂, hc₂⟩ := hv₂.tk (tk_up F₂.ns (by simp) up₂)
  obtain ⟨co, hvo, hso, hco⟩ := ho.tk (TK.of_keep KG₂)
  clear F₁ N₂
  walk_at "goA"
  refine joined_spec R' KX T F₂.keep (fr_size F₂) (hv₂.tk (TK.of_sub SH₂)) hs₂ (hvo.tk (TK.of_sub SH₂)) hso fun v' c' h₃ tk₃ hv' hs' hc' k₃ => ?_
  have F₃ := fr_sub F₂ k₃
  have N₄ := news_sub N₃ k₃
  clear F₂ N₃
  walk_at "goA"
  have SH₃ : Sub g₂ h₃ := fun b o e => k₃ b o (SH₂ b o e)
  refine set_clock (C₂.sub SH₃) hk ⟨c', hv', hs', fun j => hc' j⟩ fun h₄ tk₄ k₄ C₄ _ => ?_
  walk_at "goA"
  dsimp only
  have e : (fun j => max (cnt c₂ j) (cnt co j)) = join (F k) fo := by
    funext j; simp only [join, hc₂, hco]
  rw [e] at C₄
  exact hQ _ _ ((KG₂.trans (Keep.of_sub SH₃)).trans k₄) C₄

theorem told_spec {prog p w loose mean mg mb} {A : Around} {E : Value → Shared → Prop} {s : Shared} {h₀ : Heap} (R : Room A 3) (KX : (hd.heap_1 w.params).In h₀) (T : Top p loose mean mg mb h₀)
   (S0 : Sub h₀ s.heap) (hz : h₀.objs.size ≤ s.heap.objs.size) {x dx Dc Dl Dg : Addr} {F : Int → Int → Int} (C : CS prog w h₀ s.heap x dx Dc Dl Dg F) {k : Int} {t : Tok} (hk : In4 k) {Q : Value → Shared → Prop}
   (hQ : ∀ v h' tk, Keep [Dc] s.heap h' → CS prog w h₀ h' x dx Dc Dl Dg (upd F k (tick (F k) k)) → ClkAt h' v (F k) → Q v { s with heap := h', toks := tk }) :
   wpAny (model prog w) A (call (.ref 140) [.ref x, .int k t]) Q E s := by
  k_call_by "enter" [(Str.ofString "self", Value.ref x), (Str.ofString "goroutine", Value.int k t)]
  intro L h₁ A' R' hL F₁ N₁ SG
  obtain ⟨e1, e2, e3, e4, e5, t1, t2, t3, t4, t5, Dp, Rl, n, N₂⟩ := wi_news N₁ C.wi
  clear N₁
  have nL : ∀ b, b = x ∨ b = dx ∨ b = Dc → b ≠ L := fun b hb => by
    obtain ⟨o, ho⟩ := C.live b hb
    rw [hL]; exact Nat.ne_of_lt (Heap.lt_size ho)
  walk_at "goA"
  refine step [(x, _), (dx, _)] [Dc] [] (fun v h' => CS prog w h₀ h' x dx Dc Dl Dg F ∧ ClkAt h' v (F k)) F₁ N₂ S0 (by simpa using ⟨nL Dc (.inr (.inr rfl)), C.oc, C.nx, C.nd⟩) (by simp)
    (fun Q' q => clock_spec (R'.le (by omega)) KX T F₁.keep (fr_size F₁) (C.sub SG) hk fun v h' tk k c v' => q _ _ _ k ⟨c, v'⟩) ?_
  rintro v h₂ tk₂ g₂ F₂ N₃ SG₂ SH₂ KG₂ _ up₂ _ ⟨C₂, hv₂⟩
  have C₂ := C₂.up nL F₂.ns up₂
  have hv₀ := hv₂.tk (tk_up F₂.ns (by simp) up₂)
  obtain ⟨c₂, hv₂, hs₂, hc₂⟩ := id hv₀
  clear F₁ N₂
  walk_at "goA"
  rename Fr _ _ _ _ => F₃
  rename News _ _ _ _ => N₄
  have SH₃ : Sub g₂ _ := sub_of F₃ N₄ (fun p hp => .tail _ (.tail _ hp)) SG₂
  refine ticked_spec R' KX T F₃.keep (fr_size F₃) (hv₂.tk (TK.of_sub SH₃)) hs₂ hk fun v' c' h₄ tk₄ hv' hs' hc' k₄ => ?_
  have F₄ := fr_sub F₃ k₄
  have N₅ := news_sub N₄ k₄
  clear F₃ N₄
  walk_at "goA"
  have SH₄ : Sub g₂ h₄ := fun b o e => k₄ b o (SH₃ b o e)
  refine set_clock (C₂.sub SH₄) hk (f := tick (F k) k) ⟨c', hv', hs', fun j => by rw [hc']; simp only [tick, hc₂]⟩ fun h₅ tk₅ k₅ C₅ _ => ?_
  have F₅ := fr_keep F₄ k₅ (by simpa using (nL Dc (.inr (.inr rfl))).symm) (by simpa using C.oc)
  clear F₄ N₅
  have N₆ : News h₀ L h₅ [] := News.nil
  walk_at "goA"
  dsimp only
  exact hQ _ _ _ ((KG₂.trans (Keep.of_sub SH₄)).trans k₅) C₅ ((hv₀.tk (TK.of_sub SH₄)).tk (TK.of_keep k₅))

theorem go_spec {prog p w loose mean mg mb} {A : Around} {E : Value → Shared → Prop} {s : Shared} {h₀ : Heap} (R : Room A 4) (KX : (hd.heap_1 w.params).In h₀) (T : Top p loose mean mg mb h₀)
   (S0 : Sub h₀ s.heap) (hz : h₀.objs.size ≤ s.heap.objs.size) {x dx Dc Dl Dg : Addr} {F : Int → Int → Int} (C : CS prog w h₀ s.heap x dx Dc Dl Dg F) {k j : Int} {t u : Tok} (hk : In4 k) (hj : In4 j) {Q : Value → Shared → Prop}
   (hQ : ∀ h' tk, Keep [Dc] s.heap h' → CS prog w h₀ h' x dx Dc Dl Dg (upd (upd F k (tick (F k) k)) j (join (upd F k (tick (F k) k) j) (F k))) → Q .none { s with heap := h', toks := tk }) :
   wpAny (model prog w) A (call (.ref 147) [.ref x, .int k t, .int j u]) Q E s := by
  k_call_by "enter" [(Str.ofString "self", Value.ref x), (Str.ofString "goroutine", Value.int k t), (Str.ofString "child", Value.int j u)]
  intro L h₁ A' R' hL F₁ N₁ SG
  obtain ⟨e1, e2, e3, e4, e5, t1, t2, t3, t4, t5, Dp, Rl, n, N₂⟩ := wi_news N₁ C.wi
  clear N₁
  have nL : ∀ b, b = x ∨ b = dx ∨ b = Dc → b ≠ L := fun b hb => by
    obtain ⟨o, ho⟩ := C.live b hb
    rw [hL]; exact Nat.ne_of_lt (Heap.lt_size ho)
  walk_at "goA"
  refine step [(x, _), (dx, _)] [Dc] [] (fun v h' => CS prog w h₀ h' x dx Dc Dl Dg (upd F k (tick (F k) k)) ∧ ClkAt h' v (F k)) F₁ N₂ S0 (by simpa using ⟨nL Dc (.inr (.inr rfl)), C.oc, C.nx, C.nd⟩) (by simp)
    (fun Q' q => told_spec R' KX T F₁.keep (fr_size F₁) (C.sub SG) hk fun v h' tk k c v' => q _ _ _ k ⟨c, v'⟩) ?_
  rintro v h₂ tk₂ g₂ F₂ N₃ SG₂ SH₂ KG₂ _ up₂ _ ⟨C₂, hv₂⟩
  have C₂ := C₂.up nL F₂.ns up₂
  have hv₂ := hv₂.tk (tk_up F₂.ns (by simp) up₂)
  clear F₁ N₂
  walk_at "goA"
  refine learn_spec (R'.le (by omega)) KX T F₂.keep (fr_size F₂) (C₂.sub SH₂) hj (hv₂.tk (TK.of_sub SH₂)) fun h₃ tk₃ k₃ C₃ => ?_
  walk_at "goA"
  dsimp only
  exact hQ _ _ ((KG₂.trans (Keep.of_sub SH₂)).trans k₃) C₃
end

section
open PySem PySem.W PyProof.Rows PySem.Calls
set_option maxRecDepth 100000
set_option Elab.async false
set_option maxHeartbeats 4000000
theorem kfill5 : PySem.Challenge.rw_on0015_01 = PySem.Challenge.rw_on0015_01 ∧ hd.heap_1 = hd.heap_1 := by
  k_fill
  exact ⟨rfl, rfl⟩
-- enter a plain def: its names and values
-- walk until a loop, a call or a step without a line
-- what lies on the anchor is apart from what it has not

/-! lines -/
inductive ClkAll (h : Heap) : List Value → List (Int → Int) → Prop
  | nil : ClkAll h [] []
  | cons {v f vs fs} : ClkAt h v f → ClkAll h vs fs → ClkAll h (v :: vs) (f :: fs)
theorem ClkAll.tk {h h' : Heap} (k : TK h h') {vs fs} (x : ClkAll h vs fs) : ClkAll h' vs fs := by
  induction x with
  | nil => exact .nil
  | cons a _ ih => exact .cons (a.tk k) ih
theorem ClkAll.length {h : Heap} {vs fs} (x : ClkAll h vs fs) : vs.length = fs.length := by
  induction x with
  | nil => rfl
  | cons _ _ ih => simp [ih]
theorem ClkAll.snoc {h : Heap} {vs fs v f} (x : ClkAll h vs fs) (a : ClkAt h v f) : ClkAll h (vs ++ [v]) (fs ++ [f]) := by
  induction x with
  | nil => exact .cons a .nil
  | cons b _ ih => exact .cons b ih
theorem ClkAll.get {h : Heap} {vs fs} (x : ClkAll h vs fs) : ∀ {i : Nat} {f : Int → Int}, fs[i]? = some f → ∃ v, vs[i]? = some v ∧ ClkAt h v f := by
  induction x with
  | nil => intro i f e; simp at e
  | cons a _ ih =>
    intro i f e
    cases i with
    | zero => simp at e; subst e; exact ⟨_, rfl, a⟩
    | succ i => simpa using ih (by simpa using e)
/-- a list of clocks -/
def CListAt (h : Heap) (a : Addr) (fs : List (Int → Int)) : Prop := ∃ vs, h.PlainList a (List.toArray vs) ∧ ClkAll h vs fs
theorem CListAt.tr {h h' : Heap} {a fs} (x : CListAt h a fs) (e : ∀ o, h.get? a = some o → h'.get? a = some o) (k : TK h h') : CListAt h' a fs := let ⟨vs, p, q⟩ := x; ⟨vs, p.at e, q.tk k⟩

structure Ln where
  y : Addr
  dy : Addr
  S : Addr
  R : Addr
  room : Int
  sent : List (Int → Int)
  recv : List (Int → Int)
  fe : Int → Int
def Ln.fp (l : Ln) : List Addr := [l.y, l.dy, l.S, l.R]
def LineAt (h : Heap) (l : Ln) : Prop :=
  (∃ (e1 e2 e3 e4 : Int) (t1 t2 t3 t4 tr : Tok) (ve : Value) (n : Nat), h.get? l.y = some (instObj 80 l.dy) ∧
    h.get? l.dy = some (dictOf [⟨e1, .str (Str.ofString "room") t1, .int l.room tr⟩, ⟨e2, .str (Str.ofString "sent") t2, .ref l.S⟩, ⟨e3, .str (Str.ofString "received") t3, .ref l.R⟩, ⟨e4, .str (Str.ofString "end") t4, ve⟩] n) ∧ ClkAt h ve l.fe) ∧
  CListAt h l.S l.sent ∧ CListAt h l.R l.recv
theorem LineAt.tr {h h' : Heap} {l : Ln} (a : LineAt h l) (k : ∀ b ∈ l.fp, ∀ o, h.get? b = some o → h'.get? b = some o) (t : TK h h') : LineAt h' l := by
  obtain ⟨⟨e1, e2, e3, e4, t1, t2, t3, t4, tr, ve, n, a1, a2, a3⟩, b, c⟩ := a
  exact ⟨⟨e1, e2, e3, e4, t1, t2, t3, t4, tr, ve, n, k _ (by simp [Ln.fp]) _ a1, k _ (by simp [Ln.fp]) _ a2, a3.tk t⟩, b.tr (k _ (by simp [Ln.fp])) t, c.tr (k _ (by simp [Ln.fp])) t⟩
theorem LineAt.live {h : Heap} {l : Ln} (a : LineAt h l) : ∀ b ∈ l.fp, ∃ o, h.get? b = some o := by
  obtain ⟨⟨e1, e2, e3, e4, t1, t2, t3, t4, tr, ve, n, a1, a2, a3⟩, ⟨_, ⟨_, b⟩, _⟩, _, ⟨_, c⟩, _⟩ := a
  intro d hd
  simp only [Ln.fp, List.mem_cons, List.not_mem_nil, or_false] at hd
  rcases hd with rfl | rfl | rfl | rfl
  · exact ⟨_, a1⟩
  · exact ⟨_, a2⟩
  · exact ⟨_, b⟩
  · exact ⟨_, c⟩

theorem lt4 {a b c d n L : Nat} (h0 : n ≤ a) (h1 : a < b) (_hc : c ≠ L) (_hd : d ≠ L) (h2 : b < c) (h3 : c < d) : (∀ x ∈ [b, a, c, d], n ≤ x) ∧ [b, a, c, d].Nodup := by
  constructor
  · intro x hx
    simp only [List.mem_cons, List.not_mem_nil, or_false] at hx
    omega
  · simp only [List.nodup_cons, List.mem_cons, List.not_mem_nil, or_false, not_or, not_false_eq_true, List.nodup_nil, and_true]
    omega
theorem none_of_size {h : Heap} {a : Addr} (e : h.objs.size ≤ a) : h.get? a = none := by
  cases q : h.get? a with
  | none => rfl
  | some o => exact absurd (Heap.lt_size q) (Nat.not_lt.mpr e)

/-- Line(room) -/
theorem line_new {prog p w loose mean mg mb} {A : Around} {E : Value → Shared → Prop} {s : Shared} {h₀ : Heap} (R : Room A 2) (KX : (hd.heap_1 w.params).In h₀) (T : Top p loose mean mg mb h₀)
   (S0 : Sub h₀ s.heap) (hz : h₀.objs.size ≤ s.heap.objs.size) {room : Int} {t : Tok} {Q : Value → Shared → Prop}
   (hQ : ∀ l h' tk, Sub s.heap h' → LineAt h' l → l.sent = [] → l.recv = [] → l.fe = (fun _ => 0) → (∀ a ∈ l.fp, s.heap.get? a = none) → l.fp.Nodup → Q (.ref l.y) { s with heap := h', toks := tk }) :
   wpAny (model prog w) A (call (.ref 80) [.int room t]) Q E s := by
  refine new_inst (fI := 77) KX S0 (by k_dflt k_is) (by k_dflt k_is) (by k_dflt k_is) fun y dy h₁ zdy hyd ey edy k₁ hz₁ => ?_
  have ndy := none_of_size zdy
  have ny := none_of_size (Nat.le_trans zdy (Nat.le_of_lt hyd))
  have R₁ : Room (A.under (.builtin "type.__call__" ⟨.ref 80 :: [.int room t], []⟩)) 1 := R.make
  generalize A.under (.builtin "type.__call__" ⟨.ref 80 :: [.int room t], []⟩) = A₁ at R₁ ⊢
  have S₁ : Sub h₀ ({ s with heap := h₁ } : Shared).heap := fun b o e => k₁ b o (S0 b o e)
  have hz₂ : h₀.objs.size ≤ ({ s with heap := h₁ } : Shared).heap.objs.size := Nat.le_trans hz hz₁
  k_call_by "enterC" [(Str.ofString "self", Value.ref y), (Str.ofString "room", Value.int room t)]
  intro L h₂ A' R' hL F₁ N₁ SG
  have o0 : ∀ a, s.heap.get? a = none → h₀.get? a = none := fun a e => by
    cases q : h₀.get? a with
    | none => rfl
    | some o => have := S0 _ _ q; rw [e] at this; cases this
  have N₂ : News h₀ L h₂ ((y, instObj 80 dy) :: (dy, dictOf [] 0) :: dump h₀ s.heap) := fun q hq => by
    rcases List.mem_cons.mp hq with rfl | hq
    · exact N₁ _ (mem_dump.mpr ⟨ey, o0 _ ny⟩)
    · rcases List.mem_cons.mp hq with rfl | hq
      · exact N₁ _ (mem_dump.mpr ⟨edy, o0 _ ndy⟩)
      · obtain ⟨b, o⟩ := q
        obtain ⟨e1, e2⟩ := mem_dump.mp hq
        exact N₁ _ (mem_dump.mpr ⟨k₁ _ _ e1, e2⟩)
  clear N₁
  walk_at "goA"
  dsimp only
  rename Fr _ _ _ _ => F₃
  rename News _ _ _ _ => N₃
  have SG₃ := sub_of F₃ N₃ (fun p hp => .tail _ (.tail _ (.tail _ (.tail _ (.tail _ hp))))) S0
  have z := lt4 (a := dy) (b := y) (c := _) (d := _) (n := s.heap.objs.size) zdy hyd (N₃ _ (.tail _ (.tail _ (.head _)))).2.1 (N₃ _ (.tail _ (.head _))).2.1 (by omega) (by omega)
  refine ⟨rfl, hQ ⟨y, dy, _, _, room, [], [], fun _ => 0⟩ _ _ SG₃ ⟨⟨_, _, _, _, _, _, _, _, t, _, 4, (N₃ _ (.tail _ (.tail _ (.tail _ (.head _))))).1, (N₃ _ (.tail _ (.tail _ (.tail _ (.tail _ (.head _)))))).1, [], ⟨_, [], rfl, ⟨0, (N₃ _ (.head _)).1⟩, .nil⟩, Srt.nil, fun _ => rfl⟩,
    ⟨[], ⟨0, (N₃ _ (.tail _ (.tail _ (.head _)))).1⟩, .nil⟩, [], ⟨0, (N₃ _ (.tail _ (.head _))).1⟩, .nil⟩ rfl rfl rfl (fun a ha => none_of_size (z.1 a ha)) z.2⟩

/-- the lines and the gate of a watch; ls: the lines by their channel; G: what the gate knows -/
def fpo : Option Ln → List Addr
  | none => []
  | some l => l.fp
def fpL (Dl Dg : Addr) (ls : Int → Option Ln) : List Addr := Dl :: Dg :: (fpo (ls 7) ++ fpo (ls 8))
structure LS (prog : Program) (w : World) (h₀ h : Heap) (Dl Dg : Addr) (ls : Int → Option Ln) (G : Int → Int) : Prop where
  o : ∀ a ∈ fpL Dl Dg ls, h₀.get? a = none
  ll : (Dl == sysModules) = false
  lg : (Dg == sysModules) = false
  nd : (fpL Dl Dg ls).Nodup
  ln : ∃ kvs, h.DictOf (intKind prog w) Dl kvs ∧ (∀ q ∈ kvs, q.1 = 7 ∨ q.1 = 8) ∧ ∀ c, c = 7 ∨ c = 8 → valueAt kvs c = (ls c).map fun l => .ref l.y
  la : ∀ c, c = 7 ∨ c = 8 → ∀ l, ls c = some l → LineAt h l
  gt : ∃ kvs, h.DictOf (intKind prog w) Dg kvs ∧ (∀ q ∈ kvs, q.1 = 3) ∧ match valueAt kvs 3 with | some v => ClkAt h v G | none => G = fun _ => 0
theorem mem_fpL {Dl Dg : Addr} {ls : Int → Option Ln} {c : Int} (hc : c = 7 ∨ c = 8) {l : Ln} (e : ls c = some l) {a : Addr} (ha : a ∈ l.fp) : a ∈ fpL Dl Dg ls := by
  unfold fpL
  refine .tail _ (.tail _ (List.mem_append.mpr ?_))
  rcases hc with rfl | rfl
  · left; rw [e]; exact ha
  · right; rw [e]; exact ha
theorem LS.tr {prog w h₀ h h' Dl Dg ls G} (a : LS prog w h₀ h Dl Dg ls G) (k : ∀ b ∈ fpL Dl Dg ls, ∀ o, h.get? b = some o → h'.get? b = some o) (t : TK h h') : LS prog w h₀ h' Dl Dg ls G := by
  refine ⟨a.o, a.ll, a.lg, a.nd, ?_, fun c hc l e => (a.la c hc l e).tr (fun b hb => k b (mem_fpL hc e hb)) t, ?_⟩
  · obtain ⟨kvs, hD, hb, hv⟩ := a.ln
    exact ⟨kvs, dict_sub hD (k Dl (.head _)), hb, hv⟩
  · obtain ⟨kvs, hD, hb, hv⟩ := a.gt
    refine ⟨kvs, dict_sub hD (k Dg (.tail _ (.head _))), hb, ?_⟩
    cases q : valueAt kvs 3 with
    | none => rw [q] at hv; exact hv
    | some v => rw [q] at hv; exact hv.tk t
theorem LS.live {prog w h₀ h Dl Dg ls G} (a : LS prog w h₀ h Dl Dg ls G) : ∀ b ∈ fpL Dl Dg ls, ∃ o, h.get? b = some o := by
  intro b hb
  unfold fpL at hb
  rcases List.mem_cons.mp hb with rfl | hb
  · obtain ⟨kvs, ⟨o, _, _, ho, _⟩, _⟩ := a.ln; exact ⟨o, ho⟩
  · rcases List.mem_cons.mp hb with rfl | hb
    · obtain ⟨kvs, ⟨o, _, _, ho, _⟩, _⟩ := a.gt; exact ⟨o, ho⟩
    · rcases List.mem_append.mp hb with hb | hb
      · cases q : ls 7 with
        | none => rw [q] at hb; cases hb
        | some l => rw [q] at hb; exact (a.la 7 (.inl rfl) l q).live b hb
      · cases q : ls 8 with
        | none => rw [q] at hb; cases hb
        | some l => rw [q] at hb; exact (a.la 8 (.inr rfl) l q).live b hb

/-- the whole watch -/
structure WS (prog : Program) (w : World) (h₀ h : Heap) (x dx Dc Dl Dg : Addr) (F : Int → Int → Int) (ls : Int → Option Ln) (G : Int → Int) : Prop where
  cs : CS prog w h₀ h x dx Dc Dl Dg F
  lp : LS prog w h₀ h Dl Dg ls G
  ap : ∀ a ∈ fpL Dl Dg ls, a ≠ x ∧ a ≠ dx ∧ a ≠ Dc
def fpW (x dx Dc Dl Dg : Addr) (ls : Int → Option Ln) : List Addr := x :: dx :: Dc :: fpL Dl Dg ls
theorem WS.tr {prog w h₀ h h' x dx Dc Dl Dg F ls G} (a : WS prog w h₀ h x dx Dc Dl Dg F ls G) (k : ∀ b ∈ fpW x dx Dc Dl Dg ls, ∀ o, h.get? b = some o → h'.get? b = some o) (t : TK h h') : WS prog w h₀ h' x dx Dc Dl Dg F ls G :=
  ⟨a.cs.tr (fun b hb => k b (by unfold fpW; rcases hb with rfl | rfl | rfl <;> simp)) t, a.lp.tr (fun b hb => k b (.tail _ (.tail _ (.tail _ hb)))) t, a.ap⟩
theorem WS.sub {prog w h₀ h h' x dx Dc Dl Dg F ls G} (a : WS prog w h₀ h x dx Dc Dl Dg F ls G) (k : Sub h h') : WS prog w h₀ h' x dx Dc Dl Dg F ls G := a.tr (fun b _ => k b) (TK.of_sub k)
theorem WS.live {prog w h₀ h x dx Dc Dl Dg F ls G} (a : WS prog w h₀ h x dx Dc Dl Dg F ls G) : ∀ b ∈ fpW x dx Dc Dl Dg ls, ∃ o, h.get? b = some o := by
  intro b hb
  unfold fpW at hb
  simp only [List.mem_cons] at hb
  rcases hb with rfl | rfl | rfl | hb
  · exact a.cs.live _ (.inl rfl)
  · exact a.cs.live _ (.inr (.inl rfl))
  · exact a.cs.live _ (.inr (.inr rfl))
  · exact a.lp.live b (by simpa using hb)
theorem WS.own {prog w h₀ h x dx Dc Dl Dg F ls G} (a : WS prog w h₀ h x dx Dc Dl Dg F ls G) : ∀ b ∈ fpW x dx Dc Dl Dg ls, h₀.get? b = none := by
  intro b hb
  unfold fpW at hb
  simp only [List.mem_cons] at hb
  rcases hb with rfl | rfl | rfl | hb
  · exact a.cs.wi.1.1
  · exact a.cs.wi.1.2
  · exact a.cs.oc
  · exact a.lp.o b (by simpa using hb)

theorem fpL_upd {Dl Dg : Addr} {ls : Int → Option Ln} {c : Int} (hc : c = 7 ∨ c = 8) {l : Ln} (e : ls c = none) {a : Addr} (h : a ∈ fpL Dl Dg (upd ls c (some l))) : a ∈ fpL Dl Dg ls ∨ a ∈ l.fp := by
  unfold fpL at h ⊢
  rcases List.mem_cons.mp h with rfl | h
  · exact .inl (.head _)
  · rcases List.mem_cons.mp h with rfl | h
    · exact .inl (.tail _ (.head _))
    · rcases hc with rfl | rfl
      · rw [upd_same, upd_ne (by decide)] at h
        rcases List.mem_append.mp h with h | h
        · exact .inr h
        · exact .inl (.tail _ (.tail _ (List.mem_append.mpr (.inr h))))
      · rw [upd_same, upd_ne (by decide)] at h
        rcases List.mem_append.mp h with h | h
        · exact .inl (.tail _ (.tail _ (List.mem_append.mpr (.inl h))))
        · exact .inr h
theorem fpL_nodup {Dl Dg : Addr} {ls : Int → Option Ln} {c : Int} (hc : c = 7 ∨ c = 8) {l : Ln} (e : ls c = none) (n : (fpL Dl Dg ls).Nodup) (nl : l.fp.Nodup) (d : ∀ a ∈ l.fp, a ∉ fpL Dl Dg ls) : (fpL Dl Dg (upd ls c (some l))).Nodup := by
  have key : ∀ l7 l8 : List Addr, (Dl :: Dg :: (l7 ++ l8)).Nodup → (l7 = [] ∨ l8 = []) → (∀ a ∈ l.fp, a ∉ Dl :: Dg :: (l7 ++ l8)) → (Dl :: Dg :: (l.fp ++ l8)).Nodup ∧ (Dl :: Dg :: (l7 ++ l.fp)).Nodup := by
    intro l7 l8 hn _ hd
    rw [List.nodup_cons, List.nodup_cons, List.nodup_append] at hn
    obtain ⟨n1, n2, n3, n4, n5⟩ := hn
    constructor
    · rw [List.nodup_cons, List.nodup_cons, List.nodup_append]
      refine ⟨fun q => ?_, fun q => ?_, nl, n4, fun a ha b hb e => ?_⟩
      · rcases List.mem_cons.mp q with q | q
        · exact n1 (by rw [q]; exact .head _)
        · rcases List.mem_append.mp q with q | q
          · exact hd _ q (.head _)
          · exact n1 (.tail _ (List.mem_append.mpr (.inr q)))
      · rcases List.mem_append.mp q with q | q
        · exact hd _ q (.tail _ (.head _))
        · exact n2 (List.mem_append.mpr (.inr q))
      · exact hd a ha (.tail _ (.tail _ (List.mem_append.mpr (.inr (e ▸ hb)))))
    · rw [List.nodup_cons, List.nodup_cons, List.nodup_append]
      refine ⟨fun q => ?_, fun q => ?_, n3, nl, fun a ha b hb e => ?_⟩
      · rcases List.mem_cons.mp q with q | q
        · exact n1 (by rw [q]; exact .head _)
        · rcases List.mem_append.mp q with q | q
          · exact n1 (.tail _ (List.mem_append.mpr (.inl q)))
          · exact hd _ q (.head _)
      · rcases List.mem_append.mp q with q | q
        · exact n2 (List.mem_append.mpr (.inl q))
        · exact hd _ q (.tail _ (.head _))
      · exact hd b hb (.tail _ (.tail _ (List.mem_append.mpr (.inl (e ▸ ha)))))
  unfold fpL at n d ⊢
  rcases hc with rfl | rfl
  · rw [upd_same, upd_ne (by decide)]
    exact (key (fpo (ls 7)) (fpo (ls 8)) n (.inl (by rw [e]; rfl)) d).1
  · rw [upd_same, upd_ne (by decide)]
    exact (key (fpo (ls 7)) (fpo (ls 8)) n (.inr (by rw [e]; rfl)) d).2

theorem line_spec {prog p w loose mean mg mb} {A : Around} {E : Value → Shared → Prop} {s : Shared} {h₀ : Heap} (R : Room A 3) (KX : (hd.heap_1 w.params).In h₀) (T : Top p loose mean mg mb h₀)
   (S0 : Sub h₀ s.heap) (hz : h₀.objs.size ≤ s.heap.objs.size) {x dx Dc Dl Dg : Addr} {F : Int → Int → Int} {ls : Int → Option Ln} {G : Int → Int} (C : WS prog w h₀ s.heap x dx Dc Dl Dg F ls G) {c room : Int} {t u : Tok} (hc : c = 7 ∨ c = 8) {Q : Value → Shared → Prop}
   (hQ : ∀ l ls' h' tk, Keep [Dl] s.heap h' → WS prog w h₀ h' x dx Dc Dl Dg F ls' G → ls' c = some l → (∀ j, j ≠ c → ls' j = ls j) → (ls c = some l ∨ (ls c = none ∧ l.sent = [] ∧ l.recv = [] ∧ l.fe = fun _ => 0)) →
      (∀ a ∈ fpW x dx Dc Dl Dg ls', a ∈ fpW x dx Dc Dl Dg ls ∨ s.heap.get? a = none) → Q (.ref l.y) { s with heap := h', toks := tk }) :
   wpAny (model prog w) A (call (.ref 154) [.ref x, .int c t, .int room u]) Q E s := by
  k_call_by "enter" [(Str.ofString "self", Value.ref x), (Str.ofString "channel", Value.int c t), (Str.ofString "room", Value.int room u)]
  intro L h₁ A' R' hL F₁ N₁ SG
  obtain ⟨e1, e2, e3, e4, e5, t1, t2, t3, t4, t5, Dp, Rl, n, N₂⟩ := wi_news N₁ C.cs.wi
  clear N₁
  have nL : ∀ b ∈ fpW x dx Dc Dl Dg ls, b ≠ L := fun b hb => by
    obtain ⟨o, ho⟩ := C.live b hb
    rw [hL]; exact Nat.ne_of_lt (Heap.lt_size ho)
  obtain ⟨kvs, hD, hb, hv⟩ := C.lp.ln
  have hvc := hv c hc
  walk_at "goA"
  cases q : ls c with
  | some l =>
    rw [q] at hvc
    refine notin_no (dict_sub hD (SG _)) C.lp.ll hvc ?_
    walk_at "goA"
    refine dict_item (dict_sub hD (SG _)) hvc ?_
    walk_at "goA"
    dsimp only
    exact hQ l ls _ _ (Keep.of_sub SG) (C.sub SG) q (fun _ _ => rfl) (.inl q) fun a ha => .inl ha
  | none =>
    rw [q] at hvc
    refine notin_yes (dict_sub hD (SG _)) C.lp.ll hvc ?_
    walk_at "goA"
    refine line_new R' KX T F₁.keep (fr_size F₁) fun l h₂ tk₂ k₂ hl b1 b2 b3 b4 b5 => ?_
    have F₂ := fr_sub F₁ k₂
    have N₃ := news_sub N₂ k₂
    have SG₂ : Sub s.heap h₂ := fun b o e => k₂ _ _ (SG _ _ e)
    clear F₁ N₂
    have b4 : ∀ a ∈ l.fp, s.heap.get? a = none := fun a ha => by
      cases q : s.heap.get? a with
      | none => rfl
      | some o => have := SG _ _ q; rw [b4 a ha] at this; cases this
    walk_at "goA"
    have hDl : Dl ∉ l.fp := fun q => by
      have := b4 _ q
      obtain ⟨o, ho⟩ := C.lp.live Dl (.head _)
      rw [this] at ho; cases ho
    refine wpAny_setItem_pairs (knd := intKind prog w) (k := c) (intKind_is _ _ _ _) (dict_sub hD (SG₂ _)) (fun h₃ hD₃ hs₃ => ?_) (by
      have : kvs.length ≤ 2 := by
        have := nodup_le _ ([7, 8] : List Int) (dict_nodup hD) fun k hk => by
          obtain ⟨p, hp, rfl⟩ := List.mem_map.mp hk
          rcases hb p hp with e | e <;> simp [e]
        simpa using this
      rw [sizeLine_eq]; omega)
    have k₃ := keep_dict (dict_sub hD (SG₂ _)) hs₃
    have ap := C.ap Dl (.head _)
    have F₃ := fr_keep F₂ k₃ (by simpa using (nL Dl (by simp [fpW, fpL])).symm) (by simpa using C.lp.o Dl (.head _))
    have N₄ := news_keep (news' := [_, _]) N₃ k₃ (fun p hp => List.mem_append.mpr (.inl hp)) (by simpa using ⟨Ne.symm ap.1, Ne.symm ap.2.1⟩)
    clear F₂ N₃
    have hl' : valueAt (stored kvs c (.ref l.y)) c = some (.ref l.y) := by rw [valueAt_stored, if_pos rfl]
    walk_at "goA"
    refine dict_item hD₃ hl' ?_
    walk_at "goA"
    dsimp only
    have hlive : ∀ a ∈ fpL Dl Dg ls, a ∉ l.fp := fun a ha q => by
      obtain ⟨o, ho⟩ := C.lp.live a ha
      rw [b4 a q] at ho; cases ho
    have nodupL := fpL_nodup hc q C.lp.nd b5 fun a ha q => hlive a q ha
    have kk : ∀ b, b ≠ Dl → ∀ o, s.heap.get? b = some o → h₃.get? b = some o := fun b hb o e => k₃.at (by simpa using hb) (SG₂ b o e)
    refine hQ l (upd ls c (some l)) _ _ ((Keep.of_sub SG₂).trans k₃) ⟨(C.cs.sub SG₂).tr (fun b hb o e => k₃.at (by rcases hb with rfl | rfl | rfl <;> simp [Ne.symm ap.1, Ne.symm ap.2.1, Ne.symm ap.2.2]) e) (TK.of_keep k₃), ⟨?_, C.lp.ll, C.lp.lg, nodupL, ?_, ?_, ?_⟩, ?_⟩ upd_same
      (fun j hj => upd_ne hj) (.inr ⟨q, b1, b2, b3⟩) ?_
    · intro a ha
      rcases fpL_upd hc q ha with h | h
      · exact C.lp.o a h
      · cases q : h₀.get? a with
        | none => rfl
        | some o => have := S0 _ _ q; rw [b4 a h] at this; cases this
    · refine ⟨_, hD₃, fun q hq => ?_, fun j hj => ?_⟩
      · rcases mem_stored hq with hq | rfl
        · exact hb q hq
        · exact hc
      · rw [valueAt_stored]
        by_cases e : j = c
        · subst e; rw [if_pos rfl, upd_same]; rfl
        · rw [if_neg e, upd_ne e]; exact hv j hj
    · intro j hj l' hl''
      by_cases e : j = c
      · subst e
        rw [upd_same] at hl''
        cases hl''
        exact hl.tr (fun b hb o e => k₃.at (by simp only [List.mem_singleton]; rintro rfl; exact hDl hb) e) (TK.of_keep k₃)
      · rw [upd_ne e] at hl''
        refine (C.lp.la j hj l' hl'').tr (fun b hb o e => kk b ?_ o e) ((TK.of_sub SG₂).trans (TK.of_keep k₃))
        rintro rfl
        have := C.lp.nd
        unfold fpL at this
        rw [List.nodup_cons] at this
        exact this.1 (.tail _ (List.mem_append.mpr (by
          rcases hj with rfl | rfl
          · left; rw [hl'']; exact hb
          · right; rw [hl'']; exact hb)))
    · obtain ⟨kg, hDg, hbg, hvg⟩ := C.lp.gt
      have hne : Dg ≠ Dl := by
        have := C.lp.nd
        unfold fpL at this
        rw [List.nodup_cons] at this
        exact fun e => this.1 (by rw [e]; exact .head _)
      refine ⟨kg, dict_sub hDg (kk Dg hne), hbg, ?_⟩
      cases q' : valueAt kg 3 with
      | none => rw [q'] at hvg; exact hvg
      | some v => rw [q'] at hvg; exact hvg.tk ((TK.of_sub SG₂).trans (TK.of_keep k₃))
    · intro a ha
      rcases fpL_upd hc q ha with h | h
      · exact C.ap a h
      · have := b4 a h
        refine ⟨?_, ?_, ?_⟩
        · rintro rfl; obtain ⟨o, ho⟩ := C.cs.live _ (.inl rfl); rw [this] at ho; cases ho
        · rintro rfl; obtain ⟨o, ho⟩ := C.cs.live _ (.inr (.inl rfl)); rw [this] at ho; cases ho
        · rintro rfl; obtain ⟨o, ho⟩ := C.cs.live _ (.inr (.inr rfl)); rw [this] at ho; cases ho
    · intro a ha
      unfold fpW at ha ⊢
      simp only [List.mem_cons] at ha ⊢
      rcases ha with h | h | h | h
      · exact .inl (.inl h)
      · exact .inl (.inr (.inl h))
      · exact .inl (.inr (.inr (.inl h)))
      · rcases fpL_upd hc q h with h | h
        · exact .inl (.inr (.inr (.inr h)))
        · exact .inr (b4 a h)
end

section
open PySem PySem.W PyProof.Rows PySem.Calls
set_option maxRecDepth 100000
set_option Elab.async false
set_option maxHeartbeats 4000000
theorem kfill6 : PySem.Challenge.rw_on0015_01 = PySem.Challenge.rw_on0015_01 ∧ hd.heap_1 = hd.heap_1 := by
  k_fill
  exact ⟨rfl, rfl⟩
-- enter a plain def: its names and values
-- walk until a loop, a call or a step without a line
-- what lies on the anchor is apart from what it has not

def sentOf : Option Ln → List (Int → Int) | none => [] | some l => l.sent
def recvOf : Option Ln → List (Int → Int) | none => [] | some l => l.recv
def feOf : Option Ln → (Int → Int) | none => fun _ => 0 | some l => l.fe

theorem fpL_same {Dl Dg : Addr} {ls : Int → Option Ln} {c : Int} {l l' : Ln} (e : ls c = some l) (h : l'.fp = l.fp) : fpL Dl Dg (upd ls c (some l')) = fpL Dl Dg ls := by
  have : ∀ j, fpo (upd ls c (some l') j) = fpo (ls j) := fun j => by
    by_cases q : j = c
    · subst q; rw [upd_same, e]; exact h
    · rw [upd_ne q]
  unfold fpL
  rw [this, this]
/-- the place of a line in the footprint -/
theorem fpL_apart {Dl Dg : Addr} {ls : Int → Option Ln} (n : (fpL Dl Dg ls).Nodup) {c : Int} (hc : c = 7 ∨ c = 8) {l : Ln} (e : ls c = some l) : (∀ a ∈ l.fp, a ≠ Dl ∧ a ≠ Dg) ∧ l.fp.Nodup ∧ ∀ j, j = 7 ∨ j = 8 → j ≠ c → ∀ l', ls j = some l' → ∀ a ∈ l.fp, a ∉ l'.fp := by
  unfold fpL at n
  rw [List.nodup_cons, List.nodup_cons, List.nodup_append] at n
  obtain ⟨n1, n2, n3, n4, n5⟩ := n
  have hin : ∀ a ∈ l.fp, a ∈ fpo (ls 7) ++ fpo (ls 8) := fun a ha => by
    rcases hc with rfl | rfl
    · exact List.mem_append.mpr (.inl (by rw [e]; exact ha))
    · exact List.mem_append.mpr (.inr (by rw [e]; exact ha))
  refine ⟨fun a ha => ⟨fun q => n1 (.tail _ (q ▸ hin a ha)), fun q => n2 (q ▸ hin a ha)⟩, ?_, fun j hj hne l' e' a ha ha' => ?_⟩
  · rcases hc with rfl | rfl
    · rw [e] at n3; exact n3
    · rw [e] at n4; exact n4
  · rcases hc with rfl | rfl
    · rcases hj with rfl | rfl
      · exact hne rfl
      · rw [e] at n5; rw [e'] at n5; exact n5 a ha a ha' rfl
    · rcases hj with rfl | rfl
      · rw [e] at n5; rw [e'] at n5; exact n5 a ha' a ha rfl
      · exact hne rfl

section
variable {prog : Program} {w : World} {A : Around} {E : Value → Shared → Prop} {s : Shared} {h₀ : Heap} {x dx Dc Dl Dg : Addr} {F : Int → Int → Int} {ls : Int → Option Ln} {G : Int → Int}

/-- a line turned at places of its own -/
theorem WS.turn {h h' : Heap} {S : List Addr} {c : Int} {l l' : Ln} (C : WS prog w h₀ h x dx Dc Dl Dg F ls G) (hc : c = 7 ∨ c = 8) (hl : ls c = some l) (hS : ∀ a ∈ S, a ∈ l.fp) (k : Keep S h h') (hf : l'.fp = l.fp) (hy : l'.y = l.y) (hL : LineAt h' l') :
    WS prog w h₀ h' x dx Dc Dl Dg F (upd ls c (some l')) G := by
  obtain ⟨a1, a2, a3⟩ := fpL_apart C.lp.nd hc hl
  have tk := TK.of_keep k
  have hSL : ∀ a ∈ S, a ∈ fpL Dl Dg ls := fun a ha => mem_fpL hc hl (hS a ha)
  have e := fpL_same (Dl := Dl) (Dg := Dg) hl hf
  refine ⟨C.cs.tr (fun b hb o e => k.at (fun q => ?_) e) tk, ⟨by rw [e]; exact C.lp.o, C.lp.ll, C.lp.lg, by rw [e]; exact C.lp.nd, ?_, ?_, ?_⟩, by rw [e]; exact C.ap⟩
  · have := C.ap b (hSL b q)
    rcases hb with h | h | h
    · exact this.1 h
    · exact this.2.1 h
    · exact this.2.2 h
  · obtain ⟨kvs, hD, hb, hv⟩ := C.lp.ln
    refine ⟨kvs, dict_sub hD fun o e => k.at (fun q => (a1 _ (hS _ q)).1 rfl) e, hb, fun j hj => ?_⟩
    rw [hv j hj]
    by_cases q : j = c
    · subst q; rw [upd_same, hl]; simp [hy]
    · rw [upd_ne q]
  · intro j hj l₂ e₂
    by_cases q : j = c
    · subst q; rw [upd_same] at e₂; cases e₂; exact hL
    · rw [upd_ne q] at e₂
      exact (C.lp.la j hj l₂ e₂).tr (fun b hb o e => k.at (fun hq => a3 j hj q l₂ e₂ b (hS b hq) hb) e) tk
  · obtain ⟨kvs, hD, hb, hv⟩ := C.lp.gt
    refine ⟨kvs, dict_sub hD fun o e => k.at (fun q => (a1 _ (hS _ q)).2 rfl) e, hb, ?_⟩
    cases q : valueAt kvs 3 with
    | none => rw [q] at hv; exact hv
    | some v => rw [q] at hv; exact hv.tk tk

theorem plain_no_tup {h : Heap} {a : Addr} {items : Array Value} (x : h.PlainList a items) : ∀ o, h.get? a = some o → ¬ TupO o := fun o e k => by
  obtain ⟨n, e'⟩ := x
  rw [e'] at e; cases e
  exact absurd (show Value.type "list" = .type "tuple" from k.1) (by decide)
/-- append to a list of clocks -/
theorem clist_append {a : Addr} {fs : List (Int → Int)} {v : Value} {f : Int → Int} {Q : Value → Shared → Prop} (x : CListAt s.heap a fs) (hv : ClkAt s.heap v f) (hz : fs.length ≤ 1000)
    (h : ∀ h', Keep [a] s.heap h' → CListAt h' a (fs ++ [f]) → Q .none { s with heap := h' }) : wpAny (model prog w) A (call (.builtin "list.append") [.ref a, v]) Q E s := by
  obtain ⟨vs, hp, hc⟩ := x
  obtain ⟨n, ho⟩ := id hp
  refine append_at ho (fun h' hs ho' => ?_) (by rw [List.size_toArray, hc.length, sizeLine_eq]; omega)
  have k := Keep.of_same hs (plain_no_tup hp)
  refine h h' k ⟨vs ++ [v], ⟨n + 1, ?_⟩, (hc.tk (TK.of_keep k)).snoc (hv.tk (TK.of_keep k))⟩
  rw [ho']; simp
theorem getM_append {a : Addr} {items : Array Value} {pl : Sem Bool} {Q : Value × List Value → Shared → Prop} (x : s.heap.PlainList a items) (h : Q (.builtin "list.append", [.ref a]) s) : wpAny (model prog w) A (getMethod (.ref a) "append" pl) Q E s :=
  getMethod_builtin x.isList.typeIs PySem.F.plainAttrs_list PySem.slot_list_append PySem.F.type_list_append (fun b e => by
    cases e
    obtain ⟨n, e⟩ := x
    exact ⟨_, e, rfl⟩) h
/-- xs[k] of a list -/
theorem list_item {a : Addr} {items : Array Value} {k : Int} {t : Tok} {v : Value} {value slice : PySem.Expr} {Q : Value → Shared → Prop} (hl : s.heap.IsList a items) (h0 : 0 ≤ k) (hz : items.size ≤ 100000) (hx : items[k.toNat]? = some v) (h : Q v s)
    (hs : subscripted slice false (.ref a) (.int k t) = operate [.ref a, .int k t] (getItem (.ref a) (.int k t)) := by with_unfolding_all rfl) : wpAny (model prog w) A (subscriptTail value slice (.ref a) (.int k t)) Q E s :=
  tail_any hl.typeIs slot_list_getitem.lookup (wpAny_getItem_list hl h0 (by have := (Array.getElem?_eq_some_iff.mp hx).1; omega) hx h) hs
end

/-- the line's two objects, written out on the ledger -/
theorem ln_news {h₀ h g : Heap} {L : Addr} {l : Ln} {cs : List (Addr × Obj)} (N : News h₀ L h (cs ++ dump h₀ g)) (a : LineAt g l) (o : ∀ b ∈ l.fp, h₀.get? b = none) : ∃ (e1 e2 e3 e4 : Int) (t1 t2 t3 t4 tr : Tok) (ve : Addr) (n : Nat),
    News h₀ L h ((l.y, instObj 80 l.dy) :: (l.dy, dictOf [⟨e1, .str (Str.ofString "room") t1, .int l.room tr⟩, ⟨e2, .str (Str.ofString "sent") t2, .ref l.S⟩, ⟨e3, .str (Str.ofString "received") t3, .ref l.R⟩, ⟨e4, .str (Str.ofString "end") t4, .ref ve⟩] n) :: (cs ++ dump h₀ g)) ∧ ClkAt g (.ref ve) l.fe := by
  obtain ⟨⟨e1, e2, e3, e4, t1, t2, t3, t4, tr, ve', n, a1, a2, a3⟩, _⟩ := a
  obtain ⟨ve, rfl⟩ : ∃ ve, ve' = .ref ve := let ⟨_, ⟨a, _, e, _⟩, _⟩ := a3; ⟨a, e⟩
  refine ⟨e1, e2, e3, e4, t1, t2, t3, t4, tr, ve, n, fun q hq => ?_, a3⟩
  rcases List.mem_cons.mp hq with rfl | hq
  · exact N _ (List.mem_append.mpr (.inr (mem_dump.mpr ⟨a1, o _ (by simp [Ln.fp])⟩)))
  · rcases List.mem_cons.mp hq with rfl | hq
    · exact N _ (List.mem_append.mpr (.inr (mem_dump.mpr ⟨a2, o _ (by simp [Ln.fp])⟩)))
    · exact N _ hq
theorem WS.up {prog w h₀ h' g' x dx Dc Dl Dg F ls G} {L : Addr} {m : Str → Option Value} (a : WS prog w h₀ h' x dx Dc Dl Dg F ls G) (n : ∀ b ∈ fpW x dx Dc Dl Dg ls, b ≠ L) (hn : h'.Ns L m)
    (up : ∀ a o, h'.get? a = some o → a ≠ L → a ∉ ([] : List Addr) → g'.get? a = some o) : WS prog w h₀ g' x dx Dc Dl Dg F ls G :=
  a.tr (fun b hb o e => up b o e (n b hb) (by simp)) (tk_up hn (by simp) up)
/-- the watch where its clocks alone are turned -/
theorem WS.clocks {prog w h₀ h h' x dx Dc Dl Dg F F' ls G} (a : WS prog w h₀ h x dx Dc Dl Dg F ls G) (k : Keep [Dc] h h') (c : CS prog w h₀ h' x dx Dc Dl Dg F') : WS prog w h₀ h' x dx Dc Dl Dg F' ls G :=
  ⟨c, a.lp.tr (fun b hb o e => k.at (by simpa using (a.ap b hb).2.2) e) (TK.of_keep k), a.ap⟩
theorem Keep.fresh {S U : List Addr} {h h' : Heap} (x : Keep U h h') (i : ∀ a ∈ U, a ∈ S ∨ h.get? a = none) : Keep S h h' := fun b o e k => x b o e (k.imp (fun n m => (i b m).elim n fun q => by rw [q] at e; cases e) id)
theorem live_ne {h : Heap} {a b : Addr} {o : Obj} (e : h.get? a = some o) (n : h.get? b = none) : b ≠ a := by
  rintro rfl; rw [n] at e; cases e

theorem send_spec {prog p w loose mean mg mb} {A : Around} {E : Value → Shared → Prop} {s : Shared} {h₀ : Heap} (R : Room A 4) (KX : (hd.heap_1 w.params).In h₀) (T : Top p loose mean mg mb h₀)
   (S0 : Sub h₀ s.heap) (hz : h₀.objs.size ≤ s.heap.objs.size) {x dx Dc Dl Dg : Addr} {F : Int → Int → Int} {ls : Int → Option Ln} {G : Int → Int} (C : WS prog w h₀ s.heap x dx Dc Dl Dg F ls G) {k c room : Int} {t u v : Tok} (hk : In4 k) (hc : c = 7 ∨ c = 8)
   (hz1 : (sentOf (ls c)).length ≤ 100) (hz2 : (recvOf (ls c)).length ≤ 100) {Q : Value → Shared → Prop}
   (hQ : ∀ F' ls' l h' tk, Keep (fpW x dx Dc Dl Dg ls) s.heap h' → WS prog w h₀ h' x dx Dc Dl Dg F' ls' G → ls' c = some l → l.sent = sentOf (ls c) ++ [F k] → l.recv = recvOf (ls c) → l.fe = feOf (ls c) → (∀ j, j ≠ c → ls' j = ls j) →
      (∀ a ∈ fpW x dx Dc Dl Dg ls', a ∈ fpW x dx Dc Dl Dg ls ∨ s.heap.get? a = none) →
      ((¬ (0 ≤ ((sentOf (ls c)).length : Int) - room ∧ ((sentOf (ls c)).length : Int) - room < (recvOf (ls c)).length) ∧ F' = upd F k (tick (F k) k)) ∨
        ∃ fr, 0 ≤ ((sentOf (ls c)).length : Int) - room ∧ (recvOf (ls c))[(((sentOf (ls c)).length : Int) - room).toNat]? = some fr ∧ F' = upd (upd F k (tick (F k) k)) k (join (tick (F k) k) fr)) → Q .none { s with heap := h', toks := tk }) :
   wpAny (model prog w) A (call (.ref 161) [.ref x, .int k t, .int c u, .int room v]) Q E s := by
  k_call_by "enter" [(Str.ofString "self", Value.ref x), (Str.ofString "goroutine", Value.int k t), (Str.ofString "channel", Value.int c u), (Str.ofString "room", Value.int room v)]
  intro L h₁ A' R' hL F₁ N₁ SG
  obtain ⟨e1, e2, e3, e4, e5, t1, t2, t3, t4, t5, Dp, Rl, n, N₂⟩ := wi_news N₁ C.cs.wi
  clear N₁
  have nL : ∀ b ∈ fpW x dx Dc Dl Dg ls, b ≠ L := fun b hb => by
    obtain ⟨o, ho⟩ := C.live b hb
    rw [hL]; exact Nat.ne_of_lt (Heap.lt_size ho)
  have apl := C.ap Dl (.head _)
  walk_at "goB"
  refine step [(x, _), (dx, _)] [Dl] [] (fun v h' => ∃ l ls', v = .ref l.y ∧ WS prog w h₀ h' x dx Dc Dl Dg F ls' G ∧ ls' c = some l ∧ (∀ j, j ≠ c → ls' j = ls j) ∧ (ls c = some l ∨ (ls c = none ∧ l.sent = [] ∧ l.recv = [] ∧ l.fe = fun _ => 0)) ∧
      (∀ a ∈ fpW x dx Dc Dl Dg ls', a ∈ fpW x dx Dc Dl Dg ls ∨ h₁.get? a = none)) F₁ N₂ S0 (by simpa using ⟨nL Dl (by simp [fpW, fpL]), C.lp.o Dl (.head _), Ne.symm apl.1, Ne.symm apl.2.1⟩) (by simp)
    (fun Q' q => line_spec R' KX T F₁.keep (fr_size F₁) (C.sub SG) hc fun l ls' h' tk k a b c d e => q _ _ _ k ⟨l, ls', rfl, a, b, c, d, e⟩) ?_
  rintro v₂ h₂ tk₂ g₂ F₂ N₃ SG₂ SH₂ KG₂ _ up₂ _ ⟨l, ls', rfl, C₂, hlc, hlo, hld, hfr⟩
  have nL₂ : ∀ b ∈ fpW x dx Dc Dl Dg ls', b ≠ L := fun b hb => by
    rcases hfr b hb with h | h
    · exact nL b h
    · obtain ⟨o, _, _, e, _⟩ := F₁.ns
      exact live_ne e h
  have C₂ := C₂.up nL₂ F₂.ns up₂
  have hfr₀ : ∀ a ∈ fpW x dx Dc Dl Dg ls', a ∈ fpW x dx Dc Dl Dg ls ∨ s.heap.get? a = none := fun a ha => (hfr a ha).imp id fun q => by
    cases z : s.heap.get? a with
    | none => rfl
    | some o => have := SG _ _ z; rw [q] at this; cases this
  have hsent : l.sent = sentOf (ls c) := by
    rcases hld with h | ⟨h, b, _⟩
    · rw [h]; rfl
    · rw [h, b]; rfl
  have hrecv : l.recv = recvOf (ls c) := by
    rcases hld with h | ⟨h, _, b, _⟩
    · rw [h]; rfl
    · rw [h, b]; rfl
  have hfe : l.fe = feOf (ls c) := by
    rcases hld with h | ⟨h, _, _, b⟩
    · rw [h]; rfl
    · rw [h, b]; rfl
  clear F₁ N₂
  have hLn := C₂.lp.la c hc l hlc
  have hmf : ∀ a ∈ l.fp, a ∈ fpL Dl Dg ls' := fun a ha => mem_fpL hc hlc ha
  obtain ⟨f1, f2, f3, f4, r1, r2, r3, r4, rr, ve, nn, N₄, _⟩ := ln_news (cs := [_, _]) N₃ hLn fun b hb => C₂.lp.o b (hmf b hb)
  dsimp only [List.cons_append, List.nil_append] at N₄
  clear N₃
  obtain ⟨ap1, ap2, ap3⟩ := fpL_apart C₂.lp.nd hc hlc
  have hnd := ap2
  simp only [Ln.fp, List.nodup_cons, List.mem_cons, List.not_mem_nil, or_false, not_or] at hnd
  have apy := C₂.ap l.y (hmf _ (by simp [Ln.fp]))
  have apd := C₂.ap l.dy (hmf _ (by simp [Ln.fp]))
  have apS := C₂.ap l.S (hmf _ (by simp [Ln.fp]))
  walk_at "goB"
  obtain ⟨vsS, hpS, hcS⟩ := id hLn.2.1
  rename Fr _ _ _ _ => F₃
  rename News _ _ _ _ => N₅
  have SH₃ : Sub g₂ _ := sub_of F₃ N₅ (fun p hp => .tail _ (.tail _ (.tail _ (.tail _ hp)))) SG₂
  refine getM_append (hpS.at (SH₃ _)) ?_
  walk_at "goB"
  refine step [(l.y, _), (l.dy, _), (x, _), (dx, _)] [Dc] [] (fun v h' => CS prog w h₀ h' x dx Dc Dl Dg (upd F k (tick (F k) k)) ∧ ClkAt h' v (F k)) F₃ N₅ SG₂ (by simpa using ⟨nL₂ Dc (by simp [fpW]), C.cs.oc, apy.2.2, apd.2.2, C.cs.nx, C.cs.nd⟩) (by simp)
    (fun Q' q => told_spec R' KX T F₃.keep (fr_size F₃) (C₂.cs.sub SH₃) hk fun v h' tk k c v' => q _ _ _ k ⟨c, v'⟩) ?_
  rintro v₃ h₄ tk₄ g₄ F₄ N₆ SG₄ SH₄ KG₄ _ up₄ _ ⟨C₄, hv₄⟩
  have C₄ := WS.clocks C₂ KG₄ (C₄.up (fun b hb => nL₂ b (by unfold fpW; rcases hb with rfl | rfl | rfl <;> simp)) F₄.ns up₄)
  have hv₄ := hv₄.tk (tk_up F₄.ns (by simp) up₄)
  have hLn₄ := C₄.lp.la c hc l hlc
  clear F₃ N₅
  dsimp only [List.cons_append, List.nil_append] at N₆
  walk_at "goB"
  have hS4 := hLn₄.2.1
  have hR4 := hLn₄.2.2
  refine step [(l.y, _), (l.dy, _), (x, _), (dx, _)] [l.S] [] (fun v h' => v = .none ∧ CListAt h' l.S (l.sent ++ [F k])) F₄ N₆ SG₄ (by
      simpa using ⟨nL₂ l.S (by unfold fpW; simp [hmf l.S (by simp [Ln.fp])]), C₂.lp.o _ (hmf l.S (by simp [Ln.fp])), hnd.1.2.1, hnd.2.1.1, Ne.symm apS.1, Ne.symm apS.2.1⟩) (by simp)
    (fun Q' q => clist_append (hS4.tr (SH₄ _) (TK.of_sub SH₄)) (hv₄.tk (TK.of_sub SH₄)) (by rw [hsent]; omega) fun h' k a => q _ _ _ k ⟨rfl, a⟩) ?_
  rintro v₅ h₅ tk₅ g₅ F₅ N₇ SG₅ SH₅ KG₅ _ up₅ _ ⟨rfl, hS₅⟩
  have nS : l.S ≠ L := nL₂ l.S (by unfold fpW; simp [hmf l.S (by simp [Ln.fp])])
  have hS₅ := hS₅.tr (fun o e => up₅ _ o e nS (by simp)) (tk_up F₅.ns (by simp) up₅)
  have hLn₅ : LineAt g₅ { l with sent := l.sent ++ [F k] } := by
    obtain ⟨⟨e1, e2, e3, e4, t1, t2, t3, t4, tr, ve, n, a1, a2, a3⟩, b, c⟩ := hLn₄
    exact ⟨⟨e1, e2, e3, e4, t1, t2, t3, t4, tr, ve, n, KG₅.at (by simpa using hnd.1.2.1) a1, KG₅.at (by simpa using hnd.2.1.1) a2, a3.tk (TK.of_keep KG₅)⟩, hS₅, c.tr (fun o e => KG₅.at (by simpa using Ne.symm hnd.2.2.1) e) (TK.of_keep KG₅)⟩
  have C₅ := C₄.turn (l' := { l with sent := l.sent ++ [F k] }) hc hlc (S := [l.S]) (by simp [Ln.fp]) KG₅ rfl rfl hLn₅
  clear F₄ N₆
  dsimp only [List.cons_append, List.nil_append] at N₇
  walk_at "goB"
  obtain ⟨vs5, hp5, hc5⟩ := id hS₅
  have hl5 := hc5.length
  refine call_len_list (hp5.isList.at (SH₅ _)) (by rw [List.size_toArray, hl5, List.length_append, hsent]; simp; omega) ?_
  have hsz : ((List.toArray vs5).size : Int) = ((sentOf (ls c)).length : Int) + 1 := by rw [List.size_toArray, hl5, List.length_append, hsent]; simp
  have mS : l.S ∈ fpW x dx Dc Dl Dg ls' := by unfold fpW; simp [hmf l.S (by simp [Ln.fp])]
  have KU : Keep (fpW x dx Dc Dl Dg ls') s.heap g₅ := ((KG₂.mono (by simp [fpW, fpL])).trans (KG₄.mono (by simp [fpW]))).trans (KG₅.mono (by simpa using mS))
  have efp : fpW x dx Dc Dl Dg (upd ls' c (some { l with sent := l.sent ++ [F k] })) = fpW x dx Dc Dl Dg ls' := by unfold fpW; rw [fpL_same (l' := { l with sent := l.sent ++ [F k] }) hlc rfl]
  have fin : ∀ F' h' tk, Keep (fpW x dx Dc Dl Dg ls') g₅ h' → WS prog w h₀ h' x dx Dc Dl Dg F' (upd ls' c (some { l with sent := l.sent ++ [F k] })) G →
      ((¬ (0 ≤ ((sentOf (ls c)).length : Int) - room ∧ ((sentOf (ls c)).length : Int) - room < (recvOf (ls c)).length) ∧ F' = upd F k (tick (F k) k)) ∨
        ∃ fr, 0 ≤ ((sentOf (ls c)).length : Int) - room ∧ (recvOf (ls c))[(((sentOf (ls c)).length : Int) - room).toNat]? = some fr ∧ F' = upd (upd F k (tick (F k) k)) k (join (tick (F k) k) fr)) → Q .none { s with heap := h', toks := tk } := fun F' h' tk kk ww cc =>
    hQ F' _ _ h' tk ((KU.trans kk).fresh hfr₀) ww upd_same (by rw [hsent]) hrecv hfe (fun j hj => by rw [upd_ne hj, hlo j hj]) (by rw [efp]; exact hfr₀) cc
  walk_at "goB"
  · obtain ⟨vr, hpr, hcr⟩ := id C₅.lp.la c hc _ upd_same |>.2.2
    have hlr := hcr.length
    rename Fr _ _ _ _ => F₆
    rename News _ _ _ _ => N₈
    have SH₆ : Sub g₅ _ := sub_of F₆ N₈ (fun p hp => .tail _ (.tail _ (.tail _ (.tail _ hp)))) SG₅
    rename _ ≤ _ => hge
    have hszr : ((List.toArray vr).size : Int) = ((recvOf (ls c)).length : Int) := by rw [List.size_toArray, hlr]; show ((l.recv.length : Nat) : Int) = _; rw [hrecv]
    refine call_len_list (hpr.isList.at (SH₆ _)) (by rw [hszr]; omega) ?_
    walk_at "goB"
    · rename _ < _ => hlt
      rw [hszr, hsz] at hlt
      rw [hsz] at hge
      have hidx : (((sentOf (ls c)).length : Int) - room).toNat < (recvOf (ls c)).length := by omega
      obtain ⟨fr, hfr'⟩ : ∃ fr, (recvOf (ls c))[(((sentOf (ls c)).length : Int) - room).toNat]? = some fr := ⟨_, List.getElem?_eq_getElem hidx⟩
      obtain ⟨vf, hvf, hcf⟩ := hcr.get (i := (((sentOf (ls c)).length : Int) - room).toNat) (f := fr) (by show l.recv[_]? = _; rw [hrecv]; exact hfr')
      have e1 : ((((List.toArray vs5).size : Int) - room - 1)).toNat = (((sentOf (ls c)).length : Int) - room).toNat := by rw [hsz]; congr 1; omega
      refine list_item (hpr.isList.at (SH₆ _)) (by rw [hsz]; omega) (by have := hszr; omega) (v := vf) (by rw [e1, List.getElem?_toArray]; exact hvf) ?_
      walk_at "goB"
      refine learn_spec (R'.le (by omega)) KX T F₆.keep (fr_size F₆) (C₅.cs.sub SH₆) hk (hcf.tk (TK.of_sub SH₆)) fun h₇ tk₇ k₇ C₇ => ?_
      have F₇ := fr_keep F₆ k₇ (by simpa using (nL₂ Dc (by simp [fpW])).symm) (by simpa using C.cs.oc)
      clear F₆ N₈
      have N₉ : News h₀ L h₇ [] := News.nil
      walk_at "goB"
      dsimp only
      rw [upd_same] at C₇
      exact fin _ _ _ ((Keep.of_sub SH₆).trans (k₇.mono (by simp [fpW]))) (WS.clocks (C₅.sub SH₆) k₇ C₇) (.inr ⟨fr, by omega, hfr', rfl⟩)
    · rename ¬ _ => hneg
      rename Fr _ _ _ _ => F₇
      rename News _ _ _ _ => N₉
      dsimp only
      refine fin _ _ _ (Keep.of_sub SH₆) (C₅.sub SH₆) (.inl ⟨fun q => hneg ?_, rfl⟩)
      rw [hsz, hszr]; omega
  · rename ¬ _ => hneg
    rename Fr _ _ _ _ => F₆
    rename News _ _ _ _ => N₈
    have SH₆ : Sub g₅ _ := sub_of F₆ N₈ (fun p hp => .tail _ (.tail _ (.tail _ (.tail _ hp)))) SG₅
    dsimp only
    refine fin _ _ _ (Keep.of_sub SH₆) (C₅.sub SH₆) (.inl ⟨fun q => hneg ?_, rfl⟩)
    rw [hsz]; omega
theorem receive_spec {prog p w loose mean mg mb} {A : Around} {E : Value → Shared → Prop} {s : Shared} {h₀ : Heap} (R : Room A 4) (KX : (hd.heap_1 w.params).In h₀) (T : Top p loose mean mg mb h₀)
   (S0 : Sub h₀ s.heap) (hz : h₀.objs.size ≤ s.heap.objs.size) {x dx Dc Dl Dg : Addr} {F : Int → Int → Int} {ls : Int → Option Ln} {G : Int → Int} (C : WS prog w h₀ s.heap x dx Dc Dl Dg F ls G) {k c room : Int} {t u v : Tok} (hk : In4 k) (hc : c = 7 ∨ c = 8)
   (hz1 : (sentOf (ls c)).length ≤ 100) (hz2 : (recvOf (ls c)).length ≤ 100) {fs : Int → Int} (hfs : (sentOf (ls c))[(recvOf (ls c)).length]? = some fs) {Q : Value → Shared → Prop}
   (hQ : ∀ ls' l h' tk, Keep (fpW x dx Dc Dl Dg ls) s.heap h' → WS prog w h₀ h' x dx Dc Dl Dg (upd (upd F k (tick (F k) k)) k (join (tick (F k) k) fs)) ls' G → ls' c = some l → l.sent = sentOf (ls c) → l.recv = recvOf (ls c) ++ [F k] → l.fe = feOf (ls c) → (∀ j, j ≠ c → ls' j = ls j) →
      (∀ a ∈ fpW x dx Dc Dl Dg ls', a ∈ fpW x dx Dc Dl Dg ls ∨ s.heap.get? a = none) → Q .none { s with heap := h', toks := tk }) :
   wpAny (model prog w) A (call (.ref 168) [.ref x, .int k t, .int c u, .int room v]) Q E s := by
  k_call_by "enter" [(Str.ofString "self", Value.ref x), (Str.ofString "goroutine", Value.int k t), (Str.ofString "channel", Value.int c u), (Str.ofString "room", Value.int room v)]
  intro L h₁ A' R' hL F₁ N₁ SG
  obtain ⟨e1, e2, e3, e4, e5, t1, t2, t3, t4, t5, Dp, Rl, n, N₂⟩ := wi_news N₁ C.cs.wi
  clear N₁
  have nL : ∀ b ∈ fpW x dx Dc Dl Dg ls, b ≠ L := fun b hb => by
    obtain ⟨o, ho⟩ := C.live b hb
    rw [hL]; exact Nat.ne_of_lt (Heap.lt_size ho)
  have apl := C.ap Dl (.head _)
  walk_at "goB"
  refine step [(x, _), (dx, _)] [Dl] [] (fun v h' => ∃ l ls', v = .ref l.y ∧ WS prog w h₀ h' x dx Dc Dl Dg F ls' G ∧ ls' c = some l ∧ (∀ j, j ≠ c → ls' j = ls j) ∧ (ls c = some l ∨ (ls c = none ∧ l.sent = [] ∧ l.recv = [] ∧ l.fe = fun _ => 0)) ∧
      (∀ a ∈ fpW x dx Dc Dl Dg ls', a ∈ fpW x dx Dc Dl Dg ls ∨ h₁.get? a = none)) F₁ N₂ S0 (by simpa using ⟨nL Dl (by simp [fpW, fpL]), C.lp.o Dl (.head _), Ne.symm apl.1, Ne.symm apl.2.1⟩) (by simp)
    (fun Q' q => line_spec (R'.le (by omega)) KX T F₁.keep (fr_size F₁) (C.sub SG) hc fun l ls' h' tk k a b c d e => q _ _ _ k ⟨l, ls', rfl, a, b, c, d, e⟩) ?_
  rintro v₂ h₂ tk₂ g₂ F₂ N₃ SG₂ SH₂ KG₂ _ up₂ _ ⟨l, ls', rfl, C₂, hlc, hlo, hld, hfr⟩
  have nL₂ : ∀ b ∈ fpW x dx Dc Dl Dg ls', b ≠ L := fun b hb => by
    rcases hfr b hb with h | h
    · exact nL b h
    · obtain ⟨o, _, _, e, _⟩ := F₁.ns
      exact live_ne e h
  have C₂ := C₂.up nL₂ F₂.ns up₂
  have hfr₀ : ∀ a ∈ fpW x dx Dc Dl Dg ls', a ∈ fpW x dx Dc Dl Dg ls ∨ s.heap.get? a = none := fun a ha => (hfr a ha).imp id fun q => by
    cases z : s.heap.get? a with
    | none => rfl
    | some o => have := SG _ _ z; rw [q] at this; cases this
  have hsent : l.sent = sentOf (ls c) := by
    rcases hld with h | ⟨h, b, _⟩
    · rw [h]; rfl
    · rw [h, b]; rfl
  have hrecv : l.recv = recvOf (ls c) := by
    rcases hld with h | ⟨h, _, b, _⟩
    · rw [h]; rfl
    · rw [h, b]; rfl
  have hfe : l.fe = feOf (ls c) := by
    rcases hld with h | ⟨h, _, _, b⟩
    · rw [h]; rfl
    · rw [h, b]; rfl
  clear F₁ N₂
  have hLn := C₂.lp.la c hc l hlc
  have hmf : ∀ a ∈ l.fp, a ∈ fpL Dl Dg ls' := fun a ha => mem_fpL hc hlc ha
  obtain ⟨f1, f2, f3, f4, r1, r2, r3, r4, rr, ve, nn, N₄, hve⟩ := ln_news (cs := [_, _]) N₃ hLn fun b hb => C₂.lp.o b (hmf b hb)
  dsimp only [List.cons_append, List.nil_append] at N₄
  clear N₃
  obtain ⟨ap1, ap2, ap3⟩ := fpL_apart C₂.lp.nd hc hlc
  have hnd := ap2
  simp only [Ln.fp, List.nodup_cons, List.mem_cons, List.not_mem_nil, or_false, not_or] at hnd
  have apy := C₂.ap l.y (hmf _ (by simp [Ln.fp]))
  have apd := C₂.ap l.dy (hmf _ (by simp [Ln.fp]))
  have apS := C₂.ap l.S (hmf _ (by simp [Ln.fp]))
  have apR := C₂.ap l.R (hmf _ (by simp [Ln.fp]))
  have mS : l.S ∈ fpW x dx Dc Dl Dg ls' := by unfold fpW; simp [hmf l.S (by simp [Ln.fp])]
  have mR : l.R ∈ fpW x dx Dc Dl Dg ls' := by unfold fpW; simp [hmf l.R (by simp [Ln.fp])]
  have mY : l.dy ∈ fpW x dx Dc Dl Dg ls' := by unfold fpW; simp [hmf l.dy (by simp [Ln.fp])]
  obtain ⟨vsS, hpS, hcS⟩ := id hLn.2.1
  obtain ⟨vsR, hpR, hcR⟩ := id hLn.2.2
  have hlR := hcR.length
  have hlS := hcS.length
  walk_at "goB"
  rename Fr _ _ _ _ => F₃
  rename News _ _ _ _ => N₅
  have SH₃ : Sub g₂ _ := sub_of F₃ N₅ (fun p hp => .tail _ (.tail _ (.tail _ (.tail _ hp)))) SG₂
  have hszR : ((List.toArray vsR).size : Int) = ((recvOf (ls c)).length : Int) := by rw [List.size_toArray, hlR, hrecv]
  refine call_len_list (hpR.isList.at (SH₃ _)) (by rw [hszR]; omega) ?_
  walk_at "goB"
  obtain ⟨vf, hvf, hcf⟩ := hcS.get (i := (recvOf (ls c)).length) (f := fs) (by rw [hsent]; exact hfs)
  refine list_item (hpS.isList.at (SH₃ _)) (by rw [hszR]; omega) (by rw [List.size_toArray, hlS, hsent]; omega) (v := vf) (by rw [hszR, List.getElem?_toArray]; simpa using hvf) ?_
  walk_at "goB"
  clear SH₃
  rename Fr _ _ _ _ => F₃
  rename News _ _ _ _ => N₅
  have SH₃ : Sub g₂ _ := sub_of F₃ N₅ (fun p hp => .tail _ (.tail _ (.tail _ (.tail _ hp)))) SG₂
  refine getM_append (hpR.at (SH₃ _)) ?_
  walk_at "goB"
  refine step [(l.y, _), (l.dy, _), (x, _), (dx, _)] [Dc] [] (fun v h' => CS prog w h₀ h' x dx Dc Dl Dg (upd F k (tick (F k) k)) ∧ ClkAt h' v (F k)) F₃ N₅ SG₂ (by simpa using ⟨nL₂ Dc (by simp [fpW]), C.cs.oc, apy.2.2, apd.2.2, C.cs.nx, C.cs.nd⟩) (by simp)
    (fun Q' q => told_spec R' KX T F₃.keep (fr_size F₃) (C₂.cs.sub SH₃) hk fun v h' tk k c v' => q _ _ _ k ⟨c, v'⟩) ?_
  rintro v₃ h₄ tk₄ g₄ F₄ N₆ SG₄ SH₄ KG₄ _ up₄ _ ⟨C₄, hv₄⟩
  have C₄ := WS.clocks C₂ KG₄ (C₄.up (fun b hb => nL₂ b (by unfold fpW; rcases hb with rfl | rfl | rfl <;> simp)) F₄.ns up₄)
  have hv₄ := hv₄.tk (tk_up F₄.ns (by simp) up₄)
  have hcf := hcf.tk (TK.of_keep KG₄)
  have hLn₄ := C₄.lp.la c hc l hlc
  clear F₃ N₅
  dsimp only [List.cons_append, List.nil_append] at N₆
  walk_at "goB"
  have hS4 := hLn₄.2.1
  have hR4 := hLn₄.2.2
  refine step [(l.y, _), (l.dy, _), (x, _), (dx, _)] [l.R] [] (fun v h' => v = .none ∧ CListAt h' l.R (l.recv ++ [F k])) F₄ N₆ SG₄ (by
      simpa using ⟨nL₂ l.R mR, C₂.lp.o _ (hmf l.R (by simp [Ln.fp])), hnd.1.2.2, hnd.2.1.2, Ne.symm apR.1, Ne.symm apR.2.1⟩) (by simp)
    (fun Q' q => clist_append (hR4.tr (SH₄ _) (TK.of_sub SH₄)) (hv₄.tk (TK.of_sub SH₄)) (by rw [hrecv]; omega) fun h' k a => q _ _ _ k ⟨rfl, a⟩) ?_
  rintro v₅ h₅ tk₅ g₅ F₅ N₇ SG₅ SH₅ KG₅ _ up₅ _ ⟨rfl, hR₅⟩
  have hR₅ := hR₅.tr (fun o e => up₅ _ o e (nL₂ l.R mR) (by simp)) (tk_up F₅.ns (by simp) up₅)
  have hLn₅ : LineAt g₅ { l with recv := l.recv ++ [F k] } := by
    obtain ⟨⟨e1, e2, e3, e4, t1, t2, t3, t4, tr, ve, n, a1, a2, a3⟩, b, c⟩ := hLn₄
    exact ⟨⟨e1, e2, e3, e4, t1, t2, t3, t4, tr, ve, n, KG₅.at (by simpa using hnd.1.2.2) a1, KG₅.at (by simpa using hnd.2.1.2) a2, a3.tk (TK.of_keep KG₅)⟩, b.tr (fun o e => KG₅.at (by simpa using hnd.2.2.1) e) (TK.of_keep KG₅), hR₅⟩
  have C₅ := C₄.turn (l' := { l with recv := l.recv ++ [F k] }) hc hlc (S := [l.R]) (by simp [Ln.fp]) KG₅ rfl rfl hLn₅
  have hcf := hcf.tk (TK.of_keep KG₅)
  clear F₄ N₆
  dsimp only [List.cons_append, List.nil_append] at N₇
  walk_at "goB"
  refine learn_spec (R'.le (by omega)) KX T F₅.keep (fr_size F₅) (C₅.cs.sub SH₅) hk (hcf.tk (TK.of_sub SH₅)) fun h₇ tk₇ k₇ C₇ => ?_
  have F₇ := fr_keep F₅ k₇ (by simpa using (nL₂ Dc (by simp [fpW])).symm) (by simpa using C.cs.oc)
  clear F₅ N₇
  have N₉ : News h₀ L h₇ [] := News.nil
  walk_at "goB"
  dsimp only
  rw [upd_same] at C₇
  have KU : Keep (fpW x dx Dc Dl Dg ls') s.heap g₅ := ((KG₂.mono (by simp [fpW, fpL])).trans (KG₄.mono (by simp [fpW]))).trans (KG₅.mono (by simpa using mR))
  have efp : fpW x dx Dc Dl Dg (upd ls' c (some { l with recv := l.recv ++ [F k] })) = fpW x dx Dc Dl Dg ls' := by unfold fpW; rw [fpL_same (l' := { l with recv := l.recv ++ [F k] }) hlc rfl]
  exact hQ _ _ h₇ _ (((KU.trans (Keep.of_sub SH₅)).trans (k₇.mono (by simp [fpW]))).fresh hfr₀) (WS.clocks (C₅.sub SH₅) k₇ C₇) upd_same hsent (by rw [hrecv]) hfe (fun j hj => by rw [upd_ne hj, hlo j hj]) (by rw [efp]; exact hfr₀)
end

section
open PySem PySem.W PyProof.Rows PySem.Calls
set_option maxRecDepth 100000
set_option Elab.async false
set_option maxHeartbeats 4000000
theorem kfill6b : PySem.Challenge.rw_on0015_01 = PySem.Challenge.rw_on0015_01 ∧ hd.heap_1 = hd.heap_1 := by
  k_fill
  exact ⟨rfl, rfl⟩
-- enter a plain def: its names and values
-- walk until a loop, a call or a step without a line
-- what lies on the anchor is apart from what it has not


section
variable {prog : Program} {w : World} {A : Around} {E : Value → Shared → Prop} {s : Shared} {h₀ : Heap} {x dx Dc Dl Dg : Addr} {F : Int → Int → Int} {ls : Int → Option Ln} {G : Int → Int}
theorem getM_get {d : Addr} {kvs : List (Int × Value)} {pl : Sem Bool} {Q : Value × List Value → Shared → Prop} (hD : s.heap.DictOf (intKind prog w) d kvs) (h : Q (.builtin "dict.get", [.ref d]) s) : wpAny (model prog w) A (getMethod (.ref d) "get" pl) Q E s :=
  getMethod_builtin hD.typeIs PySem.F.plainAttrs_dict PySem.F.slot_dict_get PySem.F.type_dict_get hD.mapOf.noDict h
theorem fpL_two {Dl Dg : Addr} {ls : Int → Option Ln} (n : (fpL Dl Dg ls).Nodup) : Dg ≠ Dl ∧ ∀ c, c = 7 ∨ c = 8 → ∀ l, ls c = some l → Dg ∉ l.fp := by
  unfold fpL at n
  rw [List.nodup_cons, List.nodup_cons] at n
  refine ⟨fun e => n.1 (by rw [e]; exact .head _), fun c hc l e q => n.2.1 ?_⟩
  rcases hc with rfl | rfl
  · exact List.mem_append.mpr (.inl (by rw [e]; exact q))
  · exact List.mem_append.mpr (.inr (by rw [e]; exact q))
theorem gate_get {h h' : Heap} {kvs : List (Int × Value)} {D : Addr} {n : Nat} {G : Int → Int} (hG : match valueAt kvs 3 with | some v => ClkAt h v G | none => G = fun _ => 0) (k : Sub h h') (e : h'.get? D = some { cls := .type "tuple", data := .seq #[] n }) : ClkAt h' ((valueAt kvs 3).getD (.ref D)) G := by
  cases q : valueAt kvs 3 with
  | some v => rw [q] at hG; exact hG.tk (TK.of_sub k)
  | none => rw [q] at hG; rw [hG]; exact ⟨[], ⟨_, [], rfl, ⟨n, e⟩, .nil⟩, Srt.nil, fun _ => rfl⟩
/-- self.gates[3] = v -/
theorem set_gate {t : Tok} {v : Value} {f : Int → Int} {Q : Unit → Shared → Prop} (C : WS prog w h₀ s.heap x dx Dc Dl Dg F ls G) (hv : ClkAt s.heap v f)
    (h : ∀ h' tk, Keep [Dg] s.heap h' → WS prog w h₀ h' x dx Dc Dl Dg F ls f → Q () { s with heap := h', toks := tk }) : wpAny (model prog w) A (setItem (.ref Dg) (.int 3 t) v) Q E s := by
  obtain ⟨kvs, hD, hb, hF⟩ := C.lp.gt
  have hlen : kvs.length ≤ 1 := by
    have := nodup_le _ ([3] : List Int) (dict_nodup hD) fun k hk => by
      obtain ⟨p, hp, rfl⟩ := List.mem_map.mp hk
      simp [hb p hp]
    simpa using this
  refine wpAny_setItem_pairs (knd := intKind prog w) (k := 3) (intKind_is _ _ _ _) hD (fun h' hD' hs' => ?_) (by rw [sizeLine_eq]; omega)
  have kp := keep_dict hD hs'
  have tk := TK.of_keep kp
  have ap := C.ap Dg (.tail _ (.head _))
  obtain ⟨n1, n2⟩ := fpL_two C.lp.nd
  refine h _ _ kp ⟨C.cs.tr (fun b hb o e => kp.at (by rcases hb with rfl | rfl | rfl <;> simp [Ne.symm ap.1, Ne.symm ap.2.1, Ne.symm ap.2.2]) e) tk, ⟨C.lp.o, C.lp.ll, C.lp.lg, C.lp.nd, ?_, ?_, _, hD', fun q hq => ?_, ?_⟩, C.ap⟩
  · obtain ⟨k2, hD2, hb2, hv2⟩ := C.lp.ln
    exact ⟨k2, dict_sub hD2 fun o e => kp.at (by simpa using Ne.symm n1) e, hb2, hv2⟩
  · intro c hc l e
    exact (C.lp.la c hc l e).tr (fun b hb o e' => kp.at (by simp only [List.mem_singleton]; rintro rfl; exact n2 c hc l e hb) e') tk
  · rcases mem_stored hq with hq | rfl
    · exact hb q hq
    · rfl
  · rw [valueAt_stored, if_pos rfl]
    exact hv.tk tk
end

theorem enter_spec {prog p w loose mean mg mb} {A : Around} {E : Value → Shared → Prop} {s : Shared} {h₀ : Heap} (R : Room A 3) (KX : (hd.heap_1 w.params).In h₀) (T : Top p loose mean mg mb h₀)
   (S0 : Sub h₀ s.heap) (hz : h₀.objs.size ≤ s.heap.objs.size) {x dx Dc Dl Dg : Addr} {F : Int → Int → Int} {ls : Int → Option Ln} {G : Int → Int} (C : WS prog w h₀ s.heap x dx Dc Dl Dg F ls G) {k : Int} {t u : Tok} (hk : In4 k) {Q : Value → Shared → Prop}
   (hQ : ∀ h' tk, Keep [Dc] s.heap h' → WS prog w h₀ h' x dx Dc Dl Dg (upd F k (join (F k) G)) ls G → Q .none { s with heap := h', toks := tk }) :
   wpAny (model prog w) A (call (.ref 203) [.ref x, .int k t, .int 3 u]) Q E s := by
  k_call_by "enter" [(Str.ofString "self", Value.ref x), (Str.ofString "goroutine", Value.int k t), (Str.ofString "gate", Value.int 3 u)]
  intro L h₁ A' R' hL F₁ N₁ SG
  obtain ⟨e1, e2, e3, e4, e5, t1, t2, t3, t4, t5, Dp, Rl, n, N₂⟩ := wi_news N₁ C.cs.wi
  clear N₁
  have nL : ∀ b ∈ fpW x dx Dc Dl Dg ls, b ≠ L := fun b hb => by
    obtain ⟨o, ho⟩ := C.live b hb
    rw [hL]; exact Nat.ne_of_lt (Heap.lt_size ho)
  obtain ⟨kvs, hD, hb, hG⟩ := C.lp.gt
  walk_at "goB"
  rename Fr _ _ _ _ => F₃
  rename News _ _ _ _ => N₅
  have SH₃ : Sub s.heap _ := sub_of F₃ N₅ (fun p hp => .tail _ (.tail _ hp)) S0
  refine getM_get (dict_sub hD (SH₃ _)) ?_
  walk_at "goB"
  clear SH₃
  rename Fr _ _ _ _ => F₃
  rename News _ _ _ _ => N₅
  have SH₃ : Sub s.heap _ := sub_of F₃ N₅ (fun p hp => .tail _ (.tail _ (.tail _ hp))) S0
  refine dict_get2 (dict_sub hD (SH₃ _)) C.lp.lg ?_
  have hvc := gate_get hG SH₃ (N₅ _ (.head _)).1
  walk_at "goB"
  refine learn_spec R' KX T F₃.keep (fr_size F₃) (C.cs.sub SH₃) hk hvc fun h₃ tk₃ k₃ C₃ => ?_
  have F₄ := fr_keep F₃ k₃ (by simpa using (nL Dc (by simp [fpW])).symm) (by simpa using C.cs.oc)
  clear F₃ N₅
  have N₆ : News h₀ L h₃ [] := News.nil
  walk_at "goB"
  dsimp only
  exact hQ _ _ ((Keep.of_sub SH₃).trans k₃) (WS.clocks (C.sub SH₃) k₃ C₃)

theorem leave_spec {prog p w loose mean mg mb} {A : Around} {E : Value → Shared → Prop} {s : Shared} {h₀ : Heap} (R : Room A 4) (KX : (hd.heap_1 w.params).In h₀) (T : Top p loose mean mg mb h₀)
   (S0 : Sub h₀ s.heap) (hz : h₀.objs.size ≤ s.heap.objs.size) {x dx Dc Dl Dg : Addr} {F : Int → Int → Int} {ls : Int → Option Ln} {G : Int → Int} (C : WS prog w h₀ s.heap x dx Dc Dl Dg F ls G) {k : Int} {t u : Tok} (hk : In4 k) {Q : Value → Shared → Prop}
   (hQ : ∀ h' tk, Keep (fpW x dx Dc Dl Dg ls) s.heap h' → WS prog w h₀ h' x dx Dc Dl Dg (upd F k (tick (F k) k)) ls (join G (F k)) → Q .none { s with heap := h', toks := tk }) :
   wpAny (model prog w) A (call (.ref 196) [.ref x, .int k t, .int 3 u]) Q E s := by
  k_call_by "enter" [(Str.ofString "self", Value.ref x), (Str.ofString "goroutine", Value.int k t), (Str.ofString "gate", Value.int 3 u)]
  intro L h₁ A' R' hL F₁ N₁ SG
  obtain ⟨e1, e2, e3, e4, e5, t1, t2, t3, t4, t5, Dp, Rl, n, N₂⟩ := wi_news N₁ C.cs.wi
  clear N₁
  have nL : ∀ b ∈ fpW x dx Dc Dl Dg ls, b ≠ L := fun b hb => by
    obtain ⟨o, ho⟩ := C.live b hb
    rw [hL]; exact Nat.ne_of_lt (Heap.lt_size ho)
  obtain ⟨kvs, hD, hb, hG⟩ := C.lp.gt
  walk_at "goB"
  rename Fr _ _ _ _ => F₃
  rename News _ _ _ _ => N₅
  have SH₃ : Sub s.heap _ := sub_of F₃ N₅ (fun p hp => .tail _ (.tail _ hp)) S0
  refine getM_get (dict_sub hD (SH₃ _)) ?_
  walk_at "goB"
  clear SH₃
  rename Fr _ _ _ _ => F₃
  rename News _ _ _ _ => N₅
  have SH₃ : Sub s.heap _ := sub_of F₃ N₅ (fun p hp => .tail _ (.tail _ (.tail _ hp))) S0
  refine dict_get2 (dict_sub hD (SH₃ _)) C.lp.lg ?_
  have hvc := gate_get hG SH₃ (N₅ _ (.head _)).1
  walk_at "goB"
  have N₆ := news_tail (news' := [_, _] ++ dump h₀ s.heap) N₅ (fun p hp => .tail _ hp)
  refine step [(x, _), (dx, _)] [Dc] [] (fun v' h' => CS prog w h₀ h' x dx Dc Dl Dg (upd F k (tick (F k) k)) ∧ ClkAt h' v' (F k) ∧ ClkAt h' ((valueAt kvs 3).getD _) G) F₃ N₆ S0 (by simpa using ⟨nL Dc (by simp [fpW]), C.cs.oc, C.cs.nx, C.cs.nd⟩) (by simp)
    (fun Q' q => told_spec R' KX T F₃.keep (fr_size F₃) (C.cs.sub SH₃) hk fun v' h' tk k c v' => q _ _ _ k ⟨c, v', hvc.tk (TK.of_keep k)⟩) ?_
  rintro v₃ h₄ tk₄ g₄ F₄ N₇ SG₄ SH₄ KG₄ _ up₄ _ ⟨C₄, hv₄, hvc₄⟩
  have C₄ := WS.clocks C KG₄ (C₄.up (fun b hb => nL b (by unfold fpW; rcases hb with rfl | rfl | rfl <;> simp)) F₄.ns up₄)
  obtain ⟨c1, hv₄, hs1, hc1⟩ := hv₄.tk (tk_up F₄.ns (by simp) up₄)
  obtain ⟨c2, hvc₄, hs2, hc2⟩ := hvc₄.tk (tk_up F₄.ns (by simp) up₄)
  clear F₃ N₅ N₆
  walk_at "goB"
  refine joined_spec (R'.le (by omega)) KX T F₄.keep (fr_size F₄) (hvc₄.tk (TK.of_sub SH₄)) hs2 (hv₄.tk (TK.of_sub SH₄)) hs1 fun v5 c5 h₅ tk₅ hv5 hs5 hc5 k₅ => ?_
  have F₅ := fr_sub F₄ k₅
  have N₈ := news_sub N₇ k₅
  have SH₅ : Sub g₄ h₅ := fun b o e => k₅ _ _ (SH₄ _ _ e)
  clear F₄ N₇
  walk_at "goB"
  refine set_gate (C₄.sub SH₅) (f := join G (F k)) ⟨c5, hv5, hs5, fun j => by rw [hc5, hc2, hc1]; rfl⟩ fun h₆ tk₆ k₆ C₆ => ?_
  have F₆ := fr_keep F₅ k₆ (by simpa using (nL Dg (by simp [fpW, fpL])).symm) (by simpa using C.lp.o Dg (.tail _ (.head _)))
  clear F₅ N₈
  have N₉ : News h₀ L h₆ [] := News.nil
  walk_at "goB"
  dsimp only
  exact hQ _ _ (((KG₄.mono (by simp [fpW])).trans (Keep.of_sub SH₅)).trans (k₆.mono (by simp [fpW, fpL]))) C₆

theorem rclosed_spec {prog p w loose mean mg mb} {A : Around} {E : Value → Shared → Prop} {s : Shared} {h₀ : Heap} (R : Room A 4) (KX : (hd.heap_1 w.params).In h₀) (T : Top p loose mean mg mb h₀)
   (S0 : Sub h₀ s.heap) (hz : h₀.objs.size ≤ s.heap.objs.size) {x dx Dc Dl Dg : Addr} {F : Int → Int → Int} {ls : Int → Option Ln} {G : Int → Int} (C : WS prog w h₀ s.heap x dx Dc Dl Dg F ls G) {k c room : Int} {t u v : Tok} (hk : In4 k) (hc : c = 7 ∨ c = 8) {Q : Value → Shared → Prop}
   (hQ : ∀ ls' l h' tk, Keep (fpW x dx Dc Dl Dg ls) s.heap h' → WS prog w h₀ h' x dx Dc Dl Dg (upd F k (join (F k) (feOf (ls c)))) ls' G → ls' c = some l → l.sent = sentOf (ls c) → l.recv = recvOf (ls c) → l.fe = feOf (ls c) → (∀ j, j ≠ c → ls' j = ls j) →
      (∀ a ∈ fpW x dx Dc Dl Dg ls', a ∈ fpW x dx Dc Dl Dg ls ∨ s.heap.get? a = none) → Q .none { s with heap := h', toks := tk }) :
   wpAny (model prog w) A (call (.ref 189) [.ref x, .int k t, .int c u, .int room v]) Q E s := by
  k_call_by "enter" [(Str.ofString "self", Value.ref x), (Str.ofString "goroutine", Value.int k t), (Str.ofString "channel", Value.int c u), (Str.ofString "room", Value.int room v)]
  intro L h₁ A' R' hL F₁ N₁ SG
  obtain ⟨e1, e2, e3, e4, e5, t1, t2, t3, t4, t5, Dp, Rl, n, N₂⟩ := wi_news N₁ C.cs.wi
  clear N₁
  have nL : ∀ b ∈ fpW x dx Dc Dl Dg ls, b ≠ L := fun b hb => by
    obtain ⟨o, ho⟩ := C.live b hb
    rw [hL]; exact Nat.ne_of_lt (Heap.lt_size ho)
  have apl := C.ap Dl (.head _)
  walk_at "goB"
  refine step [(x, _), (dx, _)] [Dl] [] (fun v h' => ∃ l ls', v = .ref l.y ∧ WS prog w h₀ h' x dx Dc Dl Dg F ls' G ∧ ls' c = some l ∧ (∀ j, j ≠ c → ls' j = ls j) ∧ (ls c = some l ∨ (ls c = none ∧ l.sent = [] ∧ l.recv = [] ∧ l.fe = fun _ => 0)) ∧
      (∀ a ∈ fpW x dx Dc Dl Dg ls', a ∈ fpW x dx Dc Dl Dg ls ∨ h₁.get? a = none)) F₁ N₂ S0 (by simpa using ⟨nL Dl (by simp [fpW, fpL]), C.lp.o Dl (.head _), Ne.symm apl.1, Ne.symm apl.2.1⟩) (by simp)
    (fun Q' q => line_spec (R'.le (by omega)) KX T F₁.keep (fr_size F₁) (C.sub SG) hc fun l ls' h' tk k a b c d e => q _ _ _ k ⟨l, ls', rfl, a, b, c, d, e⟩) ?_
  rintro v₂ h₂ tk₂ g₂ F₂ N₃ SG₂ SH₂ KG₂ _ up₂ _ ⟨l, ls', rfl, C₂, hlc, hlo, hld, hfr⟩
  have nL₂ : ∀ b ∈ fpW x dx Dc Dl Dg ls', b ≠ L := fun b hb => by
    rcases hfr b hb with h | h
    · exact nL b h
    · obtain ⟨o, _, _, e, _⟩ := F₁.ns
      exact live_ne e h
  have C₂ := C₂.up nL₂ F₂.ns up₂
  have hfr₀ : ∀ a ∈ fpW x dx Dc Dl Dg ls', a ∈ fpW x dx Dc Dl Dg ls ∨ s.heap.get? a = none := fun a ha => (hfr a ha).imp id fun q => by
    cases z : s.heap.get? a with
    | none => rfl
    | some o => have := SG _ _ z; rw [q] at this; cases this
  have hsent : l.sent = sentOf (ls c) := by
    rcases hld with h | ⟨h, b, _⟩
    · rw [h]; rfl
    · rw [h, b]; rfl
  have hrecv : l.recv = recvOf (ls c) := by
    rcases hld with h | ⟨h, _, b, _⟩
    · rw [h]; rfl
    · rw [h, b]; rfl
  have hfe : l.fe = feOf (ls c) := by
    rcases hld with h | ⟨h, _, _, b⟩
    · rw [h]; rfl
    · rw [h, b]; rfl
  clear F₁ N₂
  have hLn := C₂.lp.la c hc l hlc
  have hmf : ∀ a ∈ l.fp, a ∈ fpL Dl Dg ls' := fun a ha => mem_fpL hc hlc ha
  obtain ⟨f1, f2, f3, f4, r1, r2, r3, r4, rr, ve, nn, N₄, hve⟩ := ln_news (cs := [_, _]) N₃ hLn fun b hb => C₂.lp.o b (hmf b hb)
  dsimp only [List.cons_append, List.nil_append] at N₄
  clear N₃
  obtain ⟨ap1, ap2, ap3⟩ := fpL_apart C₂.lp.nd hc hlc
  have hnd := ap2
  simp only [Ln.fp, List.nodup_cons, List.mem_cons, List.not_mem_nil, or_false, not_or] at hnd
  have apy := C₂.ap l.y (hmf _ (by simp [Ln.fp]))
  have apd := C₂.ap l.dy (hmf _ (by simp [Ln.fp]))
  have apS := C₂.ap l.S (hmf _ (by simp [Ln.fp]))
  have apR := C₂.ap l.R (hmf _ (by simp [Ln.fp]))
  have mS : l.S ∈ fpW x dx Dc Dl Dg ls' := by unfold fpW; simp [hmf l.S (by simp [Ln.fp])]
  have mR : l.R ∈ fpW x dx Dc Dl Dg ls' := by unfold fpW; simp [hmf l.R (by simp [Ln.fp])]
  have mY : l.dy ∈ fpW x dx Dc Dl Dg ls' := by unfold fpW; simp [hmf l.dy (by simp [Ln.fp])]
  have hve₂ := hve.tk (TK.of_sub SH₂)
  have C₃ := C₂.cs.sub SH₂
  walk_at "goB"
  refine learn_spec (R'.le (by omega)) KX T F₂.keep (fr_size F₂) C₃ hk hve₂ fun h₇ tk₇ k₇ C₇ => ?_
  have F₇ := fr_keep F₂ k₇ (by simpa using (nL₂ Dc (by simp [fpW])).symm) (by simpa using C.cs.oc)
  clear F₂ N₄
  have N₉ : News h₀ L h₇ [] := News.nil
  walk_at "goB"
  dsimp only
  rw [hfe] at C₇
  exact hQ ls' l h₇ _ ((((KG₂.mono (by simp [fpW, fpL])).trans (Keep.of_sub SH₂)).trans (k₇.mono (by simp [fpW]))).fresh hfr₀) (WS.clocks (C₂.sub SH₂) k₇ C₇) hlc hsent hrecv hfe hlo hfr₀
end

section
open PySem PySem.W PyProof.Rows PySem.Calls
set_option maxRecDepth 100000
set_option Elab.async false
set_option maxHeartbeats 4000000
theorem kfill6c : PySem.Challenge.rw_on0015_01 = PySem.Challenge.rw_on0015_01 ∧ hd.heap_1 = hd.heap_1 := by
  k_fill
  exact ⟨rfl, rfl⟩
-- enter a plain def: its names and values
-- walk until a loop, a call or a step without a line
-- what lies on the anchor is apart from what it has not

/-- what one known to the other: hand over -/
def handF (F : Int → Int → Int) (k j : Int) : Int → Int → Int :=
  let F1 := upd F k (tick (F k) k)
  let F2 := upd F1 j (tick (F1 j) j)
  let F3 := upd F2 k (join (F2 k) (F1 j))
  upd F3 j (join (F3 j) (F k))
theorem hand_spec {prog p w loose mean mg mb} {A : Around} {E : Value → Shared → Prop} {s : Shared} {h₀ : Heap} (R : Room A 5) (KX : (hd.heap_1 w.params).In h₀) (T : Top p loose mean mg mb h₀)
   (S0 : Sub h₀ s.heap) (hz : h₀.objs.size ≤ s.heap.objs.size) {x dx Dc Dl Dg : Addr} {F : Int → Int → Int} {ls : Int → Option Ln} {G : Int → Int} (C : WS prog w h₀ s.heap x dx Dc Dl Dg F ls G) {k j c : Int} {t t' u : Tok} (hk : In4 k) (hj : In4 j) (hc : c = 7 ∨ c = 8)
   (hz1 : (sentOf (ls c)).length ≤ 100) (hz2 : (recvOf (ls c)).length ≤ 100) {Q : Value → Shared → Prop}
   (hQ : ∀ ls' l h' tk, Keep (fpW x dx Dc Dl Dg ls) s.heap h' → WS prog w h₀ h' x dx Dc Dl Dg (handF F k j) ls' G → ls' c = some l → l.sent = sentOf (ls c) ++ [F k] → l.recv = recvOf (ls c) ++ [upd F k (tick (F k) k) j] → l.fe = feOf (ls c) → (∀ j, j ≠ c → ls' j = ls j) →
      (∀ a ∈ fpW x dx Dc Dl Dg ls', a ∈ fpW x dx Dc Dl Dg ls ∨ s.heap.get? a = none) → Q .none { s with heap := h', toks := tk }) :
   wpAny (model prog w) A (call (.ref 175) [.ref x, .int k t, .int j t', .int c u]) Q E s := by
  k_call_by "enter" [(Str.ofString "self", Value.ref x), (Str.ofString "sender", Value.int k t), (Str.ofString "receiver", Value.int j t'), (Str.ofString "channel", Value.int c u)]
  intro L h₁ A' R' hL F₁ N₁ SG
  obtain ⟨e1, e2, e3, e4, e5, t1, t2, t3, t4, t5, Dp, Rl, n, N₂⟩ := wi_news N₁ C.cs.wi
  clear N₁
  have nL : ∀ b ∈ fpW x dx Dc Dl Dg ls, b ≠ L := fun b hb => by
    obtain ⟨o, ho⟩ := C.live b hb
    rw [hL]; exact Nat.ne_of_lt (Heap.lt_size ho)
  have apl := C.ap Dl (.head _)
  walk_at "goB"
  refine step [(x, _), (dx, _)] [Dl] [] (fun v h' => ∃ l ls', v = .ref l.y ∧ WS prog w h₀ h' x dx Dc Dl Dg F ls' G ∧ ls' c = some l ∧ (∀ j, j ≠ c → ls' j = ls j) ∧ (ls c = some l ∨ (ls c = none ∧ l.sent = [] ∧ l.recv = [] ∧ l.fe = fun _ => 0)) ∧
      (∀ a ∈ fpW x dx Dc Dl Dg ls', a ∈ fpW x dx Dc Dl Dg ls ∨ h₁.get? a = none)) F₁ N₂ S0 (by simpa using ⟨nL Dl (by simp [fpW, fpL]), C.lp.o Dl (.head _), Ne.symm apl.1, Ne.symm apl.2.1⟩) (by simp)
    (fun Q' q => line_spec (R'.le (by omega)) KX T F₁.keep (fr_size F₁) (C.sub SG) hc fun l ls' h' tk k a b c d e => q _ _ _ k ⟨l, ls', rfl, a, b, c, d, e⟩) ?_
  rintro v₂ h₂ tk₂ g₂ F₂ N₃ SG₂ SH₂ KG₂ _ up₂ _ ⟨l, ls', rfl, C₂, hlc, hlo, hld, hfr⟩
  have nL₂ : ∀ b ∈ fpW x dx Dc Dl Dg ls', b ≠ L := fun b hb => by
    rcases hfr b hb with h | h
    · exact nL b h
    · obtain ⟨o, _, _, e, _⟩ := F₁.ns
      exact live_ne e h
  have C₂ := C₂.up nL₂ F₂.ns up₂
  have hfr₀ : ∀ a ∈ fpW x dx Dc Dl Dg ls', a ∈ fpW x dx Dc Dl Dg ls ∨ s.heap.get? a = none := fun a ha => (hfr a ha).imp id fun q => by
    cases z : s.heap.get? a with
    | none => rfl
    | some o => have := SG _ _ z; rw [q] at this; cases this
  have hsent : l.sent = sentOf (ls c) := by
    rcases hld with h | ⟨h, b, _⟩
    · rw [h]; rfl
    · rw [h, b]; rfl
  have hrecv : l.recv = recvOf (ls c) := by
    rcases hld with h | ⟨h, _, b, _⟩
    · rw [h]; rfl
    · rw [h, b]; rfl
  have hfe : l.fe = feOf (ls c) := by
    rcases hld with h | ⟨h, _, _, b⟩
    · rw [h]; rfl
    · rw [h, b]; rfl
  clear F₁ N₂
  have hLn := C₂.lp.la c hc l hlc
  have hmf : ∀ a ∈ l.fp, a ∈ fpL Dl Dg ls' := fun a ha => mem_fpL hc hlc ha
  obtain ⟨f1, f2, f3, f4, r1, r2, r3, r4, rr, ve, nn, N₄, hve⟩ := ln_news (cs := [_, _]) N₃ hLn fun b hb => C₂.lp.o b (hmf b hb)
  dsimp only [List.cons_append, List.nil_append] at N₄
  clear N₃
  obtain ⟨ap1, ap2, ap3⟩ := fpL_apart C₂.lp.nd hc hlc
  have hnd := ap2
  simp only [Ln.fp, List.nodup_cons, List.mem_cons, List.not_mem_nil, or_false, not_or] at hnd
  have apy := C₂.ap l.y (hmf _ (by simp [Ln.fp]))
  have apd := C₂.ap l.dy (hmf _ (by simp [Ln.fp]))
  have apS := C₂.ap l.S (hmf _ (by simp [Ln.fp]))
  have apR := C₂.ap l.R (hmf _ (by simp [Ln.fp]))
  have mS : l.S ∈ fpW x dx Dc Dl Dg ls' := by unfold fpW; simp [hmf l.S (by simp [Ln.fp])]
  have mR : l.R ∈ fpW x dx Dc Dl Dg ls' := by unfold fpW; simp [hmf l.R (by simp [Ln.fp])]
  have mY : l.dy ∈ fpW x dx Dc Dl Dg ls' := by unfold fpW; simp [hmf l.dy (by simp [Ln.fp])]
  walk_at "goB"
  rename Fr _ _ _ _ => F₃
  rename News _ _ _ _ => N₅
  have SH₃ : Sub g₂ _ := sub_of F₃ N₅ (fun p hp => .tail _ (.tail _ (.tail _ (.tail _ hp)))) SG₂
  refine step [(l.y, _), (l.dy, _), (x, _), (dx, _)] [Dc] [] (fun v h' => CS prog w h₀ h' x dx Dc Dl Dg (upd F k (tick (F k) k)) ∧ ClkAt h' v (F k)) F₃ N₅ SG₂ (by simpa using ⟨nL₂ Dc (by simp [fpW]), C.cs.oc, apy.2.2, apd.2.2, C.cs.nx, C.cs.nd⟩) (by simp)
    (fun Q' q => told_spec (R'.le (by omega)) KX T F₃.keep (fr_size F₃) (C₂.cs.sub SH₃) hk fun v h' tk k c v' => q _ _ _ k ⟨c, v'⟩) ?_
  rintro v₃ h₄ tk₄ g₄ F₄ N₆ SG₄ SH₄ KG₄ _ up₄ _ ⟨C₄, hv₄⟩
  have C₄ := WS.clocks C₂ KG₄ (C₄.up (fun b hb => nL₂ b (by unfold fpW; rcases hb with rfl | rfl | rfl <;> simp)) F₄.ns up₄)
  have hv₄ := hv₄.tk (tk_up F₄.ns (by simp) up₄)
  obtain ⟨av, rfl⟩ : ∃ av, v₃ = .ref av := let ⟨_, ⟨a, _, e, _⟩, _⟩ := hv₄; ⟨a, e⟩
  clear F₃ N₅
  dsimp only [List.cons_append, List.nil_append] at N₆
  walk_at "goB"
  refine step [(l.y, _), (l.dy, _), (x, _), (dx, _)] [Dc] [] (fun v h' => CS prog w h₀ h' x dx Dc Dl Dg (upd (upd F k (tick (F k) k)) j (tick (upd F k (tick (F k) k) j) j)) ∧ ClkAt h' v (upd F k (tick (F k) k) j)) F₄ N₆ SG₄ (by simpa using ⟨nL₂ Dc (by simp [fpW]), C.cs.oc, apy.2.2, apd.2.2, C.cs.nx, C.cs.nd⟩) (by simp)
    (fun Q' q => told_spec (R'.le (by omega)) KX T F₄.keep (fr_size F₄) (C₄.cs.sub SH₄) hj fun v h' tk k c v' => q _ _ _ k ⟨c, v'⟩) ?_
  rintro v₅ h₅ tk₅ g₅ F₅ N₇ SG₅ SH₅ KG₅ _ up₅ _ ⟨C₅, hv₅⟩
  have C₅ := WS.clocks C₄ KG₅ (C₅.up (fun b hb => nL₂ b (by unfold fpW; rcases hb with rfl | rfl | rfl <;> simp)) F₅.ns up₅)
  have hv₅ := hv₅.tk (tk_up F₅.ns (by simp) up₅)
  have hv₄ := hv₄.tk (TK.of_keep KG₅)
  obtain ⟨bv, rfl⟩ : ∃ av, v₅ = .ref av := let ⟨_, ⟨a, _, e, _⟩, _⟩ := hv₅; ⟨a, e⟩
  clear F₄ N₆
  dsimp only [List.cons_append, List.nil_append] at N₇
  walk_at "goB"
  rename Fr _ _ _ _ => F₆
  rename News _ _ _ _ => N₈
  refine unpackItemsN_ F₆ N₈ (News.isTup N₈ (.head _)) R'.hand rfl ?_
  intro h₇ F₇ N₉
  clear F₆ N₈
  walk_at "goB"
  rename Fr _ _ _ _ => F₈
  rename News _ _ _ _ => N₁
  have SH₈ : Sub g₅ _ := sub_of F₈ N₁ (fun p hp => .tail _ (.tail _ (.tail _ (.tail _ (.tail _ hp))))) SG₅
  have hLn₅ := C₅.lp.la c hc l hlc
  obtain ⟨vsS, hpS, hcS⟩ := id hLn₅.2.1
  refine getM_append (hpS.at (SH₈ _)) ?_
  walk_at "goB"
  have N₂ := news_tail (news' := [_, _, _, _] ++ dump h₀ g₅) N₁ (fun p hp => .tail _ hp)
  refine step [(l.y, _), (l.dy, _), (x, _), (dx, _)] [l.S] [] (fun v h' => v = .none ∧ CListAt h' l.S (l.sent ++ [F k])) F₈ N₂ SG₅ (by
      simpa using ⟨nL₂ l.S mS, C₂.lp.o _ (hmf l.S (by simp [Ln.fp])), hnd.1.2.1, hnd.2.1.1, Ne.symm apS.1, Ne.symm apS.2.1⟩) (by simp)
    (fun Q' q => clist_append (hLn₅.2.1.tr (SH₈ _) (TK.of_sub SH₈)) (hv₄.tk (TK.of_sub SH₈)) (by rw [hsent]; omega) fun h' k a => q _ _ _ k ⟨rfl, a⟩) ?_
  rintro v₆ h₆ tk₆ g₆ F₆ N₈ SG₆ SH₆ KG₆ _ up₆ _ ⟨rfl, hS₆⟩
  have hS₆ := hS₆.tr (fun o e => up₆ _ o e (nL₂ l.S mS) (by simp)) (tk_up F₆.ns (by simp) up₆)
  have hLn₆ : LineAt g₆ { l with sent := l.sent ++ [F k] } := by
    obtain ⟨⟨e1, e2, e3, e4, t1, t2, t3, t4, tr, ve, n, a1, a2, a3⟩, b, c⟩ := hLn₅
    exact ⟨⟨e1, e2, e3, e4, t1, t2, t3, t4, tr, ve, n, KG₆.at (by simpa using hnd.1.2.1) a1, KG₆.at (by simpa using hnd.2.1.1) a2, a3.tk (TK.of_keep KG₆)⟩, hS₆, c.tr (fun o e => KG₆.at (by simpa using Ne.symm hnd.2.2.1) e) (TK.of_keep KG₆)⟩
  have C₆ := C₅.turn (l' := { l with sent := l.sent ++ [F k] }) hc hlc (S := [l.S]) (by simp [Ln.fp]) KG₆ rfl rfl hLn₆
  have hv₄ := hv₄.tk (TK.of_keep KG₆)
  have hv₅ := hv₅.tk (TK.of_keep KG₆)
  clear F₈ N₁ N₂ SH₈
  dsimp only [List.cons_append, List.nil_append] at N₈
  walk_at "goB"
  have hR₆ := (C₆.lp.la c hc _ upd_same).2.2
  obtain ⟨vsR, hpR, hcR⟩ := id hR₆
  refine getM_append (hpR.at (SH₆ _)) ?_
  walk_at "goB"
  refine step [(l.y, _), (l.dy, _), (x, _), (dx, _)] [l.R] [] (fun v h' => v = .none ∧ CListAt h' l.R (l.recv ++ [upd F k (tick (F k) k) j])) F₆ N₈ SG₆ (by
      simpa using ⟨nL₂ l.R mR, C₂.lp.o _ (hmf l.R (by simp [Ln.fp])), hnd.1.2.2, hnd.2.1.2, Ne.symm apR.1, Ne.symm apR.2.1⟩) (by simp)
    (fun Q' q => clist_append (hR₆.tr (SH₆ _) (TK.of_sub SH₆)) (hv₅.tk (TK.of_sub SH₆)) (by show l.recv.length ≤ _; rw [hrecv]; omega) fun h' k a => q _ _ _ k ⟨rfl, a⟩) ?_
  rintro v₈ h₈ tk₈ g₈ F₈ N₁ SG₈ SH₈ KG₈ _ up₈ _ ⟨rfl, hR₈⟩
  have hR₈ := hR₈.tr (fun o e => up₈ _ o e (nL₂ l.R mR) (by simp)) (tk_up F₈.ns (by simp) up₈)
  have hLn₈ : LineAt g₈ { l with sent := l.sent ++ [F k], recv := l.recv ++ [upd F k (tick (F k) k) j] } := by
    obtain ⟨⟨e1, e2, e3, e4, t1, t2, t3, t4, tr, ve, n, a1, a2, a3⟩, b, c⟩ := hLn₆
    exact ⟨⟨e1, e2, e3, e4, t1, t2, t3, t4, tr, ve, n, KG₈.at (by simpa using hnd.1.2.2) a1, KG₈.at (by simpa using hnd.2.1.2) a2, a3.tk (TK.of_keep KG₈)⟩, b.tr (fun o e => KG₈.at (by simpa using hnd.2.2.1) e) (TK.of_keep KG₈), hR₈⟩
  have C₈ := C₆.turn (l' := { l with sent := l.sent ++ [F k], recv := l.recv ++ [upd F k (tick (F k) k) j] }) hc upd_same (S := [l.R]) (by simp [Ln.fp]) KG₈ rfl rfl hLn₈
  have hv₄ := hv₄.tk (TK.of_keep KG₈)
  have hv₅ := hv₅.tk (TK.of_keep KG₈)
  clear F₆ N₈
  dsimp only [List.cons_append, List.nil_append] at N₁
  walk_at "goB"
  refine step [(l.y, _), (l.dy, _), (x, _), (dx, _)] [Dc] [] (fun v h' => v = .none ∧ CS prog w h₀ h' x dx Dc Dl Dg (upd (upd (upd F k (tick (F k) k)) j (tick (upd F k (tick (F k) k) j) j)) k (join (upd (upd F k (tick (F k) k)) j (tick (upd F k (tick (F k) k) j) j) k) (upd F k (tick (F k) k) j)))) F₈ N₁ SG₈ (by simpa using ⟨nL₂ Dc (by simp [fpW]), C.cs.oc, apy.2.2, apd.2.2, C.cs.nx, C.cs.nd⟩) (by simp)
    (fun Q' q => learn_spec (R'.le (by omega)) KX T F₈.keep (fr_size F₈) (C₈.cs.sub SH₈) hk (hv₅.tk (TK.of_sub SH₈)) fun h' tk k c => q _ _ _ k ⟨rfl, c⟩) ?_
  rintro v₉ h₉ tk₉ g₉ F₉ N₂ SG₉ SH₉ KG₉ _ up₉ _ ⟨rfl, C₉⟩
  have C₉ := WS.clocks C₈ KG₉ (C₉.up (fun b hb => nL₂ b (by unfold fpW; rcases hb with rfl | rfl | rfl <;> simp)) F₉.ns up₉)
  have hv₄ := hv₄.tk (TK.of_keep KG₉)
  clear F₈ N₁
  dsimp only [List.cons_append, List.nil_append] at N₂
  walk_at "goB"
  refine learn_spec (R'.le (by omega)) KX T F₉.keep (fr_size F₉) (C₉.cs.sub SH₉) hj (hv₄.tk (TK.of_sub SH₉)) fun hh tkh kh Ch => ?_
  have Fh := fr_keep F₉ kh (by simpa using (nL₂ Dc (by simp [fpW])).symm) (by simpa using C.cs.oc)
  clear F₉ N₂
  have Nh : News h₀ L hh [] := News.nil
  walk_at "goB"
  dsimp only
  have KU : Keep (fpW x dx Dc Dl Dg ls') s.heap hh := ((((((KG₂.mono (by simp [fpW, fpL])).trans (KG₄.mono (by simp [fpW]))).trans (KG₅.mono (by simp [fpW]))).trans (KG₆.mono (by simpa using mS))).trans (KG₈.mono (by simpa using mR))).trans ((KG₉.mono (by simp [fpW])).trans (Keep.of_sub SH₉))).trans (kh.mono (by simp [fpW]))
  have efp : fpW x dx Dc Dl Dg (upd (upd ls' c (some { l with sent := l.sent ++ [F k] })) c (some { l with sent := l.sent ++ [F k], recv := l.recv ++ [upd F k (tick (F k) k) j] })) = fpW x dx Dc Dl Dg ls' := by
    unfold fpW
    rw [fpL_same (l := { l with sent := l.sent ++ [F k] }) (l' := { l with sent := l.sent ++ [F k], recv := l.recv ++ [upd F k (tick (F k) k) j] }) upd_same rfl, fpL_same (l' := { l with sent := l.sent ++ [F k] }) hlc rfl]
  exact hQ _ _ hh _ (KU.fresh hfr₀) (WS.clocks (C₉.sub SH₉) kh Ch) upd_same (by rw [hsent]) (by rw [hrecv]) hfe (fun i hi => by rw [upd_ne hi, upd_ne hi, hlo i hi]) (by rw [efp]; exact hfr₀)
end

section
open PySem PySem.W PyProof.Rows PySem.Calls
set_option maxRecDepth 100000
set_option Elab.async false
set_option maxHeartbeats 4000000
theorem kfill6d : PySem.Challenge.rw_on0015_01 = PySem.Challenge.rw_on0015_01 ∧ hd.heap_1 = hd.heap_1 := by
  k_fill
  exact ⟨rfl, rfl⟩
-- enter a plain def: its names and values
-- walk until a loop, a call or a step without a line
-- what lies on the anchor is apart from what it has not

theorem close_spec {prog p w loose mean mg mb} {A : Around} {E : Value → Shared → Prop} {s : Shared} {h₀ : Heap} (R : Room A 4) (KX : (hd.heap_1 w.params).In h₀) (T : Top p loose mean mg mb h₀)
   (S0 : Sub h₀ s.heap) (hz : h₀.objs.size ≤ s.heap.objs.size) {x dx Dc Dl Dg : Addr} {F : Int → Int → Int} {ls : Int → Option Ln} {G : Int → Int} (C : WS prog w h₀ s.heap x dx Dc Dl Dg F ls G) {k c room : Int} {t u v : Tok} (hk : In4 k) (hc : c = 7 ∨ c = 8) {Q : Value → Shared → Prop}
   (hQ : ∀ ls' l h' tk, Keep (fpW x dx Dc Dl Dg ls) s.heap h' → WS prog w h₀ h' x dx Dc Dl Dg (upd F k (tick (F k) k)) ls' G → ls' c = some l → l.sent = sentOf (ls c) → l.recv = recvOf (ls c) → l.fe = F k → (∀ j, j ≠ c → ls' j = ls j) →
      (∀ a ∈ fpW x dx Dc Dl Dg ls', a ∈ fpW x dx Dc Dl Dg ls ∨ s.heap.get? a = none) → Q .none { s with heap := h', toks := tk }) :
   wpAny (model prog w) A (call (.ref 182) [.ref x, .int k t, .int c u, .int room v]) Q E s := by
  k_call_by "enter" [(Str.ofString "self", Value.ref x), (Str.ofString "goroutine", Value.int k t), (Str.ofString "channel", Value.int c u), (Str.ofString "room", Value.int room v)]
  intro L h₁ A' R' hL F₁ N₁ SG
  obtain ⟨e1, e2, e3, e4, e5, t1, t2, t3, t4, t5, Dp, Rl, n, N₂⟩ := wi_news N₁ C.cs.wi
  clear N₁
  have nL : ∀ b ∈ fpW x dx Dc Dl Dg ls, b ≠ L := fun b hb => by
    obtain ⟨o, ho⟩ := C.live b hb
    rw [hL]; exact Nat.ne_of_lt (Heap.lt_size ho)
  walk_at "goB"
  refine step [(x, _), (dx, _)] [Dc] [] (fun v h' => CS prog w h₀ h' x dx Dc Dl Dg (upd F k (tick (F k) k)) ∧ ClkAt h' v (F k)) F₁ N₂ S0 (by simpa using ⟨nL Dc (by simp [fpW]), C.cs.oc, C.cs.nx, C.cs.nd⟩) (by simp)
    (fun Q' q => told_spec (R'.le (by omega)) KX T F₁.keep (fr_size F₁) (C.cs.sub SG) hk fun v h' tk k c v' => q _ _ _ k ⟨c, v'⟩) ?_
  rintro v₀ hh₀ tk₀ g₀ F₀ N₀ SG₀ SH₀ KG₀ KS₀ up₀ _ ⟨C₀, hv₀⟩
  have C₀ := WS.clocks C KG₀ (C₀.up (fun b hb => nL b (by unfold fpW; rcases hb with rfl | rfl | rfl <;> simp)) F₀.ns up₀)
  have hv₀ := hv₀.tk (tk_up F₀.ns (by simp) up₀)
  clear F₁ N₂
  dsimp only [List.cons_append, List.nil_append] at N₀
  have apl := C.ap Dl (.head _)
  walk_at "goB"
  refine step [(x, _), (dx, _)] [Dl] [] (fun v h' => ∃ l ls', v = .ref l.y ∧ WS prog w h₀ h' x dx Dc Dl Dg (upd F k (tick (F k) k)) ls' G ∧ ls' c = some l ∧ (∀ j, j ≠ c → ls' j = ls j) ∧ (ls c = some l ∨ (ls c = none ∧ l.sent = [] ∧ l.recv = [] ∧ l.fe = fun _ => 0)) ∧
      (∀ a ∈ fpW x dx Dc Dl Dg ls', a ∈ fpW x dx Dc Dl Dg ls ∨ hh₀.get? a = none)) F₀ N₀ SG₀ (by simpa using ⟨nL Dl (by simp [fpW, fpL]), C.lp.o Dl (.head _), Ne.symm apl.1, Ne.symm apl.2.1⟩) (by simp)
    (fun Q' q => line_spec R' KX T F₀.keep (fr_size F₀) (C₀.sub SH₀) hc fun l ls' h' tk k a b c d e => q _ _ _ k ⟨l, ls', rfl, a, b, c, d, e⟩) ?_
  rintro v₂ h₂ tk₂ g₂ F₂ N₃ SG₂ SH₂ KG₂ _ up₂ _ ⟨l, ls', rfl, C₂, hlc, hlo, hld, hfr⟩
  have nL₂ : ∀ b ∈ fpW x dx Dc Dl Dg ls', b ≠ L := fun b hb => by
    rcases hfr b hb with h | h
    · exact nL b h
    · obtain ⟨o, _, _, e, _⟩ := F₀.ns
      exact live_ne e h
  have C₂ := C₂.up nL₂ F₂.ns up₂
  have hfr₀ : ∀ a ∈ fpW x dx Dc Dl Dg ls', a ∈ fpW x dx Dc Dl Dg ls ∨ s.heap.get? a = none := fun a ha => by
    rcases hfr a ha with q | q
    · exact .inl q
    · cases z : s.heap.get? a with
      | none => exact .inr rfl
      | some o =>
        by_cases e : a = Dc
        · exact .inl (by rw [e]; simp [fpW])
        · have := KS₀.at (by simpa using e) (SG _ _ z)
          rw [q] at this; cases this
  have hsent : l.sent = sentOf (ls c) := by
    rcases hld with h | ⟨h, b, _⟩
    · rw [h]; rfl
    · rw [h, b]; rfl
  have hrecv : l.recv = recvOf (ls c) := by
    rcases hld with h | ⟨h, _, b, _⟩
    · rw [h]; rfl
    · rw [h, b]; rfl
  have hv₂ := hv₀.tk (TK.of_keep KG₂)
  clear F₀ N₀
  have hLn := C₂.lp.la c hc l hlc
  have hmf : ∀ a ∈ l.fp, a ∈ fpL Dl Dg ls' := fun a ha => mem_fpL hc hlc ha
  have oy := C₂.lp.o l.y (hmf _ (by simp [Ln.fp]))
  have od := C₂.lp.o l.dy (hmf _ (by simp [Ln.fp]))
  obtain ⟨ap1, ap2, ap3⟩ := fpL_apart C₂.lp.nd hc hlc
  have hnd := ap2
  simp only [Ln.fp, List.nodup_cons, List.mem_cons, List.not_mem_nil, or_false, not_or] at hnd
  have mY : l.dy ∈ fpW x dx Dc Dl Dg ls' := by unfold fpW; simp [hmf l.dy (by simp [Ln.fp])]
  obtain ⟨f1, f2, f3, f4, r1, r2, r3, r4, rr, ve, nn, a1, a2, a3⟩ := id hLn.1
  obtain ⟨av, rfl⟩ : ∃ av, v₀ = .ref av := let ⟨_, ⟨a, _, e, _⟩, _⟩ := hv₂; ⟨a, e⟩
  -- the anchor without the line's dict
  have SB : Sub (hideAll g₂ [l.dy]) g₂ := fun b o e => of_hideAll _ e
  have hB : (hideAll g₂ [l.dy]).get? l.dy = none := hideAll_none _ (.head _)
  have SB0 : Sub h₀ (hideAll g₂ [l.dy]) := fun b o e => hideAll_get _ (SG₂ b o e) (by simp only [List.mem_singleton]; rintro rfl; rw [od] at e; cases e)
  have N₄ : News h₀ L h₂ ((l.y, instObj 80 l.dy) :: (l.dy, dictOf [⟨f1, .str (Str.ofString "room") r1, .int l.room rr⟩, ⟨f2, .str (Str.ofString "sent") r2, .ref l.S⟩, ⟨f3, .str (Str.ofString "received") r3, .ref l.R⟩, ⟨f4, .str (Str.ofString "end") r4, ve⟩] nn) :: dump h₀ (hideAll g₂ [l.dy])) := fun q hq => by
    rcases List.mem_cons.mp hq with rfl | hq
    · exact N₃ _ (.tail _ (.tail _ (mem_dump.mpr ⟨a1, oy⟩)))
    · rcases List.mem_cons.mp hq with rfl | hq
      · exact N₃ _ (.tail _ (.tail _ (mem_dump.mpr ⟨a2, od⟩)))
      · obtain ⟨b, o⟩ := q
        obtain ⟨e1, e2⟩ := mem_dump.mp hq
        exact N₃ _ (.tail _ (.tail _ (mem_dump.mpr ⟨SB _ _ e1, e2⟩)))
  have hyd : @Ne Nat l.y l.dy := hnd.1.1
  clear N₃
  walk_at "goB"
  rename Fr _ _ _ _ => F₃
  rename News _ _ _ _ => N₅
  refine set_dict (es' := [⟨f1, .str (Str.ofString "room") r1, .int l.room rr⟩, ⟨f2, .str (Str.ofString "sent") r2, .ref l.S⟩, ⟨f3, .str (Str.ofString "received") r3, .ref l.R⟩, ⟨f4, .str (Str.ofString "end") r4, .ref av⟩]) (n' := nn) F₃ KX N₅ (InstAt.of_news N₅ (.head _) (.tail _ (.head _))) rfl
    (by k_dflt k_is) (by k_dflt k_is) (by k_dflt k_is) (by k_dflt k_is) (by with_unfolding_all rfl) (by with_unfolding_all rfl) (Upd.tail hyd (Upd.head (dump_off hB))) (Nat.le_of_ble_eq_true rfl) ?_
  intro h₃ F₄ N₆
  clear F₃ N₅
  have SB3 : Sub (hideAll g₂ [l.dy]) h₃ := sub_of F₄ N₆ (fun p hp => .tail _ (.tail _ hp)) SB0
  have kk : Keep [l.dy] g₂ h₃ := fun b o e q => SB3 _ _ (hideAll_get _ e (by
    rcases q with q | q
    · exact q
    · simp only [List.mem_singleton]; rintro rfl
      rw [a2] at e; cases e
      exact absurd (show Value.type "dict" = .type "tuple" from q.1) (by decide)))
  have hLn₃ : LineAt h₃ { l with fe := F k } :=
    ⟨⟨f1, f2, f3, f4, r1, r2, r3, r4, rr, _, nn, kk.at (by simpa using hyd) a1, (N₆ _ (.tail _ (.head _))).1, hv₂.tk (TK.of_keep kk)⟩, hLn.2.1.tr (fun o e => kk.at (by simpa using Ne.symm hnd.2.1.1) e) (TK.of_keep kk), hLn.2.2.tr (fun o e => kk.at (by simpa using Ne.symm hnd.2.1.2) e) (TK.of_keep kk)⟩
  have C₃ := C₂.turn (l' := { l with fe := F k }) hc hlc (S := [l.dy]) (by simp [Ln.fp]) kk rfl rfl hLn₃
  have efp : fpW x dx Dc Dl Dg (upd ls' c (some { l with fe := F k })) = fpW x dx Dc Dl Dg ls' := by unfold fpW; rw [fpL_same (l' := { l with fe := F k }) hlc rfl]
  walk_at "goB"
  dsimp only
  exact hQ _ _ h₃ _ ((((KG₀.mono (by simp [fpW])).trans (KG₂.mono (by simp [fpW, fpL]))).trans (kk.mono (by simpa using mY))).fresh hfr₀) C₃ upd_same hsent hrecv rfl (fun j hj => by rw [upd_ne hj, hlo j hj]) (by rw [efp]; exact hfr₀)
end

section
open PySem PySem.W PyProof.Rows PySem.Calls
set_option maxRecDepth 100000
set_option Elab.async false
set_option maxHeartbeats 4000000
theorem kfill6e : PySem.Challenge.rw_on0015_01 = PySem.Challenge.rw_on0015_01 ∧ hd.heap_1 = hd.heap_1 := by
  k_fill
  exact ⟨rfl, rfl⟩
-- enter a plain def: its names and values
-- walk until a loop, a call or a step without a line
-- what lies on the anchor is apart from what it has not


theorem lt5 {a b c d e n : Nat} (h0 : n ≤ a) (h1 : a < b) (h2 : b < c) (h3 : c < d) (h4 : d < e) : (∀ x ∈ [b, a, c, d, e], n ≤ x) ∧ [b, a, c, d, e].Nodup := by
  constructor
  · intro x hx
    simp only [List.mem_cons, List.not_mem_nil, or_false] at hx
    omega
  · simp only [List.nodup_cons, List.mem_cons, List.not_mem_nil, or_false, not_or, not_false_eq_true, List.nodup_nil, and_true]
    omega
theorem dict_nil {prog : Program} {w : World} {h : Heap} {a : Addr} (e : h.get? a = some (dictOf [] 0)) : h.DictOf (intKind prog w) a [] :=
  ⟨_, #[], 0, e, ⟨rfl, rfl, rfl⟩, rfl, fun _ he => by simp at he, Pairs.nil, List.nodup_nil⟩

theorem watch_new {prog p w loose mean mg mb} {A : Around} {E : Value → Shared → Prop} {s : Shared} {h₀ : Heap} (R : Room A 2) (KX : (hd.heap_1 w.params).In h₀) (T : Top p loose mean mg mb h₀)
   (S0 : Sub h₀ s.heap) (hz : h₀.objs.size ≤ s.heap.objs.size) {Q : Value → Shared → Prop}
   (hQ : ∀ x dx Dc Dl Dg h' tk, Sub s.heap h' → WS prog w h₀ h' x dx Dc Dl Dg one (fun _ => none) (fun _ => 0) → (∀ a ∈ fpW x dx Dc Dl Dg (fun _ => none), s.heap.get? a = none) → Q (.ref x) { s with heap := h', toks := tk }) :
   wpAny (model prog w) A (call (.ref 234) []) Q E s := by
  refine new_inst (fI := 119) KX S0 (by k_dflt k_is) (by k_dflt k_is) (by k_dflt k_is) fun y dy h₁ zdy hyd ey edy k₁ hz₁ => ?_
  have ndy := none_of_size zdy
  have ny := none_of_size (Nat.le_trans zdy (Nat.le_of_lt hyd))
  have R₁ : Room (A.under (.builtin "type.__call__" ⟨.ref 234 :: [], []⟩)) 1 := R.make
  generalize A.under (.builtin "type.__call__" ⟨.ref 234 :: [], []⟩) = A₁ at R₁ ⊢
  have S₁ : Sub h₀ ({ s with heap := h₁ } : Shared).heap := fun b o e => k₁ b o (S0 b o e)
  have hz₂ : h₀.objs.size ≤ ({ s with heap := h₁ } : Shared).heap.objs.size := Nat.le_trans hz hz₁
  k_call_by "enterC" [(Str.ofString "self", Value.ref y)]
  intro L h₂ A' R' hL F₁ N₁ SG
  have o0 : ∀ a, s.heap.get? a = none → h₀.get? a = none := fun a e => by
    cases q : h₀.get? a with
    | none => rfl
    | some o => have := S0 _ _ q; rw [e] at this; cases this
  have N₂ : News h₀ L h₂ ((y, instObj 234 dy) :: (dy, dictOf [] 0) :: dump h₀ s.heap) := fun q hq => by
    rcases List.mem_cons.mp hq with rfl | hq
    · exact N₁ _ (mem_dump.mpr ⟨ey, o0 _ ny⟩)
    · rcases List.mem_cons.mp hq with rfl | hq
      · exact N₁ _ (mem_dump.mpr ⟨edy, o0 _ ndy⟩)
      · obtain ⟨b, o⟩ := q
        obtain ⟨e1, e2⟩ := mem_dump.mp hq
        exact N₁ _ (mem_dump.mpr ⟨k₁ _ _ e1, e2⟩)
  clear N₁
  walk_at "goB"
  dsimp only
  rename Fr _ _ _ _ => F₃
  rename News _ _ _ _ => N₃
  rename_i dc _ oc loc _ _ hic _ lc _ dl _ ol lol _ _ hil _ ll _ dg _ og log _ _ hig _ lg _ dp _ op _ _ _ _ _ lp _ rl _ lr h₉
  have SG₃ : Sub s.heap h₉ := sub_of F₃ N₃ (fun p hp => .tail _ (.tail _ (.tail _ (.tail _ (.tail _ (.tail _ (.tail _ hp))))))) S0
  have dof : ∀ {a : Addr} {o : Obj}, h₉.get? a = some o → Obj.IsDictOf (intKind prog w) o [] → h₉.DictOf (intKind prog w) a [] := fun e ⟨es, ep, x⟩ => ⟨_, es, ep, e, x⟩
  have z := lt5 (a := dy) (b := y) (c := dc) (d := dl) (e := dg) (n := s.heap.objs.size) zdy hyd lc.1 ll.1 lg.1
  have zo : ∀ a, a ∈ [y, dy, dc, dl, dg] → h₀.get? a = none := fun a ha => o0 _ (none_of_size (z.1 a ha))
  have zn := z.2
  simp only [List.nodup_cons, List.mem_cons, List.not_mem_nil, or_false, not_or, not_false_eq_true, List.nodup_nil, and_true] at zn
  obtain ⟨⟨n1, n2, n3, n4⟩, ⟨n5, n6, n7⟩, ⟨n8, n9⟩, n10⟩ := zn
  have hcs : CS prog w h₀ h₉ y dy dc dl dg one := ⟨⟨⟨zo _ (by simp), zo _ (by simp)⟩, _, _, _, _, _, _, _, _, _, _, dp, rl, _, (N₃ _ (.tail _ (.tail _ (.tail _ (.tail _ (.tail _ (.head _))))))).1, (N₃ _ (.tail _ (.tail _ (.tail _ (.tail _ (.tail _ (.tail _ (.head _)))))))).1⟩,
    zo _ (by simp), loc, n2, n5, [], dof (N₃ _ (.tail _ (.tail _ (.tail _ (.tail _ (.head _)))))).1 hic, by simp, fun _ => rfl⟩
  have hls : LS prog w h₀ h₉ dl dg (fun _ => none) (fun _ => 0) := ⟨fun a ha => zo a (by
      simp only [fpL, fpo, List.nil_append, List.mem_cons, List.not_mem_nil, or_false] at ha; rcases ha with rfl | rfl <;> simp), lol, log, by simp [fpL, fpo, n10],
    ⟨[], dof (N₃ _ (.tail _ (.tail _ (.tail _ (.head _))))).1 hil, by simp, fun _ _ => rfl⟩, fun _ _ _ e => (by cases e), ⟨[], dof (N₃ _ (.tail _ (.tail _ (.head _)))).1 hig, by simp, rfl⟩⟩
  refine ⟨rfl, hQ y dy dc dl dg h₉ _ SG₃ ⟨hcs, hls, fun a ha => ?_⟩ fun a ha => none_of_size (z.1 a ?_)⟩
  · simp only [fpL, fpo, List.nil_append, List.mem_cons, List.not_mem_nil, or_false] at ha
    rcases ha with rfl | rfl
    · exact ⟨Ne.symm n3, Ne.symm n6, Ne.symm n8⟩
    · exact ⟨Ne.symm n4, Ne.symm n7, Ne.symm n9⟩
  · simpa [fpW, fpL, fpo] using ha
end

section
open PySem PySem.W PyProof.Rows PySem.Calls
set_option maxRecDepth 100000
set_option Elab.async false
/-- a list of spans that a clock's function knows -/
def SpanRel (sp : Clk) (f : Int → Int) : Prop := sp.Nodup ∧ ∀ p, p ∈ sp ↔ 1 ≤ p.2 ∧ p.2 ≤ f p.1
def Cap (f : Int → Int) : Prop := (∀ h, 0 ≤ f h) ∧ (∀ h, ¬ In4 h → f h = 0) ∧ f 0 + f 1 + f 2 + f 3 ≤ 60

theorem rel_nil : SpanRel [] (fun _ => 0) := ⟨.nil, fun p => by simp; omega⟩
theorem rel_one {k : Int} : SpanRel [(k, 1)] (one k) := by
  refine ⟨by simp, fun p => ?_⟩
  obtain ⟨a, b⟩ := p
  simp only [List.mem_singleton, Prod.mk.injEq, one]
  by_cases e : a = k
  · rw [if_pos e]; simp only [e, true_and]; omega
  · rw [if_neg e]; simp only [e, false_and, false_iff]; omega
theorem rel_tick {sp : Clk} {f : Int → Int} {k : Int} (x : SpanRel sp f) (h0 : 0 ≤ f k) : SpanRel (sp ++ [(k, f k + 1)]) (tick f k) := by
  refine ⟨?_, fun p => ?_⟩
  · rw [List.nodup_append]
    refine ⟨x.1, by simp, fun p hp q hq e => ?_⟩
    have := (x.2 p).mp hp
    rw [List.mem_singleton] at hq
    subst hq; subst e
    simp only at this; omega
  · obtain ⟨a, b⟩ := p
    rw [List.mem_append, x.2, List.mem_singleton, Prod.mk.injEq]
    simp only [tick]
    by_cases e : a = k
    · subst e; simp only [true_and, if_true]; omega
    · simp only [e, false_and, or_false, if_false]
theorem rel_join {sp sq : Clk} {f g : Int → Int} (x : SpanRel sp f) (y : SpanRel sq g) : SpanRel (sp ++ sq.filter (fun p => !decide (p ∈ sp))) (join f g) := by
  refine ⟨?_, fun p => ?_⟩
  · rw [List.nodup_append]
    refine ⟨x.1, y.1.filter _, fun p hp q hq e => ?_⟩
    subst e
    have := (List.mem_filter.mp hq).2
    simp [hp] at this
  · simp only [List.mem_append, List.mem_filter, join, x.2, y.2, Bool.not_eq_true', decide_eq_false_iff_not]
    omega
theorem rel_perm {sp sq : Clk} {f : Int → Int} (x : SpanRel sp f) (h : sq.Perm sp) : SpanRel sq f := ⟨h.nodup_iff.mpr x.1, fun p => h.mem_iff.trans (x.2 p)⟩
theorem rel_fun {sp : Clk} {f g : Int → Int} (x : SpanRel sp f) (e : ∀ k, f k = g k) : SpanRel sp g := (funext e : f = g) ▸ x
/-- the turns 1 .. n of h -/
def turns (h : Int) (n : Nat) : Clk := (List.range n).map fun (t : Nat) => (h, (t : Int) + 1)
theorem mem_turns {h : Int} {n : Nat} {p : Int × Int} : p ∈ turns h n ↔ p.1 = h ∧ 1 ≤ p.2 ∧ p.2 ≤ n := by
  unfold turns
  obtain ⟨a, b⟩ := p
  simp only [List.mem_map, List.mem_range, Prod.mk.injEq]
  constructor
  · rintro ⟨t, ht, rfl, rfl⟩; exact ⟨rfl, by omega, by omega⟩
  · rintro ⟨rfl, h1, h2⟩
    exact ⟨(b - 1).toNat, by omega, rfl, by omega⟩
theorem turns_nodup (h : Int) (n : Nat) : (turns h n).Nodup := by
  unfold turns
  rw [List.nodup_iff_pairwise_ne, List.pairwise_map]
  exact List.nodup_range.imp fun {a b} hab e => hab (by have := (Prod.mk.inj e).2; omega)
theorem turns_len (h : Int) (n : Nat) : (turns h n).length = n := by simp [turns]
theorem rel_count {sp : Clk} {f : Int → Int} {k : Int} (x : SpanRel sp f) (h0 : 0 ≤ f k) : ((sp.filter fun p => decide (p.1 = k)).length : Int) = f k := by
  have h1 : (sp.filter fun p => decide (p.1 = k)).length ≤ (turns k (f k).toNat).length := nodup_le _ _ (x.1.filter _) fun p hp => by
    obtain ⟨a, b⟩ := List.mem_filter.mp hp
    have b := of_decide_eq_true b
    have := (x.2 p).mp a
    rw [b] at this
    exact mem_turns.mpr ⟨b, this.1, by omega⟩
  have h2 : (turns k (f k).toNat).length ≤ (sp.filter fun p => decide (p.1 = k)).length := nodup_le _ _ (turns_nodup _ _) fun p hp => by
    obtain ⟨a, b, c⟩ := mem_turns.mp hp
    exact List.mem_filter.mpr ⟨(x.2 p).mpr ⟨b, by rw [a]; omega⟩, decide_eq_true a⟩
  rw [turns_len] at h1 h2
  omega
theorem rel_len {sp : Clk} {f : Int → Int} (x : SpanRel sp f) (c : Cap f) : sp.length ≤ 60 := by
  obtain ⟨c1, c2, c3⟩ := c
  have := nodup_le sp (turns 0 (f 0).toNat ++ turns 1 (f 1).toNat ++ turns 2 (f 2).toNat ++ turns 3 (f 3).toNat) x.1 fun p hp => by
    have h := (x.2 p).mp hp
    by_cases i : In4 p.1
    · have h4 : p.1 = 0 ∨ p.1 = 1 ∨ p.1 = 2 ∨ p.1 = 3 := by unfold In4 at i; omega
      simp only [List.mem_append, mem_turns]
      rcases h4 with e | e | e | e <;> rw [e] at h
      · exact .inl (.inl (.inl ⟨e, h.1, by omega⟩))
      · exact .inl (.inl (.inr ⟨e, h.1, by omega⟩))
      · exact .inl (.inr ⟨e, h.1, by omega⟩)
      · exact .inr ⟨e, h.1, by omega⟩
    · have := c2 _ i; omega
  simp only [List.length_append, turns_len] at this
  have := c1 0
  have := c1 1
  have := c1 2
  have := c1 3
  omega
/-- sorted lists with the same members are the same -/
theorem sorted_eq : ∀ {xs ys : Clk}, xs.Pairwise (fun p q => plt p q = true) → ys.Pairwise (fun p q => plt p q = true) → xs.Nodup → ys.Nodup → (∀ p, p ∈ xs ↔ p ∈ ys) → xs = ys
  | [], [], _, _, _, _, _ => rfl
  | [], y :: ys, _, _, _, _, h => by have := (h y).mpr (.head _); cases this
  | x :: xs, [], _, _, _, _, h => by have := (h x).mp (.head _); cases this
  | x :: xs, y :: ys, hx, hy, nx, ny, h => by
    rw [List.pairwise_cons] at hx hy
    rw [List.nodup_cons] at nx ny
    have e : x = y := by
      rcases List.mem_cons.mp ((h x).mp (.head _)) with e | e
      · exact e
      · rcases List.mem_cons.mp ((h y).mpr (.head _)) with e' | e'
        · exact e'.symm
        · have a := hy.1 x e
          have b := hx.1 y e'
          simp only [plt, Bool.or_eq_true, Bool.and_eq_true, decide_eq_true_eq] at a b
          omega
    subst e
    rw [sorted_eq hx.2 hy.2 nx.2 ny.2 fun p => ?_]
    constructor
    · intro hp
      rcases List.mem_cons.mp ((h p).mp (.tail _ hp)) with e | e
      · subst e; exact absurd hp nx.1
      · exact e
    · intro hp
      rcases List.mem_cons.mp ((h p).mpr (.tail _ hp)) with e | e
      · subst e; exact absurd hp ny.1
      · exact e
theorem rel_eq {xs ys : Clk} {f : Int → Int} (x : SpanRel xs f) (y : SpanRel ys f) (hx : xs.Pairwise (fun p q => plt p q = true)) (hy : ys.Pairwise (fun p q => plt p q = true)) : xs = ys :=
  sorted_eq hx hy x.1 y.1 fun p => (x.2 p).trans (y.2 p).symm
/-- the spans of a clock -/
def spansOf (ps : Clk) : Clk := ps.flatMap fun p => turns p.1 p.2.toNat
theorem mem_spans {ps : Clk} {p : Int × Int} : p ∈ spansOf ps ↔ ∃ q ∈ ps, p.1 = q.1 ∧ 1 ≤ p.2 ∧ p.2 ≤ q.2 := by
  unfold spansOf
  rw [List.mem_flatMap]
  constructor
  · rintro ⟨q, hq, h⟩
    obtain ⟨a, b, c⟩ := mem_turns.mp h
    exact ⟨q, hq, a, b, by omega⟩
  · rintro ⟨q, hq, a, b, c⟩
    exact ⟨q, hq, mem_turns.mpr ⟨a, b, by omega⟩⟩
theorem rel_spans {ps : Clk} (x : Srt ps) : SpanRel (spansOf ps) (cnt ps) := by
  constructor
  · have : ∀ l : Clk, (l.map (·.1)).Nodup → (spansOf l).Nodup := by
      intro l hl
      induction l with
      | nil => exact .nil
      | cons q r ih =>
        rw [List.map_cons, List.nodup_cons] at hl
        unfold spansOf
        rw [List.flatMap_cons, List.nodup_append]
        refine ⟨turns_nodup _ _, ih hl.2, fun p hp p' hp' e => ?_⟩
        subst e
        obtain ⟨a, _, _⟩ := mem_turns.mp hp
        obtain ⟨q', hq', b, _⟩ := mem_spans.mp hp'
        exact hl.1 (List.mem_map.mpr ⟨q', hq', by rw [← b, a]⟩)
    exact this _ x.keys
  · intro p
    rw [mem_spans]
    constructor
    · rintro ⟨q, hq, a, b, c⟩
      refine ⟨b, ?_⟩
      rw [a, cnt_mem x.keys hq]; exact c
    · rintro ⟨a, b⟩
      rcases cnt_cases ps p.1 with ⟨q, hq, e⟩ | ⟨_, e⟩
      · refine ⟨q, hq, e.symm, a, ?_⟩
        rw [← e, cnt_mem x.keys hq] at b; exact b
      · omega
theorem rel_sub {sp sq : Clk} {f g : Int → Int} (x : SpanRel sp f) (y : SpanRel sq g) (hf : ∀ k, 0 ≤ f k) (hg : ∀ k, 0 ≤ g k) : sp.filter (fun p => !decide (p ∈ sq)) = [] ↔ ∀ k, f k ≤ g k := by
  rw [List.filter_eq_nil_iff]
  constructor
  · intro h k
    by_cases e : f k = 0
    · rw [e]; exact hg k
    · have := hf k
      have := h (k, f k) ((x.2 _).mpr ⟨by simp only; omega, Int.le_refl _⟩)
      simp only [y.2, Bool.not_eq_true', decide_eq_false_iff_not, Decidable.not_not] at this
      exact this.2
  · intro h p hp
    have a := (x.2 p).mp hp
    have := h p.1
    simp only [y.2, Bool.not_eq_true', decide_eq_false_iff_not, Decidable.not_not]
    omega
end

section
open PySem PySem.W PyProof.Rows PySem.Calls
set_option maxRecDepth 100000
set_option Elab.async false
set_option maxHeartbeats 4000000

/-- a plain list of pairs of ints -/
def PL (h : Heap) (a : Addr) (ps : Clk) : Prop := ∃ vs, h.PlainList a (List.toArray vs) ∧ PairsAll h vs ps
theorem PL.lst {h : Heap} {a : Addr} {ps : Clk} (x : PL h a ps) : LstAt h a ps := let ⟨vs, p, q⟩ := x; ⟨vs, p.isList, q⟩
theorem PL.tr {h h' : Heap} {a : Addr} {ps : Clk} (x : PL h a ps) (k : TK h h') (e : ∀ o, h.get? a = some o → h'.get? a = some o) : PL h' a ps := let ⟨vs, p, q⟩ := x; ⟨vs, p.at (e ·), q.tk k⟩
theorem PL.sub {h h' : Heap} {a : Addr} {ps : Clk} (x : PL h a ps) (k : Sub h h') : PL h' a ps := x.tr (TK.of_sub k) (k a)
theorem PL.live {h : Heap} {a : Addr} {ps : Clk} (x : PL h a ps) : ∃ o, h.get? a = some o := let ⟨_, ⟨_, p⟩, _⟩ := x; ⟨_, p⟩
theorem pair_uniq {h : Heap} {v : Value} {p q : Int × Int} (x : PairAt h v p) (y : PairAt h v q) : p = q := by
  obtain ⟨a, t, u, e, n, g⟩ := x
  obtain ⟨b, t', u', e', n', g'⟩ := y
  rw [e] at e'; cases e'
  rw [g] at g'
  simp only [Option.some.injEq, Obj.mk.injEq, Data.seq.injEq, true_and, and_true] at g'
  have := g'.1
  simp at this
  exact Prod.ext this.1.1 this.2.1

def toD (p : Int × Int) : PyData := .tuple [.int p.1, .int p.2]
theorem pair_reads {h : Heap} {v : Value} {p : Int × Int} (x : PairAt h v p) : ∃ as, Reads h v (toD p) as := by
  obtain ⟨a, t, u, rfl, n, g⟩ := x
  exact ⟨_, reads_tuple_at g rfl rfl (.cons (.int _ _) (.cons (.int _ _) .nil))⟩
theorem pairs_reads {h : Heap} {vs : List Value} {ps : Clk} (x : PairsAll h vs ps) : ∃ as, ReadsAll h vs (ps.map toD) as := by
  induction x with
  | nil => exact ⟨_, .nil⟩
  | cons a _ ih =>
    obtain ⟨as, r⟩ := pair_reads a
    obtain ⟨bs, q⟩ := ih
    exact ⟨_, .cons r q⟩
theorem list_reads {h : Heap} {a : Addr} {ps : Clk} (x : LstAt h a ps) : ∃ as, Reads h (.ref a) (.list (ps.map toD)) as := by
  obtain ⟨vs, ⟨o, ho, hc, n, hd⟩, q⟩ := x
  obtain ⟨as, r⟩ := pairs_reads q
  exact ⟨_, reads_list_at ho hc hd (by simpa using r)⟩
theorem toD_lay (p : Int × Int) : (toD p).canLay0 = true ∧ (toD p).depth ≤ 2 := by
  simp [toD, PyData.canLay0, PyData.canLayAll0, PyData.depth, PyData.depthAll]
theorem toDs_lay (ps : Clk) : PyData.canLayAll0 (ps.map toD) = true ∧ PyData.depthAll (ps.map toD) ≤ 2 := by
  induction ps with
  | nil => simp [PyData.canLayAll0, PyData.depthAll]
  | cons p r ih =>
    have := toD_lay p
    simp only [List.map_cons, PyData.canLayAll0, PyData.depthAll, this.1, ih.1, Bool.and_self, true_and]
    have := this.2
    have := ih.2
    omega
theorem toD_eqv (p q : Int × Int) : PyData.eqv (toD p) (toD q) = decide (p = q) := by
  obtain ⟨a, b⟩ := p
  obtain ⟨c, d⟩ := q
  by_cases h1 : a = c <;> by_cases h2 : b = d <;> simp [toD, PyData.eqv, PyData.eqvAll, h1, h2]
theorem toDs_eqv : ∀ ps qs : Clk, PyData.eqvAll (ps.map toD) (qs.map toD) = decide (ps = qs)
  | [], [] => rfl
  | [], _ :: _ => rfl
  | _ :: _, [] => rfl
  | p :: ps, q :: qs => by
    simp only [List.map_cons, PyData.eqvAll, toD_eqv, toDs_eqv ps qs, List.cons.injEq]
    by_cases h1 : p = q <;> by_cases h2 : ps = qs <;> simp [h1, h2]
theorem toDs_any (ps : Clk) (p : Int × Int) : (ps.map toD).any (fun y => PyData.eqv y (toD p)) = decide (p ∈ ps) := by
  induction ps with
  | nil => rfl
  | cons q r ih =>
    rw [List.map_cons, List.any_cons, ih, toD_eqv]
    by_cases h1 : q = p
    · simp [h1]
    · by_cases h2 : p ∈ r <;> simp [h1, h2, Ne.symm h1]

section
variable {prog : Program} {w : World} {A : Around} {E : Value → Shared → Prop} {s : Shared}
theorem span_notin {pv : Value} {a : Addr} {p : Int × Int} {ps : Clk} {Q : Value → Shared → Prop} (hl : LstAt s.heap a ps) (hp : PairAt s.heap pv p) (hu : A.units + 64 < cLine) (h : Q (.bool (!decide (p ∈ ps))) s) :
    wpAny (model prog w) A (compareOp .NotIn pv (.ref a)) Q E s := by
  obtain ⟨as, r1⟩ := list_reads hl
  obtain ⟨bs, r2⟩ := pair_reads hp
  have l1 := toDs_lay ps
  have l2 := toD_lay p
  refine SeqAt.notIn_list_reads r1 r2 l1.1 l2.1 ?_ (by rw [toDs_any]; exact h)
  have := Nat.min_le_left (PyData.depthAll (ps.map toD)) (toD p).depth
  have := l1.2
  omega
theorem toDs_shaped (ps : Clk) : SeqAt.shaped (.list (ps.map toD)) = true := by
  have := toDs_lay ps
  unfold SeqAt.shaped
  simp only [PyData.canLay0, PyData.depth, this.1, Bool.true_and]
  have := this.2
  exact decide_eq_true (by omega)
theorem lists_ne {a b : Addr} {ps qs : Clk} {Q : Value → Shared → Prop} (hl : LstAt s.heap a ps) (hm : LstAt s.heap b qs) (hu : A.units + 64 < cLine) (h : Q (.bool (!decide (ps = qs))) s) :
    wpAny (model prog w) A (compareOp .NotEq (.ref a) (.ref b)) Q E s := by
  obtain ⟨as, r1⟩ := list_reads hl
  obtain ⟨bs, r2⟩ := list_reads hm
  exact ne_dataH r1 r2 (toDs_shaped ps) (toDs_shaped qs) hu (by rw [show PyData.eqv (.list (ps.map toD)) (.list (qs.map toD)) = decide (ps = qs) from toDs_eqv ps qs]; exact h)
theorem lists_eq {a b : Addr} {ps qs : Clk} {Q : Value → Shared → Prop} (hl : LstAt s.heap a ps) (hm : LstAt s.heap b qs) (hu : A.units + 64 < cLine) (h : Q (.bool (decide (ps = qs))) s) :
    wpAny (model prog w) A (compareOp .Eq (.ref a) (.ref b)) Q E s := by
  obtain ⟨as, r1⟩ := list_reads hl
  obtain ⟨bs, r2⟩ := list_reads hm
  exact eq_dataH r1 r2 (toDs_shaped ps) (toDs_shaped qs) hu (by rw [show PyData.eqv (.list (ps.map toD)) (.list (qs.map toD)) = decide (ps = qs) from toDs_eqv ps qs]; exact h)
/-- list(xs) -/
theorem list_copy {a : Addr} {ps : Clk} {Q : Value → Shared → Prop} (hl : LstAt s.heap a ps) (hz : ps.length ≤ 1000)
    (h : ∀ D h', s.heap.get? D = none → PL h' D ps → Sub s.heap h' → Q (.ref D) { s with heap := h' }) : wpAny (model prog w) A (call (.type "list") [.ref a]) Q E s := by
  obtain ⟨vs, ⟨o, ho, hc, n, hd⟩, q⟩ := hl
  exact call_list_seq a (.inl rfl) ho hc hd (fun h' c' k e => h _ h' (none_of_size (Nat.le_refl _)) ⟨vs, ⟨c', e⟩, q.tk (TK.of_sub k)⟩ k) (by rw [List.size_toArray, q.length, sizeLine_eq]; omega)
theorem PairsAll.app {h : Heap} {vs ws : List Value} {ps qs : Clk} (x : PairsAll h vs ps) (y : PairsAll h ws qs) : PairsAll h (vs ++ ws) (ps ++ qs) := by
  induction x with
  | nil => exact y
  | cons a _ ih => exact .cons a ih
/-- xs + ys -/
theorem list_plus {a b : Addr} {ps qs : Clk} {Q : Value → Shared → Prop} (hl : PL s.heap a ps) (hm : PL s.heap b qs) (hz : ps.length + qs.length ≤ 1000)
    (h : ∀ D h', s.heap.get? D = none → PL h' D (ps ++ qs) → Sub s.heap h' → Q (.ref D) { s with heap := h' }) : wpAny (model prog w) A (binaryOp .Add (.ref a) (.ref b)) Q E s := by
  obtain ⟨vs, ⟨n, e⟩, q⟩ := hl
  obtain ⟨ws, ⟨n', e'⟩, q'⟩ := hm
  have k : Sub s.heap (s.heap.push { cls := .type "list", data := .seq (List.toArray vs ++ List.toArray ws) }) := fun b o e => Heap.get?_push_of_some _ e
  refine P.add_list e e' (h _ _ (none_of_size (Nat.le_refl _)) ⟨vs ++ ws, ⟨_, by simpa using Heap.get?_push_size s.heap rfl⟩, (q.app q').tk (TK.of_sub k)⟩ k) (by rw [List.size_toArray, List.size_toArray, q.length, q'.length, sizeLine_eq]; omega)
theorem pairs_filter {h : Heap} {vs : List Value} {ps : Clk} (x : PairsAll h vs ps) {pv : Value → Bool} {p : Int × Int → Bool} (hp : ∀ v q, PairAt h v q → pv v = p q) : PairsAll h (vs.filter pv) (ps.filter p) := by
  induction x with
  | nil => exact .nil
  | @cons v q vs ps a _ ih =>
    rw [List.filter_cons, List.filter_cons, hp _ _ a]
    by_cases e : p q = true
    · rw [if_pos e, if_pos e]; exact .cons a ih
    · rw [if_neg e, if_neg e]; exact ih
theorem paired_eq {xs ys : List Value} (h : Paired (fun v y : Value => y = v) xs ys) : ys = xs := by
  induction h with
  | nil => rfl
  | cons e _ ih => rw [e, ih]
end

section
variable {prog : Program} {w : World} {A : Around} {E : Value → Shared → Prop} {s : Shared} {h₀ : Heap} {L : Addr} {m : Str → Option Value} {news : List (Addr × Obj)} {env : Env}
/-- [x for x in xs if test] -/
theorem comp_filter {iter c : Expr} {x : Str} {px px' : Pos} {scope : Scope} {cl : List (Str × Addr)} {pos : Pos} {a : Addr} {sp : Clk} (p : Int × Int → Bool) {Q : Value → Shared → Prop} (hh : A.handled = none)
    (F : Fr h₀ L s.heap m) (N : News h₀ L s.heap news) (hl : PL s.heap a sp) (hz : sp.length ≤ 1000)
    (hclos : closureFor scope env = pure cl) (hcell : ∀ y ∈ scope.names, y.2 ≠ .cell) (hkind : scope.kind = .function)
    (hnames : ∀ y ∈ scope.names, y.2 = .local → scope.names.lookup y.1 = some .local) (hx : scope.names.lookup x = some .local) (hd : (x == ("__debug__" : Str)) = false)
    (hev : ∀ Q' : Value → Shared → Prop, (∀ tk, Q' (.ref a) { s with toks := tk }) → wpAny (model prog w) A (eval iter env) Q' E s)
    (test : ∀ C oC pv q s₃ m₃ E', q ∈ sp → PairAt s₃.heap pv q → LCg.NsObj oC m₃ → m₃ x = some pv → Fr h₀ L s₃.heap m → News h₀ L s₃.heap ((C, oC) :: news) → Sub s.heap s₃.heap →
      wpAny (model prog w) A (isTrue c (compEnvC scope cl C env) (eval c (compEnvC scope cl C env))) (fun ok s₄ => ok = p q ∧ Keeps s₃ s₄) E' s₃)
    (h : ∀ D h' tk, s.heap.get? D = none → PL h' D (sp.filter p) → Sub s.heap h' → Q (.ref D) { s with heap := h', toks := tk })
    (hs : ∀ x, foldedSetIterable iter env x = pure x := by intro _; rfl) :
    wpAny (model prog w) A (eval (.ListComp (.Name x px') [⟨.Name x px, iter, [c], 0⟩] scope pos) env) Q E s := by
  obtain ⟨vs, hpl, hps⟩ := hl
  classical
  let pv : Value → Bool := fun v => if h : ∃ q, PairAt s.heap v q then p h.choose else false
  have hpv : ∀ v q, PairAt s.heap v q → pv v = p q := fun v q hq => by
    have e : ∃ q, PairAt s.heap v q := ⟨q, hq⟩
    show (if h : ∃ q, PairAt s.heap v q then p h.choose else false) = _
    rw [dif_pos e, pair_uniq e.choose_spec hq]
  refine wpAny_ListComp_free pv (fun v y => y = v) hclos hcell hkind hnames hx (hev _ fun tk₀ => ?_) hs
  refine wpAny_pyIter_list hpl.isList ?_
  have hlt : a < s.heap.objs.size := let ⟨_, e⟩ := hpl; Heap.lt_size e
  have up : Sub s.heap (s.heap.push { cls := .type "list_iterator", data := .fields #[.ref a, .int 0 0] }) := fun b o e => Heap.get?_push_of_some _ e
  have hsz : (List.toArray vs).size = sp.length := by rw [List.size_toArray, hps.length]
  have keep : ∀ {h' : Heap}, (∀ b o, b ∉ [s.heap.objs.size] → (s.heap.push { cls := .type "list_iterator", data := .fields #[.ref a, .int 0 0] }).get? b = some o → h'.get? b = some o) → Sub s.heap h' := fun k b o e =>
    k b o (by simp only [List.mem_singleton]; exact Nat.ne_of_lt (Heap.lt_size e)) (up b o e)
  have stand : ∀ C (s₃ : Shared) m₃, (s.heap.push { cls := .type "list_iterator", data := .fields #[.ref a, .int 0 0] }).objs.size ≤ C → s₃.heap.Ns C m₃ → Sub s.heap s₃.heap → ∃ oC, LCg.NsObj oC m₃ ∧ Fr h₀ L s₃.heap m ∧ News h₀ L s₃.heap ((C, oC) :: news) := fun C s₃ m₃ hC hn k => by
    obtain ⟨oC, e, ho⟩ := LCg.ns_obj hn
    have F₃ := fr_sub F k
    rw [Heap.size_push] at hC
    have n1 : s.heap.get? C = none := none_of_size (Nat.le_of_succ_le hC)
    refine ⟨oC, ho, F₃, fun q hq => ?_⟩
    rcases List.mem_cons.mp hq with rfl | hq
    · refine ⟨e, fun e' => ?_, ?_⟩
      · obtain ⟨o, _, _, e2, _⟩ := F.ns
        rw [← e'] at e2
        rw [n1] at e2; cases e2
      · cases z : h₀.get? C with
        | none => rfl
        | some o => rw [F.keep _ _ z] at n1; cases n1
    · exact ⟨k _ _ (N q hq).1, (N q hq).2⟩
  refine ⟨_, _, _, _, _, _, rfl, Walks.list hh s.heap.objs.size a (Nat.ne_of_lt hlt) (List.toArray vs), by rw [hsz, sizeLine_eq]; omega, ⟨⟨_, Heap.get?_push_size _ rfl, rfl, rfl⟩, hpl.isList.at (up a)⟩, fun b hb => ?_, ⟨?_, ?_⟩, ?_⟩
  · show b < (s.heap.push _).objs.size
    rw [Heap.size_push]
    rcases List.mem_cons.mp hb with rfl | hb
    · exact Nat.lt_succ_self _
    · rw [List.mem_singleton.mp hb]; exact Nat.lt_succ_of_lt hlt
  · intro C i v s₃ m₃ E' hC hP hn hm hk htk
    obtain ⟨q, hq, hpair⟩ := hps.get (i := i) (by simpa using hP)
    have k₃ := keep hk
    obtain ⟨oC, ho, F₃, N₃⟩ := stand C s₃ m₃ hC hn k₃
    refine wpAny_tests_one (wpAny_mono (test C oC v q s₃ m₃ E' (List.mem_of_getElem? hq) (hpair.tk (TK.of_sub k₃)) ho hm F₃ N₃ k₃) (fun ok s₄ e => ⟨e.1.trans (hpv v q hpair).symm, e.2⟩) fun _ _ x => x)
  · intro C i v s₃ m₃ E' hC hP hp hn hm hk htk
    have k₃ := keep hk
    obtain ⟨oC, ho, F₃, N₃⟩ := stand C s₃ m₃ hC hn k₃
    exact LCgL.ld_own N₃ (.head _) ho hm ⟨rfl, s₃.heap, s₃.toks, rfl, fun _ _ e => e⟩ (by simp [compEnvC, relabel, hkind]) (lookup_relabel_local hx) hd
  · intro D h' tk ys vs' hD hlD hpD hlen hP hF hk
    have k := keep hk
    have e : vs' = vs := by
      apply List.ext_getElem?
      intro i
      by_cases hi : i < vs'.length
      · have := hP i vs'[i] (List.getElem?_eq_getElem hi)
        rw [List.getElem?_eq_getElem hi]
        simpa using this.symm
      · rw [List.getElem?_eq_none (by omega), List.getElem?_eq_none (by have := hlen; rw [List.size_toArray] at this; omega)]
    subst e
    have e2 := paired_eq hF
    have nD : s.heap.get? D = none := by
      cases z : s.heap.get? D with
      | none => rfl
      | some o => rw [up _ _ z] at hD; cases hD
    refine h D h' tk nD ⟨vs'.filter pv, ?_, (pairs_filter hps hpv).tk (TK.of_sub k)⟩ k
    rw [← e2]; simpa using hpD
end
end

section
open PySem PySem.W PyProof.Rows PySem.Calls
set_option maxRecDepth 100000
set_option Elab.async false
set_option maxHeartbeats 4000000
theorem kfill7b : PySem.Challenge.rw_on0015_01 = PySem.Challenge.rw_on0015_01 ∧ hd.heap_1 = hd.heap_1 := by
  k_fill
  exact ⟨rfl, rfl⟩
-- enter a plain def: its names and values
-- walk until a loop, a call or a step without a line
-- what lies on the anchor is apart from what it has not


def SrcOk (h : Heap) (Z : Addr) (a b : Int) : Prop := ∃ t u, h.IsList Z #[.int a t, .int b u]
theorem SrcOk.tr {h h' : Heap} {Z : Addr} {a b : Int} (x : SrcOk h Z a b) (e : ∀ o, h.get? Z = some o → h'.get? Z = some o) : SrcOk h' Z a b := let ⟨t, u, i⟩ := x; ⟨t, u, i.at e⟩
theorem SrcOk.live {h : Heap} {Z : Addr} {a b : Int} (x : SrcOk h Z a b) : ∃ o, h.get? Z = some o := let ⟨t, u, ⟨o, i, _⟩⟩ := x; ⟨o, i⟩
theorem list_no_tup' {h : Heap} {a : Addr} {items : Array Value} (x : h.IsList a items) : ∀ o, h.get? a = some o → ¬ TupO o := fun o e k => by
  obtain ⟨o', e', hc, _⟩ := x
  rw [e'] at e; cases e
  exact absurd (hc.symm.trans k.1) (by decide)

theorem fmod_in {a b : Int} (h : 0 < b) : 0 ≤ a.fmod b ∧ a.fmod b < b := by
  rw [Int.fmod_eq_emod_of_nonneg a (by omega)]
  exact ⟨Int.emod_nonneg _ (by omega), Int.emod_lt_of_pos _ h⟩
theorem take_spec {prog p w loose mean mg mb} {A : Around} {E : Value → Shared → Prop} {s : Shared} {h₀ : Heap} (R : Room A 1) (KX : (hd.heap_1 w.params).In h₀) (T : Top p loose mean mg mb h₀)
   (S0 : Sub h₀ s.heap) (hz : h₀.objs.size ≤ s.heap.objs.size) {Z : Addr} {a b top : Int} {t : Tok} (oz : h₀.get? Z = none) (hS : SrcOk s.heap Z a b) (hb : 0 ≤ b ∧ b < 2147483647) (ht : 1 ≤ top ∧ top ≤ 100) {Q : Value → Shared → Prop}
   (hQ : ∀ r u a' b' h' tk, Keep [Z] s.heap h' → SrcOk h' Z a' b' → (0 ≤ b' ∧ b' < 2147483647) → 0 ≤ r → r < top → Q (.int r u) { s with heap := h', toks := tk }) :
   wpAny (model prog w) A (call (.ref 252) [.ref Z, .int top t]) Q E s := by
  k_call_by "enter" [(Str.ofString "source", Value.ref Z), (Str.ofString "top", Value.int top t)]
  intro L h₁ A' R' hL F₁ N₁ SG
  obtain ⟨ta, tb, hZ⟩ := hS
  have nL : Z ≠ L := by
    obtain ⟨o, ho, _⟩ := hZ
    rw [hL]; exact Nat.ne_of_lt (Heap.lt_size ho)
  have hZ₁ := hZ.at (SG Z)
  walk_at "goC"
  refine list_item hZ₁ (by decide) (Nat.le_of_ble_eq_true rfl) (v := .int a ta) rfl ?_
  walk_at "goC"
  · refine list_item hZ₁ (by decide) (Nat.le_of_ble_eq_true rfl) (v := .int a ta) rfl ?_
    walk_at "goC"
    walk1
    walk_at "goC"
    rename Fr _ _ _ _ => F₂
    rename News _ _ _ _ => N₂
    have SG₂ : Sub s.heap _ := sub_of F₂ N₂ (fun p hp => hp) S0
    refine list_item (hZ.at (SG₂ Z)) (by decide) (Nat.le_of_ble_eq_true rfl) (v := .int a ta) rfl ?_
    walk_at "goC"
    refine wpAny_setItem_list (hZ.at (SG₂ Z)) (by decide) (by decide) (by simp) fun h₃ hZ₃ hs₃ => ?_
    have k₃ : Keep [Z] s.heap h₃ := (Keep.of_sub SG₂).trans (Keep.of_same hs₃ (list_no_tup' (hZ.at (SG₂ Z))))
    have F₃ := fr_same F₂ hs₃ nL oz
    have N₃ : News h₀ L h₃ [] := News.nil
    clear F₂ N₂
    walk_at "goC"
    dsimp only
    have hm := fmod_in (a := a) (b := top) (by omega)
    exact hQ _ _ _ b h₃ _ k₃ ⟨_, _, hZ₃⟩ hb hm.1 hm.2
  · refine list_item hZ₁ (by decide) (Nat.le_of_ble_eq_true rfl) (v := .int b tb) rfl ?_
    walk_at "goC"
    walk1
    walk_at "goC"
    refine wpAny_setItem_list hZ₁ (by decide) (by decide) (by simp) fun h₃ hZ₃ hs₃ => ?_
    have k₃ : Keep [Z] s.heap h₃ := (Keep.of_sub SG).trans (Keep.of_same hs₃ (list_no_tup' hZ₁))
    have F₃ := fr_same F₁ hs₃ nL oz
    have N₃ : News h₀ L h₃ [] := News.nil
    clear F₁ N₁
    walk_at "goC"
    have hm := fmod_in (a := b * 39373 + 7) (b := 2147483647) (by omega)
    generalize (b * 39373 + 7).fmod 2147483647 = b₃ at hm hZ₃
    have hZ₃' : SrcOk h₃ Z a b₃ := ⟨_, _, hZ₃⟩
    have hZ₄ := hZ₃
    simp only [List.setIfInBounds_toArray] at hZ₃
    walk_at "goC"
    refine list_item (v := .int b₃ _) hZ₃ (by decide) (Nat.le_of_ble_eq_true rfl) rfl ?_
    walk_at "goC"
    refine list_item (v := .int b₃ _) hZ₃ (by decide) (Nat.le_of_ble_eq_true rfl) rfl ?_
    walk_at "goC"
    walk1
    walk_at "goC"
    walk1
    walk_at "goC"
    dsimp only
    have hr := fmod_in (a := Int.fdiv ((b₃ * b₃).fmod 2147483629) 32) (b := top) (by omega)
    exact hQ _ _ a b₃ h₃ _ k₃ hZ₃' hm hr.1 hr.2
end

section
open PySem PySem.W PyProof.Rows PySem.Calls
set_option maxRecDepth 100000
set_option Elab.async false
set_option maxHeartbeats 4000000
theorem kfill7c : PySem.Challenge.rw_on0015_01 = PySem.Challenge.rw_on0015_01 ∧ hd.heap_1 = hd.heap_1 := by
  k_fill
  exact ⟨rfl, rfl⟩
-- enter a plain def: its names and values
-- walk until a loop, a call or a step without a line
-- what lies on the anchor is apart from what it has not


def SpanAt (h : Heap) (U : List Addr) (a : Addr) (f : Int → Int) : Prop := a ∉ U ∧ ∃ sp, PL h a sp ∧ SpanRel sp f
theorem SpanAt.tr {h h' : Heap} {S U : List Addr} {a : Addr} {f : Int → Int} (x : SpanAt h U a f) (k : Keep S h h') (i : ∀ b ∈ S, b ∈ U) : SpanAt h' U a f :=
  let ⟨n, sp, l, r⟩ := x; ⟨n, sp, l.tr (TK.of_keep k) fun o e => k.at (fun q => n (i _ q)) e, r⟩
theorem SpanAt.live {h : Heap} {U : List Addr} {a : Addr} {f : Int → Int} (x : SpanAt h U a f) : ∃ o, h.get? a = some o := let ⟨_, _, l, _⟩ := x; l.live
theorem SpanAt.grow {h : Heap} {U U' : List Addr} {a : Addr} {f : Int → Int} (x : SpanAt h U a f) (i : ∀ b ∈ U', b ∈ U ∨ h.get? b = none) : SpanAt h U' a f :=
  ⟨fun q => (i a q).elim x.1 fun e => (by obtain ⟨o, ho⟩ := x.live; rw [e] at ho; cases ho), x.2⟩

def KnownAt (prog : Program) (w : World) (h : Heap) (U : List Addr) (Kd : Addr) (n : Nat) (F : Int → Int → Int) : Prop :=
  ∃ kvs, h.DictOf (intKind prog w) Kd kvs ∧ kvs.map (·.1) = (List.range n).map Int.ofNat ∧ ∀ k : Int, 0 ≤ k → k < n → ∃ a, valueAt kvs k = some (.ref a) ∧ SpanAt h U a (F k)
theorem KnownAt.tr {prog w} {h h' : Heap} {S U : List Addr} {Kd : Addr} {n : Nat} {F : Int → Int → Int} (x : KnownAt prog w h U Kd n F) (k : Keep S h h') (i : ∀ b ∈ S, b ∈ U) (nk : Kd ∉ S) : KnownAt prog w h' U Kd n F :=
  let ⟨kvs, d, e, a⟩ := x; ⟨kvs, dict_sub d fun _ e => k.at nk e, e, fun j h1 h2 => let ⟨b, c, d⟩ := a j h1 h2; ⟨b, c, d.tr k i⟩⟩
theorem KnownAt.sub {prog w} {h h' : Heap} {U : List Addr} {Kd : Addr} {n : Nat} {F : Int → Int → Int} (x : KnownAt prog w h U Kd n F) (k : Sub h h') : KnownAt prog w h' U Kd n F := x.tr (S := []) (Keep.of_sub k) (by simp) (by simp)
theorem KnownAt.grow {prog w} {h : Heap} {U U' : List Addr} {Kd : Addr} {n : Nat} {F : Int → Int → Int} (x : KnownAt prog w h U Kd n F) (i : ∀ b ∈ U', b ∈ U ∨ h.get? b = none) : KnownAt prog w h U' Kd n F :=
  let ⟨kvs, d, e, a⟩ := x; ⟨kvs, d, e, fun j h1 h2 => let ⟨b, c, d⟩ := a j h1 h2; ⟨b, c, d.grow i⟩⟩
theorem KnownAt.live {prog w} {h : Heap} {U : List Addr} {Kd : Addr} {n : Nat} {F : Int → Int → Int} (x : KnownAt prog w h U Kd n F) : ∃ o, h.get? Kd = some o := let ⟨_, ⟨o, _, _, e, _⟩, _⟩ := x; ⟨o, e⟩

theorem PL.up {h' g' : Heap} {L : Addr} {m : Str → Option Value} {a : Addr} {ps : Clk} (x : PL h' a ps) (n : a ≠ L) (hn : h'.Ns L m) (up : ∀ a o, h'.get? a = some o → a ≠ L → a ∉ ([] : List Addr) → g'.get? a = some o) : PL g' a ps :=
  x.tr (tk_up hn (by simp) up) fun o e => up a o e n (by simp)
theorem ns_live {h : Heap} {L : Addr} {m : Str → Option Value} (x : h.Ns L m) : ∃ o, h.get? L = some o := let ⟨o, _, _, e, _⟩ := x; ⟨o, e⟩
theorem fresh_ne {h : Heap} {L D : Addr} {m : Str → Option Value} (x : h.Ns L m) (n : h.get? D = none) : D ≠ L := let ⟨_, e⟩ := ns_live x; live_ne e n
theorem sub_none {h h' : Heap} {D : Addr} (k : Sub h h') (n : h'.get? D = none) : h.get? D = none := by
  cases q : h.get? D with
  | none => rfl
  | some o => rw [k _ _ q] at n; cases n
theorem stored_keys {kvs : List (Int × Value)} {k : Int} {v v' : Value} (h : valueAt kvs k = some v') : (stored kvs k v).map (·.1) = kvs.map (·.1) := by
  unfold stored
  rw [if_pos]
  · rw [List.map_map]
    apply List.map_congr_left
    intro q _
    simp only [Function.comp_apply]
    split <;> rfl
  · cases q : kvs.any (fun kv => decide (kv.1 = k)) with
    | true => rfl
    | false => rw [valueAt_none q] at h; cases h
theorem not_live {h : Heap} {U : List Addr} {D : Addr} (hU : ∀ b ∈ U, ∃ o, h.get? b = some o) (n : h.get? D = none) : D ∉ U := fun q => by obtain ⟨o, e⟩ := hU D q; rw [n] at e; cases e
/-- known[k] = a new list of spans -/
theorem KnownAt.put {prog w} {h h' : Heap} {U : List Addr} {Kd D : Addr} {n : Nat} {F : Int → Int → Int} {k : Int} {f : Int → Int} {kvs : List (Int × Value)} {v : Value}
    (hkeys : kvs.map (·.1) = (List.range n).map Int.ofNat) (hall : ∀ k : Int, 0 ≤ k → k < n → ∃ a, valueAt kvs k = some (.ref a) ∧ SpanAt h U a (F k)) (hv : valueAt kvs k = some v) (hD : h'.DictOf (intKind prog w) Kd (stored kvs k (.ref D)))
    (kk : Keep [Kd] h h') (kU : Kd ∈ U) (hs : SpanAt h' U D f) : KnownAt prog w h' U Kd n (upd F k f) := by
  refine ⟨_, hD, (stored_keys hv).trans hkeys, fun j h1 h2 => ?_⟩
  rw [valueAt_stored]
  by_cases e : j = k
  · subst e; exact ⟨D, by rw [if_pos rfl], by rw [upd_same]; exact hs⟩
  · obtain ⟨a, b, c⟩ := hall j h1 h2
    exact ⟨a, by rw [if_neg e]; exact b, by rw [upd_ne e]; exact c.tr kk (by simpa using kU)⟩
theorem ltold_spec {prog p w loose mean mg mb} {A : Around} {E : Value → Shared → Prop} {s : Shared} {h₀ : Heap} (R : Room A 1) (KX : (hd.heap_1 w.params).In h₀) (T : Top p loose mean mg mb h₀)
   (S0 : Sub h₀ s.heap) (hz : h₀.objs.size ≤ s.heap.objs.size) {U : List Addr} {Kd : Addr} {n : Nat} {F : Int → Int → Int} {k : Int} {t : Tok} (ok : h₀.get? Kd = none) (hU : ∀ b ∈ U, ∃ o, s.heap.get? b = some o) (hK : KnownAt prog w s.heap U Kd n F) (kU : Kd ∈ U)
   (h0 : 0 ≤ k) (h1 : k < n) (hn : n ≤ 4) (hc : Cap (F k)) {Q : Value → Shared → Prop}
   (hQ : ∀ D h' tk, Keep [Kd] s.heap h' → KnownAt prog w h' U Kd n (upd F k (tick (F k) k)) → SpanAt h' U D (F k) → Q (.ref D) { s with heap := h', toks := tk }) :
   wpAny (model prog w) A (call (.ref 264) [.ref Kd, .int k t]) Q E s := by
  k_call_by "enterK" [(Str.ofString "known", Value.ref Kd), (Str.ofString "who", Value.int k t)]
  intro L h₁ tk₁ cells A' R' hL F₁ N₁ Y₁ SG nC
  k_cells Y₁
  dsimp only [List.cons_append, List.nil_append] at N₁
  obtain ⟨kvs, hD, hkeys, hall⟩ := id hK
  obtain ⟨a, hv, hnU, sp, hl, hr⟩ := hall k h0 h1
  have hlen := rel_len hr hc
  walk_at "goC"
  refine dict_item (dict_sub hD (SG _)) hv ?_
  walk_at "goC"
  refine step [_] [] [] (fun v h' => ∃ D, v = .ref D ∧ PL h' D sp ∧ h₁.get? D = none) F₁ N₁ S0 (by simp) (by simp)
    (fun Q' q => list_copy (hl.sub SG).lst (by omega) fun D h' nD hD kk => q _ _ _ (Keep.of_sub kk) ⟨D, rfl, hD, nD⟩) ?_
  rintro v₂ h₂ tk₂ g₂ F₂ N₂ SG₂ SH₂ KG₂ KS₂ up₂ _ ⟨D, rfl, hpD, nD⟩
  have hpD := hpD.up (fresh_ne F₁.ns nD) F₂.ns up₂
  have KG₂ := KG₂.sub
  clear F₁ N₁
  dsimp only [List.cons_append, List.nil_append] at N₂
  walk_at "goC"
  rename Fr _ _ _ _ => F₃
  rename News _ _ _ _ => N₃
  have SG₃ : Sub g₂ _ := sub_of F₃ N₃ (fun p hp => .tail _ hp) SG₂
  have SS₃ : Sub s.heap _ := fun b o e => SG₃ _ _ (KG₂ b o e)
  refine comp_filter (p := fun q => decide (q.1 = k)) R'.hand F₃ N₃ (hl.sub SS₃) (by omega) (by with_unfolding_all rfl) (by decide) (by rfl) (by decide) (by rfl) (by rfl) ?hev ?test ?hend
  case hev =>
    intro Q' hq
    walk_at "goC"
    refine dict_item (dict_sub hD (SS₃ _)) hv ?_
    exact hq _
  case test =>
    rintro C oC pv q s₃ m₃ E' hq ⟨ta, u1, u2, rfl, hX⟩ hoC hx F₄ N₄ k₃
    walk_at "goC"
    refine item_tuple hX.isTup (by decide) (by decide) (j := 0) (by rfl) (x := .int q.1 u1) (by rfl) ?_
    walk_at "goC"
    exact ⟨_, _, rfl, fun _ _ e => e⟩
  case hend =>
    intro D₂ h₄ tk₄ nD₂ hpD₂ kk
    have F₄ := fr_sub F₃ kk
    have N₄ := news_sub N₃ kk
    have SS₄ : Sub s.heap h₄ := fun b o e => kk _ _ (SS₃ b o e)
    clear F₃ N₃
    obtain ⟨vs2, hpl2, hps2⟩ := id hpD₂
    have hc2 := rel_count hr (hc.1 k)
    have hsz : ((List.toArray vs2).size : Int) = F k k := by rw [List.size_toArray, hps2.length]; exact hc2
    have hcap : F k k ≤ 60 := by
      have := List.length_filter_le (fun q : Int × Int => decide (q.1 = k)) sp
      omega
    walk_at "goC"
    refine call_len_list hpl2.isList (by rw [hsz]; omega) ?_
    walk_at "goC"
    rename Fr _ _ _ _ => F₅
    rename News _ _ _ _ => N₅
    have SG₅ : Sub g₂ _ := sub_of F₅ N₅ (fun p hp => .tail _ hp) SG₂
    have SS₅ : Sub s.heap _ := fun b o e => SG₅ _ _ (KG₂ b o e)
    refine dict_item (dict_sub hD (SS₅ _)) hv ?_
    walk_at "goC"
    clear SG₅ SS₅
    rename Fr _ _ _ _ => F₅
    rename News _ _ _ _ => N₅
    rw [hsz] at N₅
    have SG₅ : Sub g₂ _ := sub_of F₅ N₅ (fun p hp => .tail _ (.tail _ (.tail _ hp))) SG₂
    have SS₅ : Sub s.heap _ := fun b o e => SG₅ _ _ (KG₂ b o e)
    refine list_plus (hl.sub SS₅) (qs := [(k, F k k + 1)]) ⟨[.ref _], ⟨0, (N₅ _ (.head _)).1⟩, .cons ⟨_, _, _, rfl, 0, (N₅ _ (.tail _ (.head _))).1⟩ .nil⟩ (by simp; omega) fun D₃ h₆ nD₃ hpD₃ kk₆ => ?_
    have nD₃' := sub_none SS₅ nD₃
    have F₆ := fr_sub F₅ kk₆
    have N₆ := news_sub N₅ kk₆
    have SS₆ : Sub s.heap h₆ := fun b o e => kk₆ _ _ (SS₅ b o e)
    have hpD₆ := (hpD.sub SG₅).sub kk₆
    clear F₅ N₅
    walk_at "goC"
    have hkl : kvs.length = n := by have := congrArg List.length hkeys; simpa using this
    refine wpAny_setItem_pairs (knd := intKind prog w) (k := k) (intKind_is _ _ _ _) (dict_sub hD (SS₆ _)) (fun h₇ hD₇ hs₇ => ?_) (by rw [sizeLine_eq]; omega)
    have k₇ := keep_dict (dict_sub hD (SS₆ _)) hs₇
    have KdL : L ≠ Kd := by
      obtain ⟨o, ho⟩ := hK.live
      rw [hL]; exact Ne.symm (Nat.ne_of_lt (Heap.lt_size ho))
    have F₇ := fr_keep F₆ k₇ (by simpa using KdL) (by simpa using ok)
    have N₇ : News h₀ L h₇ [] := News.nil
    clear F₆ N₆
    walk_at "goC"
    dsimp only
    have nU := not_live hU nD₃'
    have nU' := not_live hU (sub_none SG nD)
    have kK : Keep [Kd] s.heap h₇ := (Keep.of_sub SS₆).trans k₇
    exact hQ D h₇ _ kK (KnownAt.put hkeys hall hv hD₇ kK kU ⟨nU, _, hpD₃.tr (TK.of_keep k₇) fun o e => k₇.at (by simp only [List.mem_singleton]; rintro rfl; exact nU kU) e, rel_tick hr (hc.1 k)⟩)
      ⟨nU', _, hpD₆.tr (TK.of_keep k₇) fun o e => k₇.at (by simp only [List.mem_singleton]; rintro rfl; exact nU' kU) e, hr⟩
end

section
open PySem PySem.W PyProof.Rows PySem.Calls
set_option maxRecDepth 100000
set_option Elab.async false
set_option maxHeartbeats 4000000
theorem kfill7d : PySem.Challenge.rw_on0015_01 = PySem.Challenge.rw_on0015_01 ∧ hd.heap_1 = hd.heap_1 := by
  k_fill
  exact ⟨rfl, rfl⟩
-- enter a plain def: its names and values
-- walk until a loop, a call or a step without a line
-- what lies on the anchor is apart from what it has not


theorem llearn_spec {prog p w loose mean mg mb} {A : Around} {E : Value → Shared → Prop} {s : Shared} {h₀ : Heap} (R : Room A 1) (KX : (hd.heap_1 w.params).In h₀) (T : Top p loose mean mg mb h₀)
   (S0 : Sub h₀ s.heap) (hz : h₀.objs.size ≤ s.heap.objs.size) {U : List Addr} {Kd M : Addr} {n : Nat} {F : Int → Int → Int} {k : Int} {g : Int → Int} {t : Tok} (ok : h₀.get? Kd = none) (hU : ∀ b ∈ U, ∃ o, s.heap.get? b = some o) (hK : KnownAt prog w s.heap U Kd n F) (kU : Kd ∈ U)
   (h0 : 0 ≤ k) (h1 : k < n) (hn : n ≤ 4) (hc : Cap (F k)) (hg : Cap g) (hM : SpanAt s.heap U M g) {Q : Value → Shared → Prop}
   (hQ : ∀ h' tk, Keep [Kd] s.heap h' → KnownAt prog w h' U Kd n (upd F k (join (F k) g)) → Q .none { s with heap := h', toks := tk }) :
   wpAny (model prog w) A (call (.ref 269) [.ref Kd, .int k t, .ref M]) Q E s := by
  k_call_by "enterK" [(Str.ofString "known", Value.ref Kd), (Str.ofString "who", Value.int k t), (Str.ofString "more", Value.ref M)]
  intro L h₁ tk₁ cells A' R' hL F₁ N₁ Y₁ SG nC
  k_cells Y₁
  dsimp only [List.cons_append, List.nil_append] at N₁
  obtain ⟨kvs, hD, hkeys, hall⟩ := id hK
  obtain ⟨a, hv, hnU, sp, hl, hr⟩ := hall k h0 h1
  obtain ⟨mU, sm, hlm, hrm⟩ := hM
  have hlen := rel_len hr hc
  have hlenm := rel_len hrm hg
  have hu : A'.units + 64 < cLine := by have := R'.units; omega
  walk_at "goC"
  refine dict_item (dict_sub hD (SG _)) hv ?_
  walk_at "goC"
  refine comp_filter (p := fun q => !decide (q ∈ sp)) R'.hand F₁ N₁ (hlm.sub SG) (by omega) (by with_unfolding_all rfl) (by decide) (by rfl) (by decide) (by rfl) (by rfl) ?hev ?test ?hend
  case hev =>
    intro Q' hq
    walk_at "goC"
    exact hq _
  case test =>
    rintro C oC pv q s₃ m₃ E' hq hpair hoC hx F₄ N₄ k₃
    have SS₄ : Sub s.heap s₃.heap := fun b o e => k₃ _ _ (SG b o e)
    walk_at "goC"
    refine dict_item (dict_sub hD (SS₄ _)) hv ?_
    walk_at "goC"
    refine span_notin (hl.sub SS₄).lst hpair hu ?_
    walk_at "goC"
    exact ⟨_, _, rfl, fun _ _ e => e⟩
  case hend =>
    intro D₂ h₄ tk₄ nD₂ hpD₂ kk
    have F₄ := fr_sub F₁ kk
    have N₄ := news_sub N₁ kk
    have SS₄ : Sub s.heap h₄ := fun b o e => kk _ _ (SG b o e)
    clear F₁ N₁
    walk_at "goC"
    refine list_plus (hl.sub SS₄) hpD₂ (by have := List.length_filter_le (fun q => !decide (q ∈ sp)) sm; omega) fun D₃ h₆ nD₃ hpD₃ kk₆ => ?_
    have nD₃' := sub_none SS₄ nD₃
    have F₆ := fr_sub F₄ kk₆
    have N₆ := news_sub N₄ kk₆
    have SS₆ : Sub s.heap h₆ := fun b o e => kk₆ _ _ (SS₄ b o e)
    clear F₄ N₄
    walk_at "goC"
    have hkl : kvs.length = n := by have := congrArg List.length hkeys; simpa using this
    refine wpAny_setItem_pairs (knd := intKind prog w) (k := k) (intKind_is _ _ _ _) (dict_sub hD (SS₆ _)) (fun h₇ hD₇ hs₇ => ?_) (by rw [sizeLine_eq]; omega)
    have k₇ := keep_dict (dict_sub hD (SS₆ _)) hs₇
    have KdL : L ≠ Kd := by
      obtain ⟨o, ho⟩ := hK.live
      rw [hL]; exact Ne.symm (Nat.ne_of_lt (Heap.lt_size ho))
    have F₇ := fr_keep F₆ k₇ (by simpa using KdL) (by simpa using ok)
    have N₇ : News h₀ L h₇ [] := News.nil
    clear F₆ N₆
    walk_at "goC"
    dsimp only
    have nU := not_live hU nD₃'
    have kK : Keep [Kd] s.heap h₇ := (Keep.of_sub SS₆).trans k₇
    exact hQ h₇ _ kK (KnownAt.put hkeys hall hv hD₇ kK kU ⟨nU, _, hpD₃.tr (TK.of_keep k₇) fun o e => k₇.at (by simp only [List.mem_singleton]; rintro rfl; exact nU kU) e, rel_join hr hrm⟩)
end

section
open PySem PySem.W PyProof.Rows PySem.Calls
set_option maxRecDepth 100000
set_option Elab.async false
/-- f knows no more than is -/
def Dm (F : Int → Int → Int) (f : Int → Int) : Prop := ∀ h, 0 ≤ f h ∧ (In4 h → f h ≤ F h h) ∧ (¬ In4 h → f h = 0)
structure Inv (n : Nat) (F : Int → Int → Int) (S R : List (Int → Int)) (G E : Int → Int) (B : Int) : Prop where
  n1 : 1 ≤ n
  n4 : n ≤ 4
  un : ∀ k : Int, (n : Int) ≤ k → F k = one k
  dm : ∀ k, In4 k → Dm F (F k)
  ds : ∀ f ∈ S, Dm F f
  dr : ∀ f ∈ R, Dm F f
  dg : Dm F G
  de : Dm F E
  sum : F 0 0 + F 1 1 + F 2 2 + F 3 3 ≤ B
theorem Dm.cap {n F S R G E B f} (I : Inv n F S R G E B) (h : Dm F f) (hB : B ≤ 60) : Cap f := by
  refine ⟨fun k => (h k).1, fun k => (h k).2.2, ?_⟩
  have a := (h 0).2.1 ⟨by decide, by decide⟩
  have b := (h 1).2.1 ⟨by decide, by decide⟩
  have c := (h 2).2.1 ⟨by decide, by decide⟩
  have d := (h 3).2.1 ⟨by decide, by decide⟩
  have := I.sum
  omega
theorem Dm.up {F F' f} (h : Dm F f) (i : ∀ k, In4 k → F k k ≤ F' k k) : Dm F' f := fun k => ⟨(h k).1, fun e => Int.le_trans ((h k).2.1 e) (i k e), (h k).2.2⟩
theorem Inv.in4 {n F S R G E B} (I : Inv n F S R G E B) {k : Int} (h0 : 0 ≤ k) (h1 : k < n) : In4 k := ⟨h0, by have := I.n4; omega⟩
theorem Inv.capF {n F S R G E B} (I : Inv n F S R G E B) {k : Int} (h : In4 k) (hB : B ≤ 60) : Cap (F k) := (I.dm k h).cap I hB
theorem Inv.mono {n F S R G E B B'} (I : Inv n F S R G E B) (h : B ≤ B') : Inv n F S R G E B' := ⟨I.n1, I.n4, I.un, I.dm, I.ds, I.dr, I.dg, I.de, Int.le_trans I.sum h⟩
theorem diag_tick {F : Int → Int → Int} {k : Int} : ∀ j, F j j ≤ upd F k (tick (F k) k) j j := fun j => by
  by_cases e : j = k
  · subst e; rw [upd_same]; simp only [tick, if_true]; omega
  · rw [upd_ne e]; exact Int.le_refl _
theorem Inv.tick {n F S R G E B} (I : Inv n F S R G E B) {k : Int} (h0 : 0 ≤ k) (h1 : k < n) : Inv n (upd F k (tick (F k) k)) S R G E (B + 1) := by
  have i4 := I.in4 h0 h1
  have up : ∀ {f}, Dm F f → Dm (upd F k (Mine.tick (F k) k)) f := fun h => h.up fun j _ => diag_tick j
  refine ⟨I.n1, I.n4, fun j hj => ?_, fun j hj => ?_, fun f hf => up (I.ds f hf), fun f hf => up (I.dr f hf), up I.dg, up I.de, ?_⟩
  · rw [upd_ne (by omega)]; exact I.un j hj
  · by_cases e : j = k
    · subst e
      rw [upd_same]
      intro l
      have a := I.dm j i4 l
      simp only [Mine.tick]
      by_cases q : l = j
      · subst q; rw [if_pos rfl, upd_same]; simp only [Mine.tick, if_true]
        exact ⟨by omega, fun _ => Int.le_refl _, fun z => absurd i4 z⟩
      · rw [if_neg q, upd_ne q]; exact a
    · rw [upd_ne e]; exact up (I.dm j hj)
  · have := I.sum
    have e : ∀ j, upd F k (Mine.tick (F k) k) j j = F j j + if j = k then 1 else 0 := fun j => by
      by_cases q : j = k
      · subst q; rw [upd_same]; simp [Mine.tick]
      · rw [upd_ne q, if_neg q]; omega
    rw [e, e, e, e]
    have : ((if (0 : Int) = k then (1 : Int) else 0) + (if 1 = k then 1 else 0) + (if 2 = k then 1 else 0) + (if 3 = k then 1 else 0)) ≤ 1 := by
      have h4 : k = 0 ∨ k = 1 ∨ k = 2 ∨ k = 3 := by unfold In4 at i4; omega
      rcases h4 with rfl | rfl | rfl | rfl <;> decide
    omega
theorem diag_join {F : Int → Int → Int} {k : Int} {g : Int → Int} (i4 : In4 k) (hg : Dm F g) : ∀ j, upd F k (join (F k) g) j j = F j j := fun j => by
  by_cases q : j = k
  · subst q; rw [upd_same]; have := (hg j).2.1 i4; simp only [join]; omega
  · rw [upd_ne q]
theorem Dm.join' {F : Int → Int → Int} {f g : Int → Int} (hf : Dm F f) (hg : Dm F g) : Dm F (join f g) := fun l => by
  have a := hf l
  have b := hg l
  simp only [join]
  refine ⟨by omega, fun e => ?_, fun e => ?_⟩
  · have := a.2.1 e; have := b.2.1 e; omega
  · have := a.2.2 e; have := b.2.2 e; omega
theorem Dm.same {F F' f} (h : Dm F f) (i : ∀ k, F' k k = F k k) : Dm F' f := h.up fun k _ => Int.le_of_eq (i k).symm
theorem Inv.join {n F S R G E B} (I : Inv n F S R G E B) {k : Int} {g : Int → Int} (h0 : 0 ≤ k) (h1 : k < n) (hg : Dm F g) : Inv n (upd F k (join (F k) g)) S R G E B := by
  have i4 := I.in4 h0 h1
  have d := diag_join (k := k) i4 hg
  refine ⟨I.n1, I.n4, fun j hj => ?_, fun j hj => ?_, fun f hf => (I.ds f hf).same d, fun f hf => (I.dr f hf).same d, I.dg.same d, I.de.same d, ?_⟩
  · rw [upd_ne (by omega)]; exact I.un j hj
  · by_cases e : j = k
    · subst e; rw [upd_same]; exact ((I.dm j i4).join' hg).same d
    · rw [upd_ne e]; exact (I.dm j hj).same d
  · rw [d, d, d, d]; exact I.sum
theorem Inv.sent {n F S R G E B} (I : Inv n F S R G E B) {f : Int → Int} (h : Dm F f) : Inv n F (S ++ [f]) R G E B := ⟨I.n1, I.n4, I.un, I.dm, fun g hg => by
  rcases List.mem_append.mp hg with hg | hg
  · exact I.ds g hg
  · rw [List.mem_singleton.mp hg]; exact h, I.dr, I.dg, I.de, I.sum⟩
theorem Inv.recv {n F S R G E B} (I : Inv n F S R G E B) {f : Int → Int} (h : Dm F f) : Inv n F S (R ++ [f]) G E B := ⟨I.n1, I.n4, I.un, I.dm, I.ds, fun g hg => by
  rcases List.mem_append.mp hg with hg | hg
  · exact I.dr g hg
  · rw [List.mem_singleton.mp hg]; exact h, I.dg, I.de, I.sum⟩
theorem Inv.gate {n F S R G E B} (I : Inv n F S R G E B) {f : Int → Int} (h : Dm F f) : Inv n F S R f E B := ⟨I.n1, I.n4, I.un, I.dm, I.ds, I.dr, h, I.de, I.sum⟩
theorem Inv.ends {n F S R G E B} (I : Inv n F S R G E B) {f : Int → Int} (h : Dm F f) : Inv n F S R G f B := ⟨I.n1, I.n4, I.un, I.dm, I.ds, I.dr, I.dg, h, I.sum⟩
/-- a goroutine more is known -/
theorem Inv.born {n F S R G E B} (I : Inv n F S R G E B) (h : n < 4) : Inv (n + 1) F S R G E B := ⟨by omega, by omega, fun k hk => I.un k (by push_cast at hk; omega), I.dm, I.ds, I.dr, I.dg, I.de, I.sum⟩
/-- the clock told with a tick stands below -/
theorem Inv.told {n F S R G E B} (I : Inv n F S R G E B) {k : Int} (h0 : 0 ≤ k) (h1 : k < n) : Dm (upd F k (Mine.tick (F k) k)) (F k) := (I.dm k (I.in4 h0 h1)).up fun j _ => diag_tick j
theorem Inv.start : Inv 1 one [] [] (fun _ => 0) (fun _ => 0) 4 := by
  have hd : ∀ k, In4 k → Dm one (one k) := fun k hk h => by
    unfold one
    by_cases e : h = k
    · subst e; simp; exact hk
    · simp [e]
  have z : Dm one (fun _ => 0) := fun h => ⟨Int.le_refl _, fun _ => by simp [one], fun _ => rfl⟩
  exact ⟨by decide, by decide, fun _ _ => rfl, hd, by simp, by simp, z, z, by simp [one]⟩
end

section
open PySem PySem.W PyProof.Rows PySem.Calls
set_option maxRecDepth 100000
set_option Elab.async false
set_option maxHeartbeats 4000000
def SeqO (o : Obj) : Prop := ∃ xs n, o.data = .seq xs n
theorem PL.trs {h h' : Heap} {a : Addr} {ps : Clk} (x : PL h a ps) (k : ∀ b o, h.get? b = some o → SeqO o → h'.get? b = some o) : PL h' a ps := by
  obtain ⟨vs, ⟨n, e⟩, q⟩ := x
  exact ⟨vs, ⟨n, k _ _ e ⟨_, _, rfl⟩⟩, q.tk fun b o e t => k b o e t.2⟩
theorem SpanAt.trs {h h' : Heap} {U : List Addr} {a : Addr} {f : Int → Int} (x : SpanAt h U a f) (k : ∀ b o, h.get? b = some o → SeqO o → h'.get? b = some o) : SpanAt h' U a f :=
  let ⟨n, sp, l, r⟩ := x; ⟨n, sp, l.trs k, r⟩
theorem SpanAt.sub {h h' : Heap} {U : List Addr} {a : Addr} {f : Int → Int} (x : SpanAt h U a f) (k : Sub h h') : SpanAt h' U a f := x.trs fun b o e _ => k b o e

inductive SpAll (h : Heap) (U : List Addr) : List Value → List (Int → Int) → Prop
  | nil : SpAll h U [] []
  | cons {b vs f fs} : SpanAt h U b f → SpAll h U vs fs → SpAll h U (.ref b :: vs) (f :: fs)
theorem SpAll.imp {h h' : Heap} {U U' : List Addr} {vs fs} (x : SpAll h U vs fs) (k : ∀ b f, SpanAt h U b f → SpanAt h' U' b f) : SpAll h' U' vs fs := by
  induction x with
  | nil => exact .nil
  | cons a _ ih => exact .cons (k _ _ a) ih
theorem SpAll.length {h : Heap} {U : List Addr} {vs fs} (x : SpAll h U vs fs) : vs.length = fs.length := by
  induction x with
  | nil => rfl
  | cons _ _ ih => simp [ih]
theorem SpAll.snoc {h : Heap} {U : List Addr} {vs fs b f} (x : SpAll h U vs fs) (a : SpanAt h U b f) : SpAll h U (vs ++ [.ref b]) (fs ++ [f]) := by
  induction x with
  | nil => exact .cons a .nil
  | cons b _ ih => exact .cons b ih
theorem SpAll.get {h : Heap} {U : List Addr} {vs fs} (x : SpAll h U vs fs) : ∀ {i : Nat} {f : Int → Int}, fs[i]? = some f → ∃ b, vs[i]? = some (.ref b) ∧ SpanAt h U b f := by
  induction x with
  | nil => intro i f e; simp at e
  | cons a _ ih =>
    intro i f e
    cases i with
    | zero => simp at e; subst e; exact ⟨_, rfl, a⟩
    | succ i => simpa using ih (by simpa using e)
def SListAt (h : Heap) (U : List Addr) (a : Addr) (fs : List (Int → Int)) : Prop := ∃ vs, h.PlainList a (List.toArray vs) ∧ SpAll h U vs fs
theorem SListAt.imp {h h' : Heap} {U U' : List Addr} {a fs} (x : SListAt h U a fs) (e : ∀ o, h.get? a = some o → h'.get? a = some o) (k : ∀ b f, SpanAt h U b f → SpanAt h' U' b f) : SListAt h' U' a fs := let ⟨vs, p, q⟩ := x; ⟨vs, p.at (e ·), q.imp k⟩
theorem SListAt.live {h : Heap} {U : List Addr} {a fs} (x : SListAt h U a fs) : ∃ o, h.get? a = some o := let ⟨_, ⟨_, p⟩, _⟩ := x; ⟨_, p⟩
theorem KnownAt.imp {prog w} {h h' : Heap} {U U' : List Addr} {Kd : Addr} {n : Nat} {F : Int → Int → Int} (x : KnownAt prog w h U Kd n F) (e : ∀ o, h.get? Kd = some o → h'.get? Kd = some o) (k : ∀ b f, SpanAt h U b f → SpanAt h' U' b f) : KnownAt prog w h' U' Kd n F :=
  let ⟨kvs, d, e', a⟩ := x; ⟨kvs, dict_sub d e, e', fun j h1 h2 => let ⟨b, c, d⟩ := a j h1 h2; ⟨b, c, k _ _ d⟩⟩

def kG : Str := Str.ofString "gate"
def kE : Str := Str.ofString "end"
def MarksAt (prog : Program) (w : World) (h : Heap) (U : List Addr) (Md : Addr) (G E : Int → Int) : Prop :=
  ∃ kvs, h.DictOf (PySem.strKind prog w) Md kvs ∧ (∀ q ∈ kvs, q.1 ∈ [kG, kE]) ∧ (∃ a, valueAt kvs kG = some (.ref a) ∧ SpanAt h U a G) ∧ ∀ v, valueAt kvs kE = some v → ∃ a, v = .ref a ∧ SpanAt h U a E
theorem MarksAt.imp {prog w} {h h' : Heap} {U U' : List Addr} {Md : Addr} {G E : Int → Int} (x : MarksAt prog w h U Md G E) (e : ∀ o, h.get? Md = some o → h'.get? Md = some o) (k : ∀ b f, SpanAt h U b f → SpanAt h' U' b f) : MarksAt prog w h' U' Md G E :=
  let ⟨kvs, d, b, ⟨a, c1, c2⟩, q⟩ := x; ⟨kvs, dict_sub d e, b, ⟨a, c1, k _ _ c2⟩, fun v hv => let ⟨a, c, d⟩ := q v hv; ⟨a, c, k _ _ d⟩⟩
theorem MarksAt.live {prog w} {h : Heap} {U : List Addr} {Md : Addr} {G E : Int → Int} (x : MarksAt prog w h U Md G E) : ∃ o, h.get? Md = some o := let ⟨_, ⟨o, _, _, e, _⟩, _⟩ := x; ⟨o, e⟩

/-- the places of the law -/
structure AD where
  x : Addr
  dx : Addr
  Dc : Addr
  Dl : Addr
  Dg : Addr
  Z : Addr
  Kd : Addr
  Md : Addr
  Ls : Addr
  S7 : Addr
  R7 : Addr
def own5 (a : AD) : List Addr := [a.Z, a.Kd, a.Md, a.S7, a.R7]
def AD.fp (a : AD) (ls : Int → Option Ln) : List Addr := fpW a.x a.dx a.Dc a.Dl a.Dg ls
def UW (a : AD) (ls : Int → Option Ln) : List Addr := own5 a ++ a.fp ls

structure LX (prog : Program) (w : World) (h₀ h : Heap) (a : AD) (room : Int) (n : Nat) (Fw : Int → Int → Int) (ls : Int → Option Ln) (Gw : Int → Int) (Fk : Int → Int → Int) (Ss Rs : List (Int → Int)) (Gk Ek : Int → Int) : Prop where
  ws : WS prog w h₀ h a.x a.dx a.Dc a.Dl a.Dg Fw ls Gw
  o : ∀ b ∈ own5 a, h₀.get? b = none
  nd : (own5 a).Nodup
  ap : ∀ b ∈ own5 a, b ∉ a.fp ls
  src : ∃ u v, SrcOk h a.Z u v ∧ 0 ≤ v ∧ v < 2147483647
  kn : KnownAt prog w h (UW a ls) a.Kd n Fk
  kl : (a.Kd == sysModules) = false
  ml : (a.Md == sysModules) = false
  ln : a.Ls ∉ UW a ls ∧ ∃ t, h.IsList a.Ls #[.int room t, .ref a.S7, .ref a.R7]
  rm : 1 ≤ room ∧ room ≤ 2
  s7 : SListAt h (UW a ls) a.S7 Ss
  r7 : SListAt h (UW a ls) a.R7 Rs
  mks : MarksAt prog w h (UW a ls) a.Md Gk Ek

section
variable {prog : Program} {w : World} {h₀ h h' : Heap} {a : AD} {room : Int} {n n' : Nat} {Fw Fw' : Int → Int → Int} {ls ls' : Int → Option Ln} {Gw Gw' : Int → Int} {Fk Fk' : Int → Int → Int} {Ss Ss' Rs Rs' : List (Int → Int)} {Gk Gk' Ek Ek' : Int → Int}
theorem LX.mem (X : LX prog w h₀ h a room n Fw ls Gw Fk Ss Rs Gk Ek) : a.Z ∈ UW a ls ∧ a.Kd ∈ UW a ls ∧ a.Md ∈ UW a ls ∧ a.S7 ∈ UW a ls ∧ a.R7 ∈ UW a ls := by simp [UW, own5]
theorem LX.live (X : LX prog w h₀ h a room n Fw ls Gw Fk Ss Rs Gk Ek) : ∀ b ∈ UW a ls, ∃ o, h.get? b = some o := by
  intro b hb
  rcases List.mem_append.mp hb with hb | hb
  · simp only [own5, List.mem_cons, List.not_mem_nil, or_false] at hb
    rcases hb with rfl | rfl | rfl | rfl | rfl
    · obtain ⟨_, _, s, _⟩ := X.src; exact s.live
    · exact X.kn.live
    · exact X.mks.live
    · exact X.s7.live
    · exact X.r7.live
  · exact X.ws.live b hb
theorem LX.off (X : LX prog w h₀ h a room n Fw ls Gw Fk Ss Rs Gk Ek) : ∀ b ∈ UW a ls, h₀.get? b = none := by
  intro b hb
  rcases List.mem_append.mp hb with hb | hb
  · exact X.o b hb
  · exact X.ws.own b hb
theorem LX.tr (X : LX prog w h₀ h a room n Fw ls Gw Fk Ss Rs Gk Ek) (k : ∀ b o, h.get? b = some o → (b ∈ UW a ls ∨ SeqO o) → h'.get? b = some o) : LX prog w h₀ h' a room n Fw ls Gw Fk Ss Rs Gk Ek := by
  have m := X.mem
  have ks : ∀ b f, SpanAt h (UW a ls) b f → SpanAt h' (UW a ls) b f := fun b f s => s.trs fun b o e q => k b o e (.inr q)
  have ku : ∀ b, b ∈ UW a ls → ∀ o, h.get? b = some o → h'.get? b = some o := fun b hb o e => k b o e (.inl hb)
  refine ⟨X.ws.tr (fun b hb => ku b (List.mem_append.mpr (.inr hb))) fun b o e t => k b o e (.inr t.2), X.o, X.nd, X.ap, ?_, X.kn.imp (ku _ m.2.1) ks, X.kl, X.ml, ⟨X.ln.1, ?_⟩, X.rm, X.s7.imp (ku _ m.2.2.2.1) ks, X.r7.imp (ku _ m.2.2.2.2) ks, X.mks.imp (ku _ m.2.2.1) ks⟩
  · obtain ⟨u, v, s, b⟩ := X.src
    exact ⟨u, v, s.tr (ku _ m.1), b⟩
  · obtain ⟨t, o, e, hc, q, hd⟩ := X.ln.2
    exact ⟨t, o, k _ _ e (.inr ⟨_, _, hd⟩), hc, q, hd⟩
theorem LX.sub (X : LX prog w h₀ h a room n Fw ls Gw Fk Ss Rs Gk Ek) (k : Sub h h') : LX prog w h₀ h' a room n Fw ls Gw Fk Ss Rs Gk Ek := X.tr fun b o e _ => k b o e
theorem LX.up {g' : Heap} {L : Addr} {m : Str → Option Value} {H : List Addr} (X : LX prog w h₀ h' a room n Fw ls Gw Fk Ss Rs Gk Ek) (nL : ∀ b ∈ UW a ls, b ≠ L) (hH : ∀ b ∈ H, b ∉ UW a ls ∧ ∀ o, h'.get? b = some o → ¬ SeqO o) (hn : h'.Ns L m)
    (up : ∀ a o, h'.get? a = some o → a ≠ L → a ∉ H → g'.get? a = some o) : LX prog w h₀ g' a room n Fw ls Gw Fk Ss Rs Gk Ek := by
  refine X.tr fun b o e q => up b o e ?_ ?_
  · rcases q with q | ⟨xs, m, hd⟩
    · exact nL b q
    · rintro rfl
      obtain ⟨o', es, ep, e', hd', _⟩ := hn
      rw [e] at e'; cases e'
      rw [hd] at hd'; cases hd'
  · intro hb
    rcases q with q | q
    · exact (hH b hb).1 q
    · exact (hH b hb).2 o e q
theorem LX.up0 {g' : Heap} {L : Addr} {m : Str → Option Value} (X : LX prog w h₀ h' a room n Fw ls Gw Fk Ss Rs Gk Ek) (nL : ∀ b ∈ UW a ls, b ≠ L) (hn : h'.Ns L m)
    (up : ∀ a o, h'.get? a = some o → a ≠ L → a ∉ ([] : List Addr) → g'.get? a = some o) : LX prog w h₀ g' a room n Fw ls Gw Fk Ss Rs Gk Ek := X.up nL (by simp) hn up
theorem SpanAt.up {g' : Heap} {U : List Addr} {L b : Addr} {f : Int → Int} {m : Str → Option Value} (x : SpanAt h' U b f) (hn : h'.Ns L m) (up : ∀ a o, h'.get? a = some o → a ≠ L → a ∉ ([] : List Addr) → g'.get? a = some o) : SpanAt g' U b f :=
  x.trs fun b o e ⟨xs, m, hd⟩ => up b o e (by
    rintro rfl
    obtain ⟨o', es, ep, e', hd', _⟩ := hn
    rw [e] at e'; cases e'
    rw [hd] at hd'; cases hd') (by simp)

/-- one of the law's own turned -/
theorem LX.mut (X : LX prog w h₀ h a room n Fw ls Gw Fk Ss Rs Gk Ek) {c : Addr} (hc : c ∈ own5 a) (k : Keep [c] h h')
    (z : a.Z ≠ c ∨ ∃ u v, SrcOk h' a.Z u v ∧ 0 ≤ v ∧ v < 2147483647)
    (kn : (a.Kd ≠ c ∧ n' = n ∧ Fk' = Fk) ∨ KnownAt prog w h' (UW a ls) a.Kd n' Fk')
    (s7 : (a.S7 ≠ c ∧ Ss' = Ss) ∨ SListAt h' (UW a ls) a.S7 Ss')
    (r7 : (a.R7 ≠ c ∧ Rs' = Rs) ∨ SListAt h' (UW a ls) a.R7 Rs')
    (mk : (a.Md ≠ c ∧ Gk' = Gk ∧ Ek' = Ek) ∨ MarksAt prog w h' (UW a ls) a.Md Gk' Ek') : LX prog w h₀ h' a room n' Fw ls Gw Fk' Ss' Rs' Gk' Ek' := by
  have cU : c ∈ UW a ls := List.mem_append.mpr (.inl hc)
  have ks : ∀ b f, SpanAt h (UW a ls) b f → SpanAt h' (UW a ls) b f := fun b f s => s.tr k (by simpa using cU)
  have ke : ∀ {b}, b ≠ c → ∀ o, h.get? b = some o → h'.get? b = some o := fun hb o e => k.at (by simpa using hb) e
  refine ⟨X.ws.tr (fun b hb => ke fun e => X.ap c hc (e ▸ hb)) (TK.of_keep k), X.o, X.nd, X.ap, ?_, ?_, X.kl, X.ml, ⟨X.ln.1, ?_⟩, X.rm, ?_, ?_, ?_⟩
  · rcases z with z | z
    · obtain ⟨u, v, s, b⟩ := X.src
      exact ⟨u, v, s.tr (ke z), b⟩
    · exact z
  · rcases kn with ⟨e, rfl, rfl⟩ | kn
    · exact X.kn.imp (ke e) ks
    · exact kn
  · obtain ⟨t, i⟩ := X.ln.2
    exact ⟨t, i.at (ke fun e => X.ln.1 (e ▸ cU))⟩
  · rcases s7 with ⟨e, rfl⟩ | s7
    · exact X.s7.imp (ke e) ks
    · exact s7
  · rcases r7 with ⟨e, rfl⟩ | r7
    · exact X.r7.imp (ke e) ks
    · exact r7
  · rcases mk with ⟨e, rfl, rfl⟩ | mk
    · exact X.mks.imp (ke e) ks
    · exact mk
theorem LX.ne (X : LX prog w h₀ h a room n Fw ls Gw Fk Ss Rs Gk Ek) : (a.Z ≠ a.Kd ∧ a.Z ≠ a.Md ∧ a.Z ≠ a.S7 ∧ a.Z ≠ a.R7) ∧ (a.Kd ≠ a.Md ∧ a.Kd ≠ a.S7 ∧ a.Kd ≠ a.R7) ∧ (a.Md ≠ a.S7 ∧ a.Md ≠ a.R7) ∧ a.S7 ≠ a.R7 := by
  have := X.nd
  simpa [own5] using this
theorem LX.source (X : LX prog w h₀ h a room n Fw ls Gw Fk Ss Rs Gk Ek) (k : Keep [a.Z] h h') (z : ∃ u v, SrcOk h' a.Z u v ∧ 0 ≤ v ∧ v < 2147483647) : LX prog w h₀ h' a room n Fw ls Gw Fk Ss Rs Gk Ek := by
  obtain ⟨⟨a1, a2, a3, a4⟩, _⟩ := X.ne
  exact X.mut (c := a.Z) (by simp [own5]) k (.inr z) (.inl ⟨Ne.symm a1, rfl, rfl⟩) (.inl ⟨Ne.symm a3, rfl⟩) (.inl ⟨Ne.symm a4, rfl⟩) (.inl ⟨Ne.symm a2, rfl, rfl⟩)
theorem LX.known (X : LX prog w h₀ h a room n Fw ls Gw Fk Ss Rs Gk Ek) (k : Keep [a.Kd] h h') (z : KnownAt prog w h' (UW a ls) a.Kd n' Fk') : LX prog w h₀ h' a room n' Fw ls Gw Fk' Ss Rs Gk Ek := by
  obtain ⟨⟨a1, a2, a3, a4⟩, ⟨b1, b2, b3⟩, _⟩ := X.ne
  exact X.mut (c := a.Kd) (by simp [own5]) k (.inl a1) (.inr z) (.inl ⟨Ne.symm b2, rfl⟩) (.inl ⟨Ne.symm b3, rfl⟩) (.inl ⟨Ne.symm b1, rfl, rfl⟩)
theorem LX.marks (X : LX prog w h₀ h a room n Fw ls Gw Fk Ss Rs Gk Ek) (k : Keep [a.Md] h h') (z : MarksAt prog w h' (UW a ls) a.Md Gk' Ek') : LX prog w h₀ h' a room n Fw ls Gw Fk Ss Rs Gk' Ek' := by
  obtain ⟨⟨a1, a2, a3, a4⟩, ⟨b1, b2, b3⟩, ⟨c1, c2⟩, _⟩ := X.ne
  exact X.mut (c := a.Md) (by simp [own5]) k (.inl a2) (.inl ⟨b1, rfl, rfl⟩) (.inl ⟨Ne.symm c1, rfl⟩) (.inl ⟨Ne.symm c2, rfl⟩) (.inr z)
theorem LX.sent (X : LX prog w h₀ h a room n Fw ls Gw Fk Ss Rs Gk Ek) (k : Keep [a.S7] h h') (z : SListAt h' (UW a ls) a.S7 Ss') : LX prog w h₀ h' a room n Fw ls Gw Fk Ss' Rs Gk Ek := by
  obtain ⟨⟨a1, a2, a3, a4⟩, ⟨b1, b2, b3⟩, ⟨c1, c2⟩, d1⟩ := X.ne
  exact X.mut (c := a.S7) (by simp [own5]) k (.inl a3) (.inl ⟨b2, rfl, rfl⟩) (.inr z) (.inl ⟨Ne.symm d1, rfl⟩) (.inl ⟨c1, rfl, rfl⟩)
theorem LX.recvd (X : LX prog w h₀ h a room n Fw ls Gw Fk Ss Rs Gk Ek) (k : Keep [a.R7] h h') (z : SListAt h' (UW a ls) a.R7 Rs') : LX prog w h₀ h' a room n Fw ls Gw Fk Ss Rs' Gk Ek := by
  obtain ⟨⟨a1, a2, a3, a4⟩, ⟨b1, b2, b3⟩, ⟨c1, c2⟩, d1⟩ := X.ne
  exact X.mut (c := a.R7) (by simp [own5]) k (.inl a4) (.inl ⟨b3, rfl, rfl⟩) (.inl ⟨d1, rfl⟩) (.inr z) (.inl ⟨c2, rfl, rfl⟩)
/-- the watch turned -/
theorem LX.watch (X : LX prog w h₀ h a room n Fw ls Gw Fk Ss Rs Gk Ek) {S : List Addr} (hS : ∀ b ∈ S, b ∈ a.fp ls) (k : Keep S h h') (W : WS prog w h₀ h' a.x a.dx a.Dc a.Dl a.Dg Fw' ls' Gw') (fr : ∀ b ∈ a.fp ls', b ∈ a.fp ls ∨ h.get? b = none) :
    LX prog w h₀ h' a room n Fw' ls' Gw' Fk Ss Rs Gk Ek := by
  have lv := X.live
  have frU : ∀ b ∈ UW a ls', b ∈ UW a ls ∨ h.get? b = none := fun b hb => by
    rcases List.mem_append.mp hb with hb | hb
    · exact .inl (List.mem_append.mpr (.inl hb))
    · exact (fr b hb).imp (fun q => List.mem_append.mpr (.inr q)) id
  have ks : ∀ b f, SpanAt h (UW a ls) b f → SpanAt h' (UW a ls') b f := fun b f s =>
    ((s.grow (U' := UW a ls ++ UW a ls') fun b hb => by
      rcases List.mem_append.mp hb with hb | hb
      · exact .inl hb
      · exact frU b hb).tr k fun b hb => List.mem_append.mpr (.inl (List.mem_append.mpr (.inr (hS b hb)))) : SpanAt h' (UW a ls ++ UW a ls') b f).grow fun b hb => .inl (List.mem_append.mpr (.inr hb))
  have ke : ∀ {b}, b ∈ own5 a → ∀ o, h.get? b = some o → h'.get? b = some o := fun hb o e => k.at (fun q => X.ap _ hb (hS _ q)) e
  refine ⟨W, X.o, X.nd, fun b hb q => ?_, ?_, X.kn.imp (ke (by simp [own5])) ks, X.kl, X.ml, ⟨fun q => ?_, ?_⟩, X.rm, X.s7.imp (ke (by simp [own5])) ks, X.r7.imp (ke (by simp [own5])) ks, X.mks.imp (ke (by simp [own5])) ks⟩
  · rcases fr b q with q | q
    · exact X.ap b hb q
    · obtain ⟨o, e⟩ := lv b (List.mem_append.mpr (.inl hb))
      rw [q] at e; cases e
  · obtain ⟨u, v, s, b⟩ := X.src
    exact ⟨u, v, s.tr (ke (by simp [own5])), b⟩
  · rcases frU _ q with q | q
    · exact X.ln.1 q
    · obtain ⟨t, o, e, _⟩ := X.ln.2
      rw [q] at e; cases e
  · obtain ⟨t, i⟩ := X.ln.2
    exact ⟨t, i.at fun o e => k.at (fun q => X.ln.1 (List.mem_append.mpr (.inr (hS _ q)))) e⟩
end
end

section
open PySem PySem.W PyProof.Rows PySem.Calls
set_option maxRecDepth 100000
set_option Elab.async false
set_option maxHeartbeats 4000000
theorem kfill7f : PySem.Challenge.rw_on0015_01 = PySem.Challenge.rw_on0015_01 ∧ hd.heap_1 = hd.heap_1 := by
  k_fill
  exact ⟨rfl, rfl⟩
-- enter a plain def: its names and values
-- walk until a loop, a call or a step without a line
-- what lies on the anchor is apart from what it has not


def goF (F : Int → Int → Int) (k j : Int) : Int → Int → Int := upd (upd F k (tick (F k) k)) j (join (upd F k (tick (F k) k) j) (F k))
theorem cap_one {k : Int} (h : In4 k) : Cap (one k) := by
  refine ⟨fun j => by unfold one; split <;> omega, fun j hj => if_neg fun e => hj (by rw [e]; exact h), ?_⟩
  have h4 : k = 0 ∨ k = 1 ∨ k = 2 ∨ k = 3 := by unfold In4 at h; omega
  rcases h4 with rfl | rfl | rfl | rfl <;> decide
/-- a key more -/
theorem KnownAt.more {prog w} {h h' : Heap} {U : List Addr} {Kd D : Addr} {n : Nat} {F : Int → Int → Int} {kvs : List (Int × Value)}
    (hkeys : kvs.map (·.1) = (List.range n).map Int.ofNat) (hall : ∀ k : Int, 0 ≤ k → k < n → ∃ a, valueAt kvs k = some (.ref a) ∧ SpanAt h U a (F k)) (hD : h'.DictOf (intKind prog w) Kd (stored kvs n (.ref D)))
    (kk : Keep [Kd] h h') (kU : Kd ∈ U) (hs : SpanAt h' U D (F n)) : KnownAt prog w h' U Kd (n + 1) F := by
  have hno : ∀ q ∈ kvs, q.1 ≠ (n : Int) := fun q hq e => by
    have : q.1 ∈ (List.range n).map Int.ofNat := hkeys ▸ List.mem_map.mpr ⟨q, hq, rfl⟩
    obtain ⟨j, hj, e'⟩ := List.mem_map.mp this
    have hj := List.mem_range.mp hj
    rw [e] at e'
    have : j = n := by have : ((j : Nat) : Int) = n := e'; omega
    omega
  refine ⟨_, hD, ?_, fun j h1 h2 => ?_⟩
  · rw [stored_new hno, List.map_append, hkeys, List.range_succ, List.map_append]; rfl
  · rw [valueAt_stored]
    by_cases e : j = n
    · subst e; exact ⟨D, by rw [if_pos rfl], hs⟩
    · obtain ⟨a, b, c⟩ := hall j h1 (by push_cast at h2; omega)
      exact ⟨a, by rw [if_neg e]; exact b, c.tr kk (by simpa using kU)⟩

theorem allLt_mem {d : Nat} : ∀ {l : List (Addr × Obj)}, AllLt d l → ∀ p ∈ l, @LT.lt Nat _ p.1 d
  | [], _, _, h => nomatch h
  | q :: r, x, p, h => by
    rcases List.mem_cons.mp h with rfl | h
    · exact x.1
    · exact allLt_mem x.2 p h
theorem not_U {h₀ g : Heap} {U : List Addr} {l : Addr} (lt : AllLt l (dump h₀ g)) (live : ∀ b ∈ U, ∃ o, g.get? b = some o) (off : ∀ b ∈ U, h₀.get? b = none) : l ∉ U := fun q => by
  obtain ⟨o, e⟩ := live l q
  exact absurd (allLt_mem lt _ (mem_dump.mpr ⟨e, off l q⟩)) (Nat.lt_irrefl _)
section
variable {prog : Program} {w : World} {A : Around} {E : Value → Shared → Prop} {s : Shared}
theorem set_more {U : List Addr} {Kd l : Addr} {n : Nat} {F : Int → Int → Int} {t : Tok} {Q : Unit → Shared → Prop} (hK : KnownAt prog w s.heap U Kd n F) (kU : Kd ∈ U) (hs : SpanAt s.heap U l (F n)) (hn : n < 4)
    (h : ∀ h' tk, Keep [Kd] s.heap h' → KnownAt prog w h' U Kd (n + 1) F → Q () { s with heap := h', toks := tk }) : wpAny (model prog w) A (setItem (.ref Kd) (.int n t) (.ref l)) Q E s := by
  obtain ⟨kvs, hD, hkeys, hall⟩ := hK
  have hkl : kvs.length = n := by have := congrArg List.length hkeys; simpa using this
  refine wpAny_setItem_pairs (knd := intKind prog w) (k := (n : Int)) (intKind_is _ _ _ _) hD (fun h' hD' hs' => ?_) (by rw [sizeLine_eq]; omega)
  have kk := keep_dict hD hs'
  exact h _ _ kk (KnownAt.more hkeys hall hD' kk kU (hs.tr kk (by simpa using kU)))
end

theorem lgo_spec {prog p w loose mean mg mb} {A : Around} {E : Value → Shared → Prop} {s : Shared} {h₀ : Heap} (R : Room A 5) (KX : (hd.heap_1 w.params).In h₀) (T : Top p loose mean mg mb h₀)
   (S0 : Sub h₀ s.heap) (hz : h₀.objs.size ≤ s.heap.objs.size) {a : AD} {room : Int} {n : Nat} {F : Int → Int → Int} {ls : Int → Option Ln} {G : Int → Int} {Ss Rs : List (Int → Int)} {Gk Ek : Int → Int} {k : Int} {t : Tok}
   (X : LX prog w h₀ s.heap a room n F ls G F Ss Rs Gk Ek) (h0 : 0 ≤ k) (h1 : k < n) (hn : n < 4) (hc : Cap (F k)) (hun : F n = one n) {Q : Value → Shared → Prop}
   (hQ : ∀ h' tk, Keep (UW a ls) s.heap h' → LX prog w h₀ h' a room (n + 1) (goF F k n) ls G (goF F k n) Ss Rs Gk Ek → Q .none { s with heap := h', toks := tk }) :
   wpAny (model prog w) A (call (.ref 276) [.ref a.x, .ref a.Kd, .int k t]) Q E s := by
  k_call_by "enter" [(Str.ofString "watch", Value.ref a.x), (Str.ofString "known", Value.ref a.Kd), (Str.ofString "who", Value.int k t)]
  intro L h₁ A' R' hL F₁ N₁ SG
  have nL : ∀ b ∈ UW a ls, b ≠ L := fun b hb => by
    obtain ⟨o, ho⟩ := X.live b hb
    rw [hL]; exact Nat.ne_of_lt (Heap.lt_size ho)
  have m := X.mem
  have mw : ∀ b ∈ fpW a.x a.dx a.Dc a.Dl a.Dg ls, b ∈ UW a ls := fun b hb => List.mem_append.mpr (.inr hb)
  obtain ⟨e1, e2, e3, e4, e5, t1, t2, t3, t4, t5, Dp, Rl, nn, N₂⟩ := wi_news N₁ X.ws.cs.wi
  clear N₁
  obtain ⟨kvs, hD, hkeys, hall⟩ := id X.kn
  have hkl : kvs.length = n := by have := congrArg List.length hkeys; simpa using this
  walk_at "goC"
  refine call_len_dict (knd := intKind prog w) X.kl (dict_sub hD (SG _)) (by omega) ?_
  rw [hkl]
  walk_at "goC"
  rename Fr _ _ _ _ => F₁
  rename News _ _ _ _ => N₂
  have SS₁ : Sub s.heap _ := sub_of F₁ N₂ (fun p hp => .tail _ (.tail _ hp)) S0
  refine step [(a.x, _), (a.dx, _)] [a.Dc] [] (fun v h' => v = .none ∧ CS prog w h₀ h' a.x a.dx a.Dc a.Dl a.Dg (goF F k n)) F₁ N₂ S0 (by simpa using ⟨nL a.Dc (mw _ (by simp [fpW])), X.ws.cs.oc, X.ws.cs.nx, X.ws.cs.nd⟩) (by simp)
    (fun Q' q => go_spec (R'.le (by omega)) KX T F₁.keep (fr_size F₁) (X.ws.cs.sub SS₁) ⟨h0, by omega⟩ ⟨by omega, by omega⟩ fun h' tk kk C => q _ _ _ kk ⟨rfl, C⟩) ?_
  rintro v₂ h₂ tk₂ g₂ F₂ N₃ SG₂ SH₂ KG₂ KS₂ up₂ _ ⟨rfl, C₂⟩
  have C₂ := C₂.up (fun b hb => nL b (mw b (by unfold fpW; rcases hb with rfl | rfl | rfl <;> simp))) F₂.ns up₂
  have X₂ := X.watch (S := [a.Dc]) (by simp [AD.fp, fpW]) KG₂ (WS.clocks X.ws KG₂ C₂) fun b hb => .inl hb
  clear F₁ N₂
  have N₃ := news_tail (news' := dump h₀ g₂) N₃ (fun p hp => List.mem_append.mpr (.inr hp))
  walk_at "goC"
  rename Fr _ _ _ _ => F₂
  rename News _ _ _ _ => N₃
  rename _ ∧ AllLt _ _ => lt₃
  have SH₂ : Sub g₂ _ := sub_of F₂ N₃ (fun p hp => .tail _ (.tail _ hp)) SG₂
  have hone := show PL _ _ [((n : Int), 1)] from ⟨[.ref _], ⟨0, (N₃ _ (.head _)).1⟩, .cons ⟨_, _, _, rfl, 0, (N₃ _ (.tail _ (.head _))).1⟩ .nil⟩
  have N₃ := news_tail (news' := dump h₀ g₂) N₃ (fun p hp => .tail _ (.tail _ hp))
  refine step [] [a.Kd] [] (fun v h' => KnownAt prog w h' (UW a ls) a.Kd (n + 1) F) F₂ N₃ SG₂ (by simpa using ⟨nL a.Kd m.2.1, X.off _ m.2.1⟩) (by simp)
    (fun Q' q => set_more (X₂.kn.sub SH₂) m.2.1 ⟨not_U lt₃.2 X₂.live X₂.off, _, hone, by rw [hun]; exact rel_one⟩ hn fun h' tk kk K => q _ _ _ kk K) ?_
  rintro v₃ h₃ tk₃ g₃ F₃ N₄ SG₃ SH₃ KG₃ KS₃ up₃ _ K₃
  have K₃ := K₃.imp (fun o e => up₃ _ o e (nL _ m.2.1) (by simp)) fun b f x => x.up F₃.ns up₃
  have X₃ := X₂.known KG₃ K₃
  clear F₂ N₃
  dsimp only [List.nil_append] at N₄
  walk_at "goC"
  refine step [] [a.Kd] [] (fun v h' => ∃ D, v = .ref D ∧ KnownAt prog w h' (UW a ls) a.Kd (n + 1) (upd F k (tick (F k) k)) ∧ SpanAt h' (UW a ls) D (F k)) F₃ N₄ SG₃ (by simpa using ⟨nL a.Kd m.2.1, X.off _ m.2.1⟩) (by simp)
    (fun Q' q => ltold_spec (R'.le (by omega)) KX T F₃.keep (fr_size F₃) (X.off _ m.2.1) (X₃.sub SH₃).live (X₃.kn.sub SH₃) m.2.1 h0 (by push_cast; omega) (by omega) hc fun D h' tk kk K d => q _ _ _ kk ⟨D, rfl, K, d⟩) ?_
  rintro v₄ h₄ tk₄ g₄ F₄ N₅ SG₄ SH₄ KG₄ KS₄ up₄ _ ⟨D, rfl, K₄, d₄⟩
  have K₄ := K₄.imp (fun o e => up₄ _ o e (nL _ m.2.1) (by simp)) fun b f x => x.up F₄.ns up₄
  have d₄ := d₄.up F₄.ns up₄
  have X₄ := X₃.known KG₄ K₄
  clear F₃ N₄
  dsimp only [List.nil_append] at N₅
  walk_at "goC"
  have hkn : k ≠ n := by omega
  refine llearn_spec (R'.le (by omega)) KX T F₄.keep (fr_size F₄) (X.off _ m.2.1) (X₄.sub SH₄).live (X₄.kn.sub SH₄) m.2.1 (by omega) (by push_cast; omega) (by omega) (by rw [upd_ne (Ne.symm hkn), hun]; exact cap_one ⟨by omega, by omega⟩) hc (d₄.sub SH₄) fun h₅ tk₅ k₅ K₅ => ?_
  have F₅ := fr_keep F₄ k₅ (by simpa using (nL _ m.2.1).symm) (by simpa using X.off _ m.2.1)
  have N₆ : News h₀ L h₅ [] := News.nil
  have X₅ := (X₄.sub SH₄).known k₅ K₅
  clear F₄ N₅
  walk_at "goC"
  dsimp only
  exact hQ h₅ _ (((KG₂.mono (by simpa using mw a.Dc (by simp [fpW]))).trans ((KG₃.trans KG₄).mono (by simpa using m.2.1))).trans ((Keep.of_sub SH₄).trans (k₅.mono (by simpa using m.2.1)))) X₅
end

section
open PySem PySem.W PyProof.Rows PySem.Calls
set_option maxRecDepth 100000
set_option Elab.async false
set_option maxHeartbeats 4000000
theorem kfill7g : PySem.Challenge.rw_on0015_01 = PySem.Challenge.rw_on0015_01 ∧ hd.heap_1 = hd.heap_1 := by
  k_fill
  exact ⟨rfl, rfl⟩
-- enter a plain def: its names and values
-- walk until a loop, a call or a step without a line
-- what lies on the anchor is apart from what it has not


section
variable {prog : Program} {w : World} {A : Around} {E : Value → Shared → Prop} {s : Shared}
theorem slist_append {U : List Addr} {a b : Addr} {fs : List (Int → Int)} {f : Int → Int} {Q : Value → Shared → Prop} (x : SListAt s.heap U a fs) (aU : a ∈ U) (hv : SpanAt s.heap U b f) (hz : fs.length ≤ 1000)
    (h : ∀ h', Keep [a] s.heap h' → SListAt h' U a (fs ++ [f]) → Q .none { s with heap := h' }) : wpAny (model prog w) A (call (.builtin "list.append") [.ref a, .ref b]) Q E s := by
  obtain ⟨vs, hp, hc⟩ := x
  obtain ⟨n, ho⟩ := id hp
  refine append_at ho (fun h' hs ho' => ?_) (by rw [List.size_toArray, hc.length, sizeLine_eq]; omega)
  have k := Keep.of_same hs (plain_no_tup hp)
  refine h h' k ⟨vs ++ [.ref b], ⟨n + 1, ?_⟩, (hc.imp fun c g s => s.tr k (by simpa using aU)).snoc (hv.tr k (by simpa using aU))⟩
  rw [ho']; simp
end
theorem lsend_spec {prog p w loose mean mg mb} {A : Around} {E : Value → Shared → Prop} {s : Shared} {h₀ : Heap} (R : Room A 5) (KX : (hd.heap_1 w.params).In h₀) (T : Top p loose mean mg mb h₀)
   (S0 : Sub h₀ s.heap) (hz : h₀.objs.size ≤ s.heap.objs.size) {a : AD} {room : Int} {n : Nat} {F : Int → Int → Int} {ls : Int → Option Ln} {G : Int → Int} {Ss Rs : List (Int → Int)} {Gk Ek : Int → Int} {k : Int} {t : Tok}
   (X : LX prog w h₀ s.heap a room n F ls G F Ss Rs Gk Ek) (h0 : 0 ≤ k) (h1 : k < n) (hn : n ≤ 4) (hc : Cap (F k)) (hcr : ∀ f ∈ Rs, Cap f) (eS : sentOf (ls 7) = Ss) (eR : recvOf (ls 7) = Rs) (zS : Ss.length ≤ 100) (zR : Rs.length ≤ 100) (hroom : (Ss.length : Int) - Rs.length < room) (hct : Cap (tick (F k) k)) {Q : Value → Shared → Prop}
   (hQ : ∀ F' ls' h' tk, Keep (UW a ls) s.heap h' → LX prog w h₀ h' a room n F' ls' G F' (Ss ++ [F k]) Rs Gk Ek → sentOf (ls' 7) = Ss ++ [F k] → recvOf (ls' 7) = Rs → (∀ j, j ≠ 7 → ls' j = ls j) → (∀ b ∈ UW a ls', b ∈ UW a ls ∨ s.heap.get? b = none) →
     (F' = upd F k (tick (F k) k) ∨ ∃ fr ∈ Rs, F' = upd (upd F k (tick (F k) k)) k (join (upd F k (tick (F k) k) k) fr)) → Q .none { s with heap := h', toks := tk }) :
   wpAny (model prog w) A (call (.ref 283) [.ref a.x, .ref a.Kd, .int k t, .ref a.Ls]) Q E s := by
  k_call_by "enter" [(Str.ofString "watch", Value.ref a.x), (Str.ofString "known", Value.ref a.Kd), (Str.ofString "who", Value.int k t), (Str.ofString "line", Value.ref a.Ls)]
  intro L h₁ A' R' hL F₁ N₁ SG
  have nL : ∀ b ∈ UW a ls, b ≠ L := fun b hb => by
    obtain ⟨o, ho⟩ := X.live b hb
    rw [hL]; exact Nat.ne_of_lt (Heap.lt_size ho)
  have m := X.mem
  have mw : ∀ b ∈ fpW a.x a.dx a.Dc a.Dl a.Dg ls, b ∈ UW a ls := fun b hb => List.mem_append.mpr (.inr hb)
  obtain ⟨e1, e2, e3, e4, e5, t1, t2, t3, t4, t5, Dp, Rl, nn, N₂⟩ := wi_news N₁ X.ws.cs.wi
  clear N₁
  obtain ⟨lnU, tr, hLs⟩ := X.ln
  walk_at "goC"
  rename Fr _ _ _ _ => F₁
  rename News _ _ _ _ => N₂
  have SS₁ : Sub s.heap _ := sub_of F₁ N₂ (fun p hp => .tail _ (.tail _ hp)) S0
  refine list_item (v := .int room tr) (hLs.at (SS₁ _)) (by decide) (Nat.le_of_ble_eq_true rfl) rfl ?_
  walk_at "goC"
  have N₃ := news_tail (news' := dump h₀ s.heap) N₂ (fun p hp => .tail _ (.tail _ hp))
  refine step [] (fpW a.x a.dx a.Dc a.Dl a.Dg ls) [] (fun v h' => ∃ F' ls' l, v = .none ∧ WS prog w h₀ h' a.x a.dx a.Dc a.Dl a.Dg F' ls' G ∧ ls' 7 = some l ∧ l.sent = sentOf (ls 7) ++ [F k] ∧ l.recv = recvOf (ls 7) ∧ (∀ j, j ≠ 7 → ls' j = ls j) ∧
      (∀ b ∈ fpW a.x a.dx a.Dc a.Dl a.Dg ls', b ∈ fpW a.x a.dx a.Dc a.Dl a.Dg ls ∨ h₁.get? b = none) ∧
      ((¬ (0 ≤ ((sentOf (ls 7)).length : Int) - room ∧ ((sentOf (ls 7)).length : Int) - room < (recvOf (ls 7)).length) ∧ F' = upd F k (tick (F k) k)) ∨
        ∃ fr, 0 ≤ ((sentOf (ls 7)).length : Int) - room ∧ (recvOf (ls 7))[(((sentOf (ls 7)).length : Int) - room).toNat]? = some fr ∧ F' = upd (upd F k (tick (F k) k)) k (join (tick (F k) k) fr))) F₁ N₃ S0
    (fun b hb => ⟨nL b (mw b hb), X.ws.own b hb, by simp⟩) (by simp)
    (fun Q' q => send_spec (R'.le (by omega)) KX T F₁.keep (fr_size F₁) (X.ws.sub SS₁) ⟨h0, by omega⟩ (.inl rfl) (by rw [eS]; exact zS) (by rw [eR]; exact zR) fun F' ls' l h' tk kk W b c d e f g i => q _ _ _ kk ⟨F', ls', l, rfl, W, b, c, d, f, g, i⟩) ?_
  rintro v₂ h₂ tk₂ g₂ F₂ N₄ SG₂ SH₂ KG₂ KS₂ up₂ _ ⟨F', ls', l, rfl, W₂, hl, hsent, hrecv, hlo, hfr, hcase⟩
  have nf₂ : ∀ b ∈ fpW a.x a.dx a.Dc a.Dl a.Dg ls', b ≠ L := fun b hb => (hfr b hb).elim (fun q => nL b (mw b q)) fun q => fresh_ne F₁.ns q
  have W₂ := WS.up W₂ nf₂ F₂.ns up₂
  have fr₂ : ∀ b ∈ a.fp ls', b ∈ a.fp ls ∨ s.heap.get? b = none := fun b hb => (hfr b hb).imp id fun q => sub_none SS₁ q
  have X₂ := X.watch (S := fpW a.x a.dx a.Dc a.Dl a.Dg ls) (fun b hb => hb) KG₂ W₂ fr₂
  have frU : ∀ b ∈ UW a ls', b ∈ UW a ls ∨ s.heap.get? b = none := fun b hb => by
    rcases List.mem_append.mp hb with hb | hb
    · exact .inl (List.mem_append.mpr (.inl hb))
    · exact (fr₂ b hb).imp (fun q => mw b q) id
  have m := X₂.mem
  have nU : ∀ b ∈ UW a ls', b ≠ L := fun b hb => by
    rcases List.mem_append.mp hb with hb | hb
    · exact nL b (List.mem_append.mpr (.inl hb))
    · exact nf₂ b hb
  clear F₁
  dsimp only [List.nil_append] at N₄
  obtain ⟨lnU₂, tr₂, hLs₂⟩ := X₂.ln
  obtain ⟨vs7, hp7, hs7⟩ := X₂.s7
  clear N₂ N₃
  walk_at "goC"
  refine list_item (v := .ref a.S7) (hLs₂.at (SH₂ _)) (by decide) (Nat.le_of_ble_eq_true rfl) rfl ?_
  walk_at "goC"
  refine getM_append (hp7.at (SH₂ _)) ?_
  walk_at "goC"
  refine step [] [a.Kd] [] (fun v h' => ∃ D, v = .ref D ∧ KnownAt prog w h' (UW a ls') a.Kd n (upd F k (tick (F k) k)) ∧ SpanAt h' (UW a ls') D (F k)) F₂ N₄ SG₂ (by simpa using ⟨nU a.Kd m.2.1, X₂.off _ m.2.1⟩) (by simp)
    (fun Q' q => ltold_spec (R'.le (by omega)) KX T F₂.keep (fr_size F₂) (X₂.off _ m.2.1) (X₂.sub SH₂).live (X₂.kn.sub SH₂) m.2.1 h0 h1 (by omega) hc fun D h' tk kk K d => q _ _ _ kk ⟨D, rfl, K, d⟩) ?_
  rintro v₃ h₃ tk₃ g₃ F₃ N₅ SG₃ SH₃ KG₃ KS₃ up₃ _ ⟨D, rfl, K₃, d⟩
  have K₃ := K₃.imp (fun o e => up₃ _ o e (nU _ m.2.1) (by simp)) fun b f x => x.up F₃.ns up₃
  have d := d.up F₃.ns up₃
  have X₃ := X₂.known KG₃ K₃
  clear F₂ N₄
  dsimp only [List.nil_append] at N₅
  walk_at "goC"
  refine step [] [a.S7] [] (fun v h' => v = .none ∧ SListAt h' (UW a ls') a.S7 (Ss ++ [F k])) F₃ N₅ SG₃ (by simpa using ⟨nU a.S7 m.2.2.2.1, X₃.off _ m.2.2.2.1⟩) (by simp)
    (fun Q' q => slist_append (X₃.sub SH₃).s7 m.2.2.2.1 (d.sub SH₃) (by omega) fun h' kk y => q _ _ _ kk ⟨rfl, y⟩) ?_
  rintro v₄ h₄ tk₄ g₄ F₄ N₆ SG₄ SH₄ KG₄ KS₄ up₄ _ ⟨rfl, y₄⟩
  have X₄ := X₃.sent KG₄ (y₄.imp (fun o e => up₄ _ o e (nU _ m.2.2.2.1) (by simp)) fun b f x => x.up F₄.ns up₄)
  clear F₃ N₅
  dsimp only [List.nil_append] at N₆
  obtain ⟨lnU₄, tr₄, hLs₄⟩ := X₄.ln
  obtain ⟨ws7, hq7, hr7⟩ := id X₄.s7
  obtain ⟨ws8, hq8, hr8⟩ := id X₄.r7
  walk_at "goC"
  refine list_item (v := .ref a.S7) (hLs₄.at (SH₄ _)) (by decide) (Nat.le_of_ble_eq_true rfl) rfl ?_
  walk_at "goC"
  have hz7 : ((List.toArray ws7).size : Int) = (Ss.length : Int) + 1 := by rw [List.size_toArray, hr7.length]; simp
  refine call_len_list (hq7.isList.at (SH₄ _)) (by rw [hz7]; omega) ?_
  walk_at "goC"
  refine list_item (v := .int room tr₄) (hLs₄.at (SH₄ _)) (by decide) (Nat.le_of_ble_eq_true rfl) rfl ?_
  walk_at "goC"
  · rename 1 ≤ _ => hge
    rename Fr _ _ _ _ => F₅
    rename News _ _ _ _ => N₇
    rw [hz7] at hge
    have SH₅ : Sub g₄ _ := sub_of F₅ N₇ (fun p hp => hp) SG₄
    have SG₅ := SG₄
    have X₅ := X₄
    refine list_item (v := .ref a.R7) (hLs₄.at (SH₅ _)) (by decide) (Nat.le_of_ble_eq_true rfl) rfl ?_
    walk_at "goC"
    rcases hcase with ⟨hno, _⟩ | ⟨fr, hfr0, hfr1, e⟩
    · rw [eS, eR] at hno
      exact absurd ⟨by omega, by omega⟩ hno
    rw [eS, eR] at hfr1
    have e : F' = upd (upd F k (tick (F k) k)) k (join (upd F k (tick (F k) k) k) fr) := by rw [upd_same]; exact e
    subst e
    obtain ⟨b, hb1, hb2⟩ := hr8.get hfr1
    have e1 : ((List.toArray ws7).size : Int) - room - 1 = (Ss.length : Int) - room := by rw [hz7]; omega
    refine list_item (v := .ref b) (hq8.isList.at (SH₅ _)) (by rw [e1]; omega) (by rw [List.size_toArray, hr8.length]; omega) (by rw [e1, List.getElem?_toArray]; exact hb1) ?_
    walk_at "goC"
    refine step [] [a.Kd] [] (fun v h' => v = .none ∧ KnownAt prog w h' (UW a ls') a.Kd n (upd (upd F k (tick (F k) k)) k (join ((upd F k (tick (F k) k)) k) fr))) F₅ N₇ SG₅ (by simpa using ⟨nU a.Kd m.2.1, X₅.off _ m.2.1⟩) (by simp)
      (fun Q' q => llearn_spec (R'.le (by omega)) KX T F₅.keep (fr_size F₅) (X₅.off _ m.2.1) (X₅.sub SH₅).live (X₅.kn.sub SH₅) m.2.1 h0 h1 (by omega) (by rw [upd_same]; exact hct) (hcr fr (List.mem_of_getElem? hfr1)) (hb2.sub SH₅) fun h' tk kk K => q _ _ _ kk ⟨rfl, K⟩) ?_
    rintro v₆ h₆ tk₆ g₆ F₆ N₈ SG₆ SH₆ KG₆ KS₆ up₆ _ ⟨rfl, K₆⟩
    have K₆ := K₆.imp (fun o e => up₆ _ o e (nU _ m.2.1) (by simp)) fun b f x => x.up F₆.ns up₆
    have X₆ := X₅.known KG₆ K₆
    clear F₅ N₇
    dsimp only [List.nil_append] at N₈
    walk_at "goC"
    dsimp only
    exact hQ _ ls' h₆ _ (((((KG₂.mono mw).trans (KG₃.mono (by simp [UW, own5]))).trans (KG₄.mono (by simp [UW, own5]))).trans (KG₆.mono (by simp [UW, own5]))).trans (Keep.of_sub SH₆)) (X₆.sub SH₆) (by rw [hl]; exact hsent.trans (by rw [eS])) (by rw [hl]; exact hrecv.trans eR) hlo frU
      (.inr ⟨fr, List.mem_of_getElem? hfr1, rfl⟩)
  · rename ¬ 1 ≤ _ => hge
    rename Fr _ _ _ _ => F₅
    rename News _ _ _ _ => N₇
    rw [hz7] at hge
    have SH₅ : Sub g₄ _ := sub_of F₅ N₇ (fun p hp => hp) SG₄
    rcases hcase with ⟨hno, e⟩ | ⟨fr, hfr0, hfr1, e⟩
    · subst e
      dsimp only
      exact hQ _ ls' _ _ ((((KG₂.mono mw).trans (KG₃.mono (by simp [UW, own5]))).trans (KG₄.mono (by simp [UW, own5]))).trans (Keep.of_sub SH₅)) (X₄.sub SH₅) (by rw [hl]; exact hsent.trans (by rw [eS])) (by rw [hl]; exact hrecv.trans eR) hlo frU (.inl rfl)
    · rw [eS] at hfr0
      omega
end

section
open PySem PySem.W PyProof.Rows PySem.Calls
set_option maxRecDepth 100000
set_option Elab.async false
set_option maxHeartbeats 4000000
theorem kfill7h : PySem.Challenge.rw_on0015_01 = PySem.Challenge.rw_on0015_01 ∧ hd.heap_1 = hd.heap_1 := by
  k_fill
  exact ⟨rfl, rfl⟩
-- enter a plain def: its names and values
-- walk until a loop, a call or a step without a line
-- what lies on the anchor is apart from what it has not

theorem lrecv_spec {prog p w loose mean mg mb} {A : Around} {E : Value → Shared → Prop} {s : Shared} {h₀ : Heap} (R : Room A 5) (KX : (hd.heap_1 w.params).In h₀) (T : Top p loose mean mg mb h₀)
   (S0 : Sub h₀ s.heap) (hz : h₀.objs.size ≤ s.heap.objs.size) {a : AD} {room : Int} {n : Nat} {F : Int → Int → Int} {ls : Int → Option Ln} {G : Int → Int} {Ss Rs : List (Int → Int)} {Gk Ek : Int → Int} {k : Int} {t : Tok}
   (X : LX prog w h₀ s.heap a room n F ls G F Ss Rs Gk Ek) (h0 : 0 ≤ k) (h1 : k < n) (hn : n ≤ 4) (hc : Cap (F k)) (eS : sentOf (ls 7) = Ss) (eR : recvOf (ls 7) = Rs) (zS : Ss.length ≤ 100) (zR : Rs.length ≤ 100) {fs : Int → Int} (hfs : Ss[Rs.length]? = some fs) (hcs : Cap fs) (hct : Cap (tick (F k) k)) {Q : Value → Shared → Prop}
   (hQ : ∀ F' ls' h' tk, Keep (UW a ls) s.heap h' → LX prog w h₀ h' a room n F' ls' G F' Ss (Rs ++ [F k]) Gk Ek → sentOf (ls' 7) = Ss → recvOf (ls' 7) = Rs ++ [F k] → (∀ j, j ≠ 7 → ls' j = ls j) → (∀ b ∈ UW a ls', b ∈ UW a ls ∨ s.heap.get? b = none) →
     (F' = upd (upd F k (tick (F k) k)) k (join (upd F k (tick (F k) k) k) fs)) → Q .none { s with heap := h', toks := tk }) :
   wpAny (model prog w) A (call (.ref 290) [.ref a.x, .ref a.Kd, .int k t, .ref a.Ls]) Q E s := by
  k_call_by "enter" [(Str.ofString "watch", Value.ref a.x), (Str.ofString "known", Value.ref a.Kd), (Str.ofString "who", Value.int k t), (Str.ofString "line", Value.ref a.Ls)]
  intro L h₁ A' R' hL F₁ N₁ SG
  have nL : ∀ b ∈ UW a ls, b ≠ L := fun b hb => by
    obtain ⟨o, ho⟩ := X.live b hb
    rw [hL]; exact Nat.ne_of_lt (Heap.lt_size ho)
  have m := X.mem
  have mw : ∀ b ∈ fpW a.x a.dx a.Dc a.Dl a.Dg ls, b ∈ UW a ls := fun b hb => List.mem_append.mpr (.inr hb)
  obtain ⟨e1, e2, e3, e4, e5, t1, t2, t3, t4, t5, Dp, Rl, nn, N₂⟩ := wi_news N₁ X.ws.cs.wi
  clear N₁
  obtain ⟨lnU, tr, hLs⟩ := X.ln
  walk_at "goC"
  rename Fr _ _ _ _ => F₁
  rename News _ _ _ _ => N₂
  have SS₁ : Sub s.heap _ := sub_of F₁ N₂ (fun p hp => .tail _ (.tail _ hp)) S0
  refine list_item (v := .int room tr) (hLs.at (SS₁ _)) (by decide) (Nat.le_of_ble_eq_true rfl) rfl ?_
  walk_at "goC"
  have N₃ := news_tail (news' := dump h₀ s.heap) N₂ (fun p hp => .tail _ (.tail _ hp))
  refine step [] (fpW a.x a.dx a.Dc a.Dl a.Dg ls) [] (fun v h' => ∃ F' ls' l, v = .none ∧ WS prog w h₀ h' a.x a.dx a.Dc a.Dl a.Dg F' ls' G ∧ ls' 7 = some l ∧ l.sent = sentOf (ls 7) ∧ l.recv = recvOf (ls 7) ++ [F k] ∧ (∀ j, j ≠ 7 → ls' j = ls j) ∧
      (∀ b ∈ fpW a.x a.dx a.Dc a.Dl a.Dg ls', b ∈ fpW a.x a.dx a.Dc a.Dl a.Dg ls ∨ h₁.get? b = none) ∧ F' = upd (upd F k (tick (F k) k)) k (join (tick (F k) k) fs)) F₁ N₃ S0
    (fun b hb => ⟨nL b (mw b hb), X.ws.own b hb, by simp⟩) (by simp)
    (fun Q' q => receive_spec (R'.le (by omega)) KX T F₁.keep (fr_size F₁) (X.ws.sub SS₁) ⟨h0, by omega⟩ (.inl rfl) (by rw [eS]; exact zS) (by rw [eR]; exact zR) (by rw [eS, eR]; exact hfs) fun ls' l h' tk kk W b c d e f g => q _ _ _ kk ⟨_, ls', l, rfl, W, b, c, d, f, g, rfl⟩) ?_
  rintro v₂ h₂ tk₂ g₂ F₂ N₄ SG₂ SH₂ KG₂ KS₂ up₂ _ ⟨F', ls', l, rfl, W₂, hl, hsent, hrecv, hlo, hfr, hcase⟩
  have nf₂ : ∀ b ∈ fpW a.x a.dx a.Dc a.Dl a.Dg ls', b ≠ L := fun b hb => (hfr b hb).elim (fun q => nL b (mw b q)) fun q => fresh_ne F₁.ns q
  have W₂ := WS.up W₂ nf₂ F₂.ns up₂
  have fr₂ : ∀ b ∈ a.fp ls', b ∈ a.fp ls ∨ s.heap.get? b = none := fun b hb => (hfr b hb).imp id fun q => sub_none SS₁ q
  have X₂ := X.watch (S := fpW a.x a.dx a.Dc a.Dl a.Dg ls) (fun b hb => hb) KG₂ W₂ fr₂
  have frU : ∀ b ∈ UW a ls', b ∈ UW a ls ∨ s.heap.get? b = none := fun b hb => by
    rcases List.mem_append.mp hb with hb | hb
    · exact .inl (List.mem_append.mpr (.inl hb))
    · exact (fr₂ b hb).imp (fun q => mw b q) id
  have m := X₂.mem
  have nU : ∀ b ∈ UW a ls', b ≠ L := fun b hb => by
    rcases List.mem_append.mp hb with hb | hb
    · exact nL b (List.mem_append.mpr (.inl hb))
    · exact nf₂ b hb
  clear F₁
  dsimp only [List.nil_append] at N₄
  have e : F' = upd (upd F k (tick (F k) k)) k (join (upd F k (tick (F k) k) k) fs) := by rw [upd_same]; exact hcase
  subst e
  obtain ⟨lnU₂, tr₂, hLs₂⟩ := X₂.ln
  obtain ⟨vs7, hp7, hs7⟩ := X₂.r7
  have hz7 : ((List.toArray vs7).size : Int) = (Rs.length : Int) := by rw [List.size_toArray, hs7.length]
  clear N₂ N₃
  walk_at "goC"
  refine list_item (v := .ref a.R7) (hLs₂.at (SH₂ _)) (by decide) (Nat.le_of_ble_eq_true rfl) rfl ?_
  walk_at "goC"
  refine call_len_list (hp7.isList.at (SH₂ _)) (by rw [hz7]; omega) ?_
  walk_at "goC"
  rename Fr _ _ _ _ => F₂
  rename News _ _ _ _ => N₄
  have SH₂ : Sub g₂ _ := sub_of F₂ N₄ (fun p hp => hp) SG₂
  refine list_item (v := .ref a.R7) (hLs₂.at (SH₂ _)) (by decide) (Nat.le_of_ble_eq_true rfl) rfl ?_
  walk_at "goC"
  refine getM_append (hp7.at (SH₂ _)) ?_
  walk_at "goC"
  refine step [] [a.Kd] [] (fun v h' => ∃ D, v = .ref D ∧ KnownAt prog w h' (UW a ls') a.Kd n (upd F k (tick (F k) k)) ∧ SpanAt h' (UW a ls') D (F k)) F₂ N₄ SG₂ (by simpa using ⟨nU a.Kd m.2.1, X₂.off _ m.2.1⟩) (by simp)
    (fun Q' q => ltold_spec (R'.le (by omega)) KX T F₂.keep (fr_size F₂) (X₂.off _ m.2.1) (X₂.sub SH₂).live (X₂.kn.sub SH₂) m.2.1 h0 h1 (by omega) hc fun D h' tk kk K d => q _ _ _ kk ⟨D, rfl, K, d⟩) ?_
  rintro v₃ h₃ tk₃ g₃ F₃ N₅ SG₃ SH₃ KG₃ KS₃ up₃ _ ⟨D, rfl, K₃, d⟩
  have K₃ := K₃.imp (fun o e => up₃ _ o e (nU _ m.2.1) (by simp)) fun b f x => x.up F₃.ns up₃
  have d := d.up F₃.ns up₃
  have X₃ := X₂.known KG₃ K₃
  clear F₂ N₄
  dsimp only [List.nil_append] at N₅
  walk_at "goC"
  refine step [] [a.R7] [] (fun v h' => v = .none ∧ SListAt h' (UW a ls') a.R7 (Rs ++ [F k])) F₃ N₅ SG₃ (by simpa using ⟨nU a.R7 m.2.2.2.2, X₃.off _ m.2.2.2.2⟩) (by simp)
    (fun Q' q => slist_append (X₃.sub SH₃).r7 m.2.2.2.2 (d.sub SH₃) (by omega) fun h' kk y => q _ _ _ kk ⟨rfl, y⟩) ?_
  rintro v₄ h₄ tk₄ g₄ F₄ N₆ SG₄ SH₄ KG₄ KS₄ up₄ _ ⟨rfl, y₄⟩
  have X₄ := X₃.recvd KG₄ (y₄.imp (fun o e => up₄ _ o e (nU _ m.2.2.2.2) (by simp)) fun b f x => x.up F₄.ns up₄)
  clear F₃ N₅
  dsimp only [List.nil_append] at N₆
  obtain ⟨lnU₄, tr₄, hLs₄⟩ := X₄.ln
  obtain ⟨ws7, hq7, hr7⟩ := id X₄.s7
  walk_at "goC"
  refine list_item (v := .ref a.S7) (hLs₄.at (SH₄ _)) (by decide) (Nat.le_of_ble_eq_true rfl) rfl ?_
  walk_at "goC"
  obtain ⟨b, hb1, hb2⟩ := hr7.get hfs
  refine list_item (v := .ref b) (hq7.isList.at (SH₄ _)) (by rw [hz7]; omega) (by rw [List.size_toArray, hr7.length]; omega) (by rw [hz7, List.getElem?_toArray]; simpa using hb1) ?_
  walk_at "goC"
  refine step [] [a.Kd] [] (fun v h' => v = .none ∧ KnownAt prog w h' (UW a ls') a.Kd n (upd (upd F k (tick (F k) k)) k (join ((upd F k (tick (F k) k)) k) fs))) F₄ N₆ SG₄ (by simpa using ⟨nU a.Kd m.2.1, X₄.off _ m.2.1⟩) (by simp)
    (fun Q' q => llearn_spec (R'.le (by omega)) KX T F₄.keep (fr_size F₄) (X₄.off _ m.2.1) (X₄.sub SH₄).live (X₄.kn.sub SH₄) m.2.1 h0 h1 (by omega) (by rw [upd_same]; exact hct) hcs (hb2.sub SH₄) fun h' tk kk K => q _ _ _ kk ⟨rfl, K⟩) ?_
  rintro v₆ h₆ tk₆ g₆ F₆ N₈ SG₆ SH₆ KG₆ KS₆ up₆ _ ⟨rfl, K₆⟩
  have K₆ := K₆.imp (fun o e => up₆ _ o e (nU _ m.2.1) (by simp)) fun b f x => x.up F₆.ns up₆
  have X₆ := X₄.known KG₆ K₆
  clear F₄ N₆
  dsimp only [List.nil_append] at N₈
  walk_at "goC"
  dsimp only
  exact hQ _ ls' h₆ _ (((((KG₂.mono mw).trans (KG₃.mono (by simp [UW, own5]))).trans (KG₄.mono (by simp [UW, own5]))).trans (KG₆.mono (by simp [UW, own5]))).trans (Keep.of_sub SH₆)) (X₆.sub SH₆) (by rw [hl]; exact hsent.trans eS) (by rw [hl]; exact hrecv.trans (by rw [eR])) hlo frU rfl
end

section
open PySem PySem.W PyProof.Rows PySem.Calls
set_option maxRecDepth 100000
set_option Elab.async false
set_option maxHeartbeats 4000000
theorem kfill7i : PySem.Challenge.rw_on0015_01 = PySem.Challenge.rw_on0015_01 ∧ hd.heap_1 = hd.heap_1 := by
  k_fill
  exact ⟨rfl, rfl⟩
-- enter a plain def: its names and values
-- walk until a loop, a call or a step without a line
-- what lies on the anchor is apart from what it has not

theorem lhand_spec {prog p w loose mean mg mb} {A : Around} {E : Value → Shared → Prop} {s : Shared} {h₀ : Heap} (R : Room A 6) (KX : (hd.heap_1 w.params).In h₀) (T : Top p loose mean mg mb h₀)
   (S0 : Sub h₀ s.heap) (hz : h₀.objs.size ≤ s.heap.objs.size) {a : AD} {room : Int} {n : Nat} {F : Int → Int → Int} {ls : Int → Option Ln} {G : Int → Int} {Ss Rs : List (Int → Int)} {Gk Ek : Int → Int} {k : Int} {t : Tok}
   (X : LX prog w h₀ s.heap a room n F ls G F Ss Rs Gk Ek) (h0 : 0 ≤ k) (h1 : k < n) (hn : n ≤ 4) {j : Int} {u : Tok} (j0 : 0 ≤ j) (j1 : j < n) (hc : Cap (F k)) (hc2 : Cap ((upd F k (tick (F k) k)) j)) (hc3 : Cap ((upd (upd F k (tick (F k) k)) j (tick ((upd F k (tick (F k) k)) j) j)) k)) (hc4 : Cap ((upd (upd (upd F k (tick (F k) k)) j (tick ((upd F k (tick (F k) k)) j) j)) k (join ((upd (upd F k (tick (F k) k)) j (tick ((upd F k (tick (F k) k)) j) j)) k) ((upd F k (tick (F k) k)) j))) j)) (zS : (sentOf (ls 8)).length ≤ 100) (zR : (recvOf (ls 8)).length ≤ 100) {Q : Value → Shared → Prop}
   (hQ : ∀ F' ls' h' tk, Keep (UW a ls) s.heap h' → LX prog w h₀ h' a room n F' ls' G F' Ss Rs Gk Ek → (sentOf (ls' 8)).length = (sentOf (ls 8)).length + 1 → (recvOf (ls' 8)).length = (recvOf (ls 8)).length + 1 → feOf (ls' 8) = feOf (ls 8) → (∀ j, j ≠ 8 → ls' j = ls j) → (∀ b ∈ UW a ls', b ∈ UW a ls ∨ s.heap.get? b = none) →
     F' = handF F k j → Q .none { s with heap := h', toks := tk }) :
   wpAny (model prog w) A (call (.ref 297) [.ref a.x, .ref a.Kd, .int k t, .int j u]) Q E s := by
  k_call_by "enter" [(Str.ofString "watch", Value.ref a.x), (Str.ofString "known", Value.ref a.Kd), (Str.ofString "who", Value.int k t), (Str.ofString "other", Value.int j u)]
  intro L h₁ A' R' hL F₁ N₁ SG
  have nL : ∀ b ∈ UW a ls, b ≠ L := fun b hb => by
    obtain ⟨o, ho⟩ := X.live b hb
    rw [hL]; exact Nat.ne_of_lt (Heap.lt_size ho)
  have m := X.mem
  have mw : ∀ b ∈ fpW a.x a.dx a.Dc a.Dl a.Dg ls, b ∈ UW a ls := fun b hb => List.mem_append.mpr (.inr hb)
  obtain ⟨e1, e2, e3, e4, e5, t1, t2, t3, t4, t5, Dp, Rl, nn, N₂⟩ := wi_news N₁ X.ws.cs.wi
  clear N₁
  walk_at "goC"
  have SS₁ : Sub s.heap h₁ := SG
  have N₃ := news_tail (news' := dump h₀ s.heap) N₂ (fun p hp => .tail _ (.tail _ hp))
  refine step [] (fpW a.x a.dx a.Dc a.Dl a.Dg ls) [] (fun v h' => ∃ F' ls' l, v = .none ∧ WS prog w h₀ h' a.x a.dx a.Dc a.Dl a.Dg F' ls' G ∧ ls' 8 = some l ∧ l.sent = sentOf (ls 8) ++ [F k] ∧ l.recv = recvOf (ls 8) ++ [upd F k (tick (F k) k) j] ∧ l.fe = feOf (ls 8) ∧ (∀ j, j ≠ 8 → ls' j = ls j) ∧
      (∀ b ∈ fpW a.x a.dx a.Dc a.Dl a.Dg ls', b ∈ fpW a.x a.dx a.Dc a.Dl a.Dg ls ∨ h₁.get? b = none) ∧ F' = handF F k j) F₁ N₃ S0
    (fun b hb => ⟨nL b (mw b hb), X.ws.own b hb, by simp⟩) (by simp)
    (fun Q' q => hand_spec (R'.le (by omega)) KX T F₁.keep (fr_size F₁) (X.ws.sub SS₁) ⟨h0, by omega⟩ ⟨j0, by omega⟩ (.inr rfl) zS zR fun ls' l h' tk kk W b c d e f g => q _ _ _ kk ⟨_, ls', l, rfl, W, b, c, d, e, f, g, rfl⟩) ?_
  rintro v₂ h₂ tk₂ g₂ F₂ N₄ SG₂ SH₂ KG₂ KS₂ up₂ _ ⟨F', ls', l, rfl, W₂, hl, hsent, hrecv, hfe, hlo, hfr, hcase⟩
  have nf₂ : ∀ b ∈ fpW a.x a.dx a.Dc a.Dl a.Dg ls', b ≠ L := fun b hb => (hfr b hb).elim (fun q => nL b (mw b q)) fun q => fresh_ne F₁.ns q
  have W₂ := WS.up W₂ nf₂ F₂.ns up₂
  have fr₂ : ∀ b ∈ a.fp ls', b ∈ a.fp ls ∨ s.heap.get? b = none := fun b hb => (hfr b hb).imp id fun q => sub_none SS₁ q
  have X₂ := X.watch (S := fpW a.x a.dx a.Dc a.Dl a.Dg ls) (fun b hb => hb) KG₂ W₂ fr₂
  have frU : ∀ b ∈ UW a ls', b ∈ UW a ls ∨ s.heap.get? b = none := fun b hb => by
    rcases List.mem_append.mp hb with hb | hb
    · exact .inl (List.mem_append.mpr (.inl hb))
    · exact (fr₂ b hb).imp (fun q => mw b q) id
  have m := X₂.mem
  have nU : ∀ b ∈ UW a ls', b ≠ L := fun b hb => by
    rcases List.mem_append.mp hb with hb | hb
    · exact nL b (List.mem_append.mpr (.inl hb))
    · exact nf₂ b hb
  clear F₁
  dsimp only [List.nil_append] at N₄
  clear N₂ N₃
  walk_at "goC"
  refine step [] [a.Kd] [] (fun v h' => ∃ D, v = .ref D ∧ KnownAt prog w h' (UW a ls') a.Kd n (upd F k (tick (F k) k)) ∧ SpanAt h' (UW a ls') D (F k)) F₂ N₄ SG₂ (by simpa using ⟨nU a.Kd m.2.1, X₂.off _ m.2.1⟩) (by simp)
    (fun Q' q => ltold_spec (R'.le (by omega)) KX T F₂.keep (fr_size F₂) (X₂.off _ m.2.1) (X₂.sub SH₂).live (X₂.kn.sub SH₂) m.2.1 h0 h1 (by omega) hc fun D h' tk kk K d => q _ _ _ kk ⟨D, rfl, K, d⟩) ?_
  rintro v₃ h₃ tk₃ g₃ F₃ N₅ SG₃ SH₃ KG₃ KS₃ up₃ _ ⟨D, rfl, K₃, d⟩
  have K₃ := K₃.imp (fun o e => up₃ _ o e (nU _ m.2.1) (by simp)) fun b f x => x.up F₃.ns up₃
  have d := d.up F₃.ns up₃
  have X₃ := X₂.known KG₃ K₃
  clear F₂ N₄
  dsimp only [List.nil_append] at N₅
  walk_at "goC"
  refine step [] [a.Kd] [] (fun v h' => ∃ D, v = .ref D ∧ KnownAt prog w h' (UW a ls') a.Kd n (upd (upd F k (tick (F k) k)) j (tick ((upd F k (tick (F k) k)) j) j)) ∧ SpanAt h' (UW a ls') D ((upd F k (tick (F k) k)) j)) F₃ N₅ SG₃ (by simpa using ⟨nU a.Kd m.2.1, X₃.off _ m.2.1⟩) (by simp)
    (fun Q' q => ltold_spec (R'.le (by omega)) KX T F₃.keep (fr_size F₃) (X₃.off _ m.2.1) (X₃.sub SH₃).live (X₃.kn.sub SH₃) m.2.1 j0 j1 (by omega) hc2 fun D h' tk kk K d => q _ _ _ kk ⟨D, rfl, K, d⟩) ?_
  rintro v₄ h₄ tk₄ g₄ F₄ N₆ SG₄ SH₄ KG₄ KS₄ up₄ _ ⟨D2, rfl, K₄, d2⟩
  have K₄ := K₄.imp (fun o e => up₄ _ o e (nU _ m.2.1) (by simp)) fun b f x => x.up F₄.ns up₄
  have d2 := d2.up F₄.ns up₄
  have X₄ := X₃.known KG₄ K₄
  clear F₃ N₅
  dsimp only [List.nil_append] at N₆
  have d := d.tr KG₄ (by simpa using m.2.1)
  walk_at "goC"
  rename Fr _ _ _ _ => F₅
  rename News _ _ _ _ => N₇
  refine unpackItemsN_ F₅ N₇ (News.isTup N₇ (.head _)) R'.hand rfl ?_
  intro h₆ F₆ N₈
  clear F₅ N₇
  walk_at "goC"
  rename Fr _ _ _ _ => F₄
  rename News _ _ _ _ => N₉
  have N₆ := news_tail (news' := dump h₀ g₄) N₉ (fun p hp => .tail _ hp)
  clear N₉ SH₄
  have SH₄ : Sub g₄ _ := sub_of F₄ N₆ (fun p hp => hp) SG₄
  refine step [] [a.Kd] [] (fun v h' => v = .none ∧ KnownAt prog w h' (UW a ls') a.Kd n (upd (upd (upd F k (tick (F k) k)) j (tick ((upd F k (tick (F k) k)) j) j)) k (join ((upd (upd F k (tick (F k) k)) j (tick ((upd F k (tick (F k) k)) j) j)) k) ((upd F k (tick (F k) k)) j)))) F₄ N₆ SG₄ (by simpa using ⟨nU a.Kd m.2.1, X₄.off _ m.2.1⟩) (by simp)
    (fun Q' q => llearn_spec (R'.le (by omega)) KX T F₄.keep (fr_size F₄) (X₄.off _ m.2.1) (X₄.sub SH₄).live (X₄.kn.sub SH₄) m.2.1 h0 h1 (by omega) hc3 hc2 (d2.sub SH₄) fun h' tk kk K => q _ _ _ kk ⟨rfl, K⟩) ?_
  rintro v₅ h₅ tk₅ g₅ F₅ N₇ SG₅ SH₅ KG₅ KS₅ up₅ _ ⟨rfl, K₅⟩
  have K₅ := K₅.imp (fun o e => up₅ _ o e (nU _ m.2.1) (by simp)) fun b f x => x.up F₅.ns up₅
  have X₅ := X₄.known KG₅ K₅
  clear F₄ N₆
  dsimp only [List.nil_append] at N₇
  have d := d.tr KG₅ (by simpa using m.2.1)
  walk_at "goC"
  refine step [] [a.Kd] [] (fun v h' => v = .none ∧ KnownAt prog w h' (UW a ls') a.Kd n (upd (upd (upd (upd F k (tick (F k) k)) j (tick ((upd F k (tick (F k) k)) j) j)) k (join ((upd (upd F k (tick (F k) k)) j (tick ((upd F k (tick (F k) k)) j) j)) k) ((upd F k (tick (F k) k)) j))) j (join ((upd (upd (upd F k (tick (F k) k)) j (tick ((upd F k (tick (F k) k)) j) j)) k (join ((upd (upd F k (tick (F k) k)) j (tick ((upd F k (tick (F k) k)) j) j)) k) ((upd F k (tick (F k) k)) j))) j) (F k)))) F₅ N₇ SG₅ (by simpa using ⟨nU a.Kd m.2.1, X₅.off _ m.2.1⟩) (by simp)
    (fun Q' q => llearn_spec (R'.le (by omega)) KX T F₅.keep (fr_size F₅) (X₅.off _ m.2.1) (X₅.sub SH₅).live (X₅.kn.sub SH₅) m.2.1 j0 j1 (by omega) hc4 hc (d.sub SH₅) fun h' tk kk K => q _ _ _ kk ⟨rfl, K⟩) ?_
  rintro v₆ h₆ tk₆ g₆ F₆ N₈ SG₆ SH₆ KG₆ KS₆ up₆ _ ⟨rfl, K₆⟩
  have K₆ := K₆.imp (fun o e => up₆ _ o e (nU _ m.2.1) (by simp)) fun b f x => x.up F₆.ns up₆
  have X₆ := X₅.known KG₆ K₆
  clear F₅ N₇
  dsimp only [List.nil_append] at N₈
  walk_at "goC"
  dsimp only
  subst hcase
  exact hQ _ ls' h₆ _ ((((((KG₂.mono mw).trans (KG₃.mono (by simp [UW, own5]))).trans (KG₄.mono (by simp [UW, own5]))).trans (KG₅.mono (by simp [UW, own5]))).trans (KG₆.mono (by simp [UW, own5]))).trans (Keep.of_sub SH₆)) (X₆.sub SH₆)
    (by rw [hl]; exact (congrArg List.length hsent).trans (by simp)) (by rw [hl]; exact (congrArg List.length hrecv).trans (by simp)) (by rw [hl]; exact hfe) hlo frU rfl
end

section
open PySem PySem.W PyProof.Rows PySem.Calls
set_option maxRecDepth 100000
set_option Elab.async false
set_option maxHeartbeats 4000000
section
variable {K : Type} [DecidableEq K]
theorem vK_cons {q : K × Value} {r : List (K × Value)} {j : K} : valueAt (q :: r) j = if q.1 = j then some q.2 else valueAt r j := by
  unfold valueAt
  rw [List.find?_cons]
  by_cases e : q.1 = j
  · rw [decide_eq_true e, if_pos e]; rfl
  · rw [decide_eq_false e, if_neg e]
theorem vK_map {kvs : List (K × Value)} {k j : K} {v : Value} : valueAt (kvs.map fun q => if q.1 = k then (q.1, v) else q) j = if j = k then (if kvs.any (fun q => q.1 = k) then some v else none) else valueAt kvs j := by
  induction kvs with
  | nil => simp [valueAt]
  | cons q r ih =>
    rw [List.map_cons, vK_cons, ih, List.any_cons, vK_cons]
    by_cases e : q.1 = k
    · rw [decide_eq_true e, Bool.true_or, if_pos e]
      by_cases q' : j = k
      · simp [e, q']
      · simp [e, q', Ne.symm q']
    · rw [decide_eq_false e, Bool.false_or, if_neg e]
      by_cases q' : j = k
      · rw [if_pos q', if_pos q', if_neg (by rw [q']; exact e)]
      · rw [if_neg q', if_neg q']
theorem vK_snoc {kvs : List (K × Value)} {k j : K} {v : Value} (h : kvs.any (fun q => q.1 = k) = false) : valueAt (kvs ++ [(k, v)]) j = if j = k then some v else valueAt kvs j := by
  induction kvs with
  | nil =>
    rw [List.nil_append, vK_cons]
    by_cases e : j = k
    · simp [e]
    · rw [if_neg (Ne.symm e), if_neg e]
  | cons q r ih =>
    rw [List.any_cons, Bool.or_eq_false_iff] at h
    have hq := of_decide_eq_false h.1
    rw [List.cons_append, vK_cons, ih h.2, vK_cons]
    by_cases e : j = k
    · rw [if_pos e, if_pos e, if_neg (by rw [e]; exact hq)]
    · rw [if_neg e, if_neg e]
theorem vK_stored {kvs : List (K × Value)} {k j : K} {v : Value} : valueAt (stored kvs k v) j = if j = k then some v else valueAt kvs j := by
  unfold stored
  split
  · rename_i h
    rw [vK_map, if_pos h]
  · rename_i h
    rw [vK_snoc (Bool.eq_false_iff.mpr h)]
theorem vK_mem {kvs : List (K × Value)} {k : K} {v : Value} {q : K × Value} (h : q ∈ stored kvs k v) : q ∈ kvs ∨ q = (k, v) := by
  unfold stored at h
  split at h
  · obtain ⟨q', hq, rfl⟩ := List.mem_map.mp h
    by_cases e : q'.1 = k
    · right; simp [e]
    · left; simpa [e] using hq
  · rcases List.mem_append.mp h with h | h
    · exact .inl h
    · exact .inr (List.mem_singleton.mp h)
end
theorem kGE : kG ≠ kE := by decide
section
variable {prog : Program} {w : World} {A : Around} {E : Value → Shared → Prop} {s : Shared}
theorem mark_item {d : Addr} {kvs : List (Str × Value)} {k : Str} {t : Tok} {v : Value} {value slice : PySem.Expr} {Q : Value → Shared → Prop} (hD : s.heap.DictOf (PySem.strKind prog w) d kvs) (hl : valueAt kvs k = some v) (h : Q v { s with toks := s.toks + 1 })
    (hs : subscripted slice false (.ref d) (.str k t) = operate [.ref d, .str k t] (getItem (.ref d) (.str k t)) := by with_unfolding_all rfl) (hg : ∀ r, letTemporaryGo value (.ref d) r = pure () := by intro _; with_unfolding_all rfl) :
    wpAny (model prog w) A (subscriptTail value slice (.ref d) (.str k t)) Q E s :=
  subscriptTail_builtin hD.typeIs slot_dict_getitem.lookup (wpAny_getItem_of (knd := PySem.strKind prog w) (strKind_is _ _ _ _) hD.mapOf hl h) hs hg
theorem mark_in {d : Addr} {kvs : List (Str × Value)} {k : Str} {t : Tok} {Q : Value → Shared → Prop} (hD : s.heap.DictOf (PySem.strKind prog w) d kvs) (lo : (d == sysModules) = false) (h : Q (.bool (valueAt kvs k).isSome) { s with toks := s.toks + 1 }) :
    wpAny (model prog w) A (compareOp .In (.str k t) (.ref d)) Q E s := wpAny_in_of (knd := PySem.strKind prog w) (k := k) (strKind_is _ _ _ _) lo hD.mapOf h
theorem marks_len {h : Heap} {Md : Addr} {kvs : List (Str × Value)} (hD : h.DictOf (PySem.strKind prog w) Md kvs) (hb : ∀ q ∈ kvs, q.1 ∈ [kG, kE]) : kvs.length ≤ 2 := by
  have := nodup_le _ [kG, kE] (dict_nodup hD) fun k hk => by
    obtain ⟨p, hp, rfl⟩ := List.mem_map.mp hk
    exact hb p hp
  simpa using this
theorem set_gmark {U : List Addr} {Md D : Addr} {G G' Ee : Int → Int} {t : Tok} {Q : Unit → Shared → Prop} (hM : MarksAt prog w s.heap U Md G Ee) (MU : Md ∈ U) (hs : SpanAt s.heap U D G')
    (h : ∀ h' tk, Keep [Md] s.heap h' → MarksAt prog w h' U Md G' Ee → Q () { s with heap := h', toks := tk }) : wpAny (model prog w) A (setItem (.ref Md) (.str kG t) (.ref D)) Q E s := by
  obtain ⟨kvs, hD, hb, _, hE⟩ := hM
  have hl := marks_len hD hb
  refine wpAny_setItem_pairs (knd := PySem.strKind prog w) (k := kG) (strKind_is _ _ _ _) hD (fun h' hD' hs' => ?_) (by rw [sizeLine_eq]; omega)
  have kk := keep_dict hD hs'
  refine h _ _ kk ⟨_, hD', fun q hq => ?_, ⟨D, by rw [vK_stored, if_pos rfl], hs.tr kk (by simpa using MU)⟩, fun v hv => ?_⟩
  · rcases vK_mem hq with hq | rfl
    · exact hb q hq
    · exact .head _
  · rw [vK_stored, if_neg (Ne.symm kGE)] at hv
    obtain ⟨a, e, x⟩ := hE v hv
    exact ⟨a, e, x.tr kk (by simpa using MU)⟩
theorem set_emark {U : List Addr} {Md D : Addr} {G Ee E' : Int → Int} {t : Tok} {Q : Unit → Shared → Prop} (hM : MarksAt prog w s.heap U Md G Ee) (MU : Md ∈ U) (hs : SpanAt s.heap U D E')
    (h : ∀ h' tk, Keep [Md] s.heap h' → MarksAt prog w h' U Md G E' → Q () { s with heap := h', toks := tk }) : wpAny (model prog w) A (setItem (.ref Md) (.str kE t) (.ref D)) Q E s := by
  obtain ⟨kvs, hD, hb, ⟨a, ha, x⟩, hE⟩ := hM
  have hl := marks_len hD hb
  refine wpAny_setItem_pairs (knd := PySem.strKind prog w) (k := kE) (strKind_is _ _ _ _) hD (fun h' hD' hs' => ?_) (by rw [sizeLine_eq]; omega)
  have kk := keep_dict hD hs'
  refine h _ _ kk ⟨_, hD', fun q hq => ?_, ⟨a, by rw [vK_stored, if_neg kGE]; exact ha, x.tr kk (by simpa using MU)⟩, fun v hv => ?_⟩
  · rcases vK_mem hq with hq | rfl
    · exact hb q hq
    · exact .tail _ (.head _)
  · rw [vK_stored, if_pos rfl] at hv
    cases hv
    exact ⟨D, rfl, hs.tr kk (by simpa using MU)⟩
end
theorem fresh_back {U : List Addr} {h h' : Heap} {b : Addr} (k : Keep U h h') (f : b ∈ U ∨ h'.get? b = none) : b ∈ U ∨ h.get? b = none := by
  by_cases q : b ∈ U
  · exact .inl q
  · refine .inr ?_
    cases z : h.get? b with
    | none => rfl
    | some o =>
      have := k.at q z
      rcases f with f | f
      · exact absurd f q
      · rw [f] at this; cases this
end

section
open PySem PySem.W PyProof.Rows PySem.Calls
set_option maxRecDepth 100000
set_option Elab.async false
set_option maxHeartbeats 4000000
theorem kfill8 : PySem.Challenge.rw_on0015_01 = PySem.Challenge.rw_on0015_01 ∧ hd.heap_1 = hd.heap_1 := by
  k_fill
  exact ⟨rfl, rfl⟩
-- enter a plain def: its names and values
-- walk until a loop, a call or a step without a line
-- what lies on the anchor is apart from what it has not


def IfPost (C : Prop) (s : Shared) (b : Bool) (s₁ : Shared) : Prop := (b = true ↔ C) ∧ ∃ tk, s₁ = { s with toks := tk }
theorem if_dec {M : Model} {A : Around} {E : Value → Shared → Prop} {s : Shared} {env : Env} {test : PySem.Expr} {body orelse : List Stmt} {pos : Pos} {Q : Flow → Shared → Prop} (C : Prop)
    (h : wpAny M A (isTrue test env (eval test env)) (IfPost C s) E s) (ht : C → ∀ tk, wpAny M A (execs body env) Q E { s with toks := tk }) (hf : ¬ C → ∀ tk, wpAny M A (execs orelse env) Q E { s with toks := tk }) :
    wpAny M A (exec (.If test body orelse pos) env) Q E s := by
  refine wpAny_If (wpAny_mono h (fun b s₁ q => ?_) fun _ _ x => x)
  obtain ⟨hb, tk, rfl⟩ := q
  cases b with
  | true => exact ht (hb.mp rfl) tk
  | false => exact hf (fun c => by have := hb.mpr c; cases this) tk
structure LW (prog : Program) (w : World) (h₀ h : Heap) (a : AD) (room : Int) (n : Nat) (F : Int → Int → Int) (ls : Int → Option Ln) (G : Int → Int) (B : Int) : Prop where
  X : LX prog w h₀ h a room n F ls G F (sentOf (ls 7)) (recvOf (ls 7)) G (feOf (ls 8))
  I : Inv n F (sentOf (ls 7)) (recvOf (ls 7)) G (feOf (ls 8)) B
  z : ((sentOf (ls 7)).length : Int) + (recvOf (ls 7)).length + (sentOf (ls 8)).length + (recvOf (ls 8)).length + 4 ≤ B

theorem wi_news2 {h₀ h g : Heap} {L x dx Dc Dl Dg : Addr} {cs : List (Addr × Obj)} (N : News h₀ L h (cs ++ dump h₀ g)) (a : WI h₀ g x dx Dc Dl Dg) : ∃ (e1 e2 e3 e4 e5 : Int) (t1 t2 t3 t4 t5 : Tok) (Dp Rl : Addr) (n : Nat),
    News h₀ L h ((x, instObj 234 dx) :: (dx, dictOf [⟨e1, .str (Str.ofString "clocks") t1, .ref Dc⟩, ⟨e2, .str (Str.ofString "lines") t2, .ref Dl⟩, ⟨e3, .str (Str.ofString "gates") t3, .ref Dg⟩, ⟨e4, .str (Str.ofString "places") t4, .ref Dp⟩, ⟨e5, .str (Str.ofString "races") t5, .ref Rl⟩] n) :: (cs ++ dump h₀ g)) := by
  obtain ⟨a0, e1, e2, e3, e4, e5, t1, t2, t3, t4, t5, Dp, Rl, n, a1, a2⟩ := a
  refine ⟨e1, e2, e3, e4, e5, t1, t2, t3, t4, t5, Dp, Rl, n, fun q hq => ?_⟩
  rcases List.mem_cons.mp hq with rfl | hq
  · exact N _ (List.mem_append.mpr (.inr (mem_dump.mpr ⟨a1, a0.1⟩)))
  · rcases List.mem_cons.mp hq with rfl | hq
    · exact N _ (List.mem_append.mpr (.inr (mem_dump.mpr ⟨a2, a0.2⟩)))
    · exact N _ hq
theorem span_watch {prog : Program} {w : World} {h₀ h h' : Heap} {a : AD} {room : Int} {n : Nat} {Fw : Int → Int → Int} {ls ls' : Int → Option Ln} {Gw : Int → Int} {Fk : Int → Int → Int} {Ss Rs : List (Int → Int)} {Gk Ek : Int → Int} {b : Addr} {f : Int → Int} {S : List Addr}
    (s : SpanAt h (UW a ls) b f) (_X : LX prog w h₀ h a room n Fw ls Gw Fk Ss Rs Gk Ek) (hS : ∀ b ∈ S, b ∈ a.fp ls) (k : Keep S h h') (fr : ∀ b ∈ a.fp ls', b ∈ a.fp ls ∨ h.get? b = none) : SpanAt h' (UW a ls') b f :=
  ((s.grow (U' := UW a ls ++ UW a ls') fun b hb => by
      rcases List.mem_append.mp hb with hb | hb
      · exact .inl hb
      · rcases List.mem_append.mp hb with hb | hb
        · exact .inl (List.mem_append.mpr (.inl hb))
        · exact (fr b hb).imp (fun q => List.mem_append.mpr (.inr q)) id).tr k fun b hb => List.mem_append.mpr (.inl (List.mem_append.mpr (.inr (hS b hb)))) : SpanAt h' (UW a ls ++ UW a ls') b f).grow fun b hb => .inl (List.mem_append.mpr (.inr hb))
theorem hide_post {α : Type} {M : Model} {A : Around} {x : Sem α} {P : α → Shared → Prop} {E : Value → Shared → Prop} {s : Shared} (h : ∀ P', P' = P → wpAny M A x P' E s) : wpAny M A x P E s := h P rfl
theorem ldeed_spec {prog p w loose mean mg mb} {A : Around} {E : Value → Shared → Prop} {s : Shared} {h₀ : Heap} (R : Room A 7) (KX : (hd.heap_1 w.params).In h₀) (T : Top p loose mean mg mb h₀)
   (S0 : Sub h₀ s.heap) (hz : h₀.objs.size ≤ s.heap.objs.size) {a : AD} {room : Int} {n : Nat} {F : Int → Int → Int} {ls : Int → Option Ln} {G : Int → Int} {B : Int}
   (W : LW prog w h₀ s.heap a room n F ls G B) (hB : B ≤ 50) {Q : Value → Shared → Prop}
   (hQ : ∀ n' F' ls' G' h' tk, Keep (UW a ls) s.heap h' → LW prog w h₀ h' a room n' F' ls' G' (B + 2) → (∀ b ∈ UW a ls', b ∈ UW a ls ∨ s.heap.get? b = none) → Q .none { s with heap := h', toks := tk }) :
   wpAny (model prog w) A (call (.ref 302) [.ref a.Z, .ref a.x, .ref a.Kd, .ref a.Ls, .ref a.Md]) Q E s := by
  k_call_by "enterK" [(Str.ofString "source", Value.ref a.Z), (Str.ofString "watch", Value.ref a.x), (Str.ofString "known", Value.ref a.Kd), (Str.ofString "line", Value.ref a.Ls), (Str.ofString "marks", Value.ref a.Md)]
  intro L h₁ tk₁ cells A' R' hL F₁ N₁ Y₁ SG nC
  refine hide_post fun P₀ hP₀ => ?_
  have X := W.X
  have I := W.I
  have m := X.mem
  have n1 := I.n1
  have n4 := I.n4
  have hrm := X.rm
  k_cells Y₁
  dsimp only [List.cons_append, List.nil_append] at N₁
  have nU : ∀ b ∈ UW a ls, b ≠ L := fun b hb => by
    obtain ⟨o, ho⟩ := X.live b hb
    rw [hL]; exact Nat.ne_of_lt (Heap.lt_size ho)
  have nV : ∀ b ∈ UW a ls, b ≠ L + 1 := fun b hb => by
    obtain ⟨o, ho⟩ := X.live b hb
    exact live_ne ho (nC _ (.head _)) |>.symm
  obtain ⟨kvs, hD, hkeys, hall⟩ := id X.kn
  have hkl : kvs.length = n := by have := congrArg List.length hkeys; simpa using this
  walk_at "goD"
  refine call_len_dict (knd := intKind prog w) X.kl (dict_sub hD (SG _)) (by omega) ?_
  rw [hkl]
  walk_at "goD"
  obtain ⟨sa, sb, hsrc, hsb⟩ := X.src
  refine step [_] [a.Z] [] (fun v h' => ∃ r u, v = .int r u ∧ 0 ≤ r ∧ r < n ∧ ∃ u v, SrcOk h' a.Z u v ∧ 0 ≤ v ∧ v < 2147483647) F₁ N₁ S0 (by simpa using ⟨nU _ m.1, X.off _ m.1, (nV _ m.1).symm⟩) (by simp)
    (fun Q' q => take_spec (R'.le (by omega)) KX T F₁.keep (fr_size F₁) (X.off _ m.1) (hsrc.tr (SG _)) hsb ⟨by omega, by omega⟩ fun r u a' b' h' tk kk s1 s2 s3 s4 => q _ _ _ kk ⟨r, u, rfl, s3, s4, a', b', s1, s2⟩) ?_
  rintro v₂ h₂ tk₂ g₂ F₂ N₂ SG₂ SH₂ KG₂ KS₂ up₂ _ ⟨k, ku, rfl, k0, k1, z₂⟩
  have X₂ := X.source KG₂ (let ⟨u, v, x, y⟩ := z₂; ⟨u, v, x.tr fun o e => up₂ _ o e (nU _ m.1) (by simp), y⟩)
  clear F₁ N₁
  dsimp only [List.cons_append, List.nil_append] at N₂
  walk_at "goD"
  obtain ⟨sa₂, sb₂, hsrc₂, hsb₂⟩ := X₂.src
  refine step [_] [a.Z] [] (fun v h' => ∃ r u, v = .int r u ∧ 0 ≤ r ∧ r < 8 ∧ ∃ u v, SrcOk h' a.Z u v ∧ 0 ≤ v ∧ v < 2147483647) F₂ N₂ SG₂ (by simpa using ⟨nU _ m.1, X.off _ m.1, (nV _ m.1).symm⟩) (by simp)
    (fun Q' q => take_spec (R'.le (by omega)) KX T F₂.keep (fr_size F₂) (X.off _ m.1) (hsrc₂.tr (SH₂ _)) hsb₂ ⟨by omega, by omega⟩ fun r u a' b' h' tk kk s1 s2 s3 s4 => q _ _ _ kk ⟨r, u, rfl, s3, s4, a', b', s1, s2⟩) ?_
  rintro v₃ h₃ tk₃ g₃ F₃ N₃ SG₃ SH₃ KG₃ KS₃ up₃ _ ⟨wy, wu, rfl, w0, w1, z₃⟩
  have X₃ := X₂.source KG₃ (let ⟨u, v, x, y⟩ := z₃; ⟨u, v, x.tr fun o e => up₃ _ o e (nU _ m.1) (by simp), y⟩)
  clear F₂ N₂
  dsimp only [List.cons_append, List.nil_append] at N₃
  walk_at "goD"
  rename Fr _ _ _ _ => F₄
  rename News _ _ _ _ => N₄
  refine unpackItemsN_ F₄ N₄ (News.isTup N₄ (.head _)) R'.hand rfl ?_
  intro h₅ F₅ N₅
  clear F₄ N₄
  walk_at "goD"
  rename Fr _ _ _ _ => F₃
  rename News _ _ _ _ => N₆
  have N₃ := news_tail (news' := [_] ++ dump h₀ g₃) N₆ (fun p hp => .tail _ hp)
  clear N₆ SH₃
  dsimp only [List.cons_append, List.nil_append] at N₃
  have SH₃ : Sub g₃ _ := sub_of F₃ N₃ (fun p hp => .tail _ hp) SG₃
  have hB' : B ≤ 60 := by omega
  have i4 := I.in4 k0 k1
  have cF := I.capF i4 hB'
  have cT : Cap (tick (F k) k) := by have := (I.tick k0 k1).capF i4 (by omega); rwa [upd_same] at this
  have hz := W.z
  have kS : Keep (UW a ls) s.heap _ := ((KG₂.trans KG₃).mono (by simpa using m.1)).trans (Keep.of_sub SH₃)
  -- way == 0 and len(known) < 4
  refine hide_post fun Ph1 hPh1 => ?_
  refine if_dec (wy = 0 ∧ n < 4) ?_ (fun hc tk => ?_) (fun hno tk => ?_)
  · obtain ⟨kv3, hD3, hk3, _⟩ := id X₃.kn
    have hl3 : kv3.length = n := by have := congrArg List.length hk3; simpa using this
    walk_at "goD"
    · refine call_len_dict (knd := intKind prog w) X.kl (dict_sub hD3 (SH₃ _)) (by omega) ?_
      rw [hl3]
      walk_at "goD"
      all_goals exact ⟨by simp; omega, _, rfl⟩
    · exact ⟨by simp; omega, _, rfl⟩
  · walk_at "goD"
    refine lgo_spec (R'.le (by omega)) KX T F₃.keep (fr_size F₃) (X₃.sub SH₃) k0 k1 hc.2 cF (I.un n (Int.le_refl _)) fun h₆ tk₆ k₆ X₆ => ?_
    have F₆ := fr_keep F₃ k₆ (fun q => nU _ q rfl) X.off
    have N₆ : News h₀ L h₆ [] := News.nil
    clear F₃ N₃
    walk_at "goD"
    (try subst hPh7); (try subst hPh6); (try subst hPh5); (try subst hPh4); (try subst hPh3); (try subst hPh2); (try subst hPh1); subst hP₀; walk_at "goD"
    dsimp only
    exact hQ (n + 1) _ ls G h₆ _ (kS.trans k₆) ⟨X₆, (((I.tick k0 k1).born hc.2).join (by omega) (by push_cast; omega) (I.told k0 k1)).mono (by omega), by omega⟩ fun b hb => .inl hb
  walk_at "goD"
  -- way < 3 and len(line[1]) - len(line[2]) < line[0]
  obtain ⟨lnU₃, tr₃, hLs₃⟩ := X₃.ln
  obtain ⟨vs7, hp7, hs7⟩ := id X₃.s7
  obtain ⟨vr7, hq7, hr7⟩ := id X₃.r7
  have z7 : ((List.toArray vs7).size : Int) = ((sentOf (ls 7)).length : Int) := by rw [List.size_toArray, hs7.length]
  have y7 : ((List.toArray vr7).size : Int) = ((recvOf (ls 7)).length : Int) := by rw [List.size_toArray, hr7.length]
  refine hide_post fun Ph2 hPh2 => ?_
  refine if_dec (wy < 3 ∧ ((sentOf (ls 7)).length : Int) - (recvOf (ls 7)).length < room) ?_ (fun hc tk => ?_) (fun hno2 tk => ?_)
  · walk_at "goD"
    · refine list_item (v := .ref a.S7) (hLs₃.at (SH₃ _)) (by decide) (Nat.le_of_ble_eq_true rfl) rfl ?_
      walk_at "goD"
      refine call_len_list (hp7.isList.at (SH₃ _)) (by rw [z7]; omega) ?_
      walk_at "goD"
      refine list_item (v := .ref a.R7) (hLs₃.at (SH₃ _)) (by decide) (Nat.le_of_ble_eq_true rfl) rfl ?_
      walk_at "goD"
      refine call_len_list (hq7.isList.at (SH₃ _)) (by rw [y7]; omega) ?_
      walk_at "goD"
      refine list_item (v := .int room tr₃) (hLs₃.at (SH₃ _)) (by decide) (Nat.le_of_ble_eq_true rfl) rfl ?_
      rw [z7, y7]
      walk_at "goD"
      all_goals exact ⟨by simp; omega, _, rfl⟩
    · exact ⟨by simp; omega, _, rfl⟩
  · walk_at "goD"
    refine lsend_spec (R'.le (by omega)) KX T F₃.keep (fr_size F₃) (X₃.sub SH₃) k0 k1 n4 cF (fun f hf => (I.dr f hf).cap I hB') rfl rfl (by omega) (by omega) hc.2 cT fun F' ls' h₆ tk₆ k₆ X₆ e1 e2 e3 e4 e5 => ?_
    have F₆ := fr_keep F₃ k₆ (fun q => nU _ q rfl) X.off
    have N₆ : News h₀ L h₆ [] := News.nil
    clear F₃ N₃
    walk_at "goD"
    (try subst hPh7); (try subst hPh6); (try subst hPh5); (try subst hPh4); (try subst hPh3); (try subst hPh2); (try subst hPh1); subst hP₀; walk_at "goD"
    dsimp only
    have e8 := e3 8 (by decide)
    have I₆ : Inv n F' (sentOf (ls 7) ++ [F k]) (recvOf (ls 7)) G (feOf (ls 8)) (B + 1) := by
      rcases e5 with rfl | ⟨fr, hfr, rfl⟩
      · exact (I.tick k0 k1).sent (I.told k0 k1)
      · exact ((I.tick k0 k1).sent (I.told k0 k1)).join k0 k1 ((I.tick k0 k1).dr fr hfr)
    exact hQ n F' ls' G h₆ _ (kS.trans k₆) ⟨by rw [e1, e2, e8]; exact X₆, by rw [e1, e2, e8]; exact I₆.mono (by omega), by rw [e1, e2, e8, List.length_append, List.length_singleton]; push_cast; omega⟩ fun b hb => fresh_back kS (e4 b hb)
  walk_at "goD"
  -- way < 5 and len(line[1]) > len(line[2])
  refine hide_post fun Ph3 hPh3 => ?_
  refine if_dec (wy < 5 ∧ ((recvOf (ls 7)).length : Int) < (sentOf (ls 7)).length) ?_ (fun hc tk => ?_) (fun hno3 tk => ?_)
  · walk_at "goD"
    · refine list_item (v := .ref a.S7) (hLs₃.at (SH₃ _)) (by decide) (Nat.le_of_ble_eq_true rfl) rfl ?_
      walk_at "goD"
      refine call_len_list (hp7.isList.at (SH₃ _)) (by rw [z7]; omega) ?_
      walk_at "goD"
      refine list_item (v := .ref a.R7) (hLs₃.at (SH₃ _)) (by decide) (Nat.le_of_ble_eq_true rfl) rfl ?_
      walk_at "goD"
      refine call_len_list (hq7.isList.at (SH₃ _)) (by rw [y7]; omega) ?_
      rw [z7, y7]
      walk_at "goD"
      all_goals exact ⟨by simp; omega, _, rfl⟩
    · exact ⟨by simp; omega, _, rfl⟩
  · walk_at "goD"
    obtain ⟨fs, hfs⟩ : ∃ fs, (sentOf (ls 7))[(recvOf (ls 7)).length]? = some fs := ⟨_, List.getElem?_eq_getElem (by omega)⟩
    have hfm := List.mem_of_getElem? hfs
    refine lrecv_spec (R'.le (by omega)) KX T F₃.keep (fr_size F₃) (X₃.sub SH₃) k0 k1 n4 cF rfl rfl (by omega) (by omega) hfs ((I.ds fs hfm).cap I hB') cT fun F' ls' h₆ tk₆ k₆ X₆ e1 e2 e3 e4 e5 => ?_
    have F₆ := fr_keep F₃ k₆ (fun q => nU _ q rfl) X.off
    have N₆ : News h₀ L h₆ [] := News.nil
    clear F₃ N₃
    walk_at "goD"
    (try subst hPh7); (try subst hPh6); (try subst hPh5); (try subst hPh4); (try subst hPh3); (try subst hPh2); (try subst hPh1); subst hP₀; walk_at "goD"
    dsimp only
    have e8 := e3 8 (by decide)
    have I₆ : Inv n F' (sentOf (ls 7)) (recvOf (ls 7) ++ [F k]) G (feOf (ls 8)) (B + 1) := by
      subst e5
      exact ((I.tick k0 k1).recv (I.told k0 k1)).join k0 k1 ((I.tick k0 k1).ds fs hfm)
    exact hQ n F' ls' G h₆ _ (kS.trans k₆) ⟨by rw [e1, e2, e8]; exact X₆, by rw [e1, e2, e8]; exact I₆.mono (by omega), by rw [e1, e2, e8, List.length_append, List.length_singleton]; push_cast; omega⟩ fun b hb => fresh_back kS (e4 b hb)
  walk_at "goD"
  -- way == 5 and len(known) > 1
  obtain ⟨kv3, hD3, hk3, _⟩ := id X₃.kn
  have hl3 : kv3.length = n := by have := congrArg List.length hk3; simpa using this
  refine hide_post fun Ph4 hPh4 => ?_
  refine if_dec (wy = 5 ∧ 1 < n) ?_ (fun hc tk => ?_) (fun hno4 tk => ?_)
  · walk_at "goD"
    · refine call_len_dict (knd := intKind prog w) X.kl (dict_sub hD3 (SH₃ _)) (by omega) ?_
      rw [hl3]
      walk_at "goD"
      all_goals exact ⟨by simp; omega, _, rfl⟩
    · exact ⟨by simp; omega, _, rfl⟩
  · walk_at "goD"
    refine call_len_dict (knd := intKind prog w) X.kl (dict_sub hD3 (SH₃ _)) (by omega) ?_
    rw [hl3]
    walk_at "goD"
    obtain ⟨sa₃, sb₃, hsrc₃, hsb₃⟩ := X₃.src
    refine step [_] [a.Z] [] (fun v h' => ∃ r u, v = .int r u ∧ 0 ≤ r ∧ r < (n : Int) - 1 ∧ ∃ u v, SrcOk h' a.Z u v ∧ 0 ≤ v ∧ v < 2147483647) F₃ N₃ SG₃ (by simpa using ⟨nU _ m.1, X.off _ m.1, (nV _ m.1).symm⟩) (by simp)
      (fun Q' q => take_spec (R'.le (by omega)) KX T F₃.keep (fr_size F₃) (X.off _ m.1) (hsrc₃.tr (SH₃ _)) hsb₃ ⟨by omega, by omega⟩ fun r u a' b' h' tk kk s1 s2 s3 s4 => q _ _ _ kk ⟨r, u, rfl, s3, s4, a', b', s1, s2⟩) ?_
    rintro v₄ h₄ tk₄ g₄ F₄ N₄ SG₄ SH₄ KG₄ KS₄ up₄ _ ⟨r, ru, rfl, r0, r1, z₄⟩
    have X₄ := X₃.source KG₄ (let ⟨u, v, x, y⟩ := z₄; ⟨u, v, x.tr fun o e => up₄ _ o e (nU _ m.1) (by simp), y⟩)
    clear F₃ N₃
    dsimp only [List.cons_append, List.nil_append] at N₄
    obtain ⟨kv4, hD4, hk4, _⟩ := id X₄.kn
    have hl4 : kv4.length = n := by have := congrArg List.length hk4; simpa using this
    walk_at "goD"
    refine call_len_dict (knd := intKind prog w) X.kl (dict_sub hD4 (SH₄ _)) (by omega) ?_
    rw [hl4]
    walk_at "goD"
    have hj := fmod_in (a := k + 1 + r) (b := (n : Int)) (by omega)
    generalize (k + 1 + r).fmod (n : Int) = j at hj
    have j4 := I.in4 hj.1 hj.2
    have I1 := I.tick k0 k1
    have I2 := I1.tick hj.1 hj.2
    have I3 := I2.join k0 k1 (I1.told hj.1 hj.2)
    have I4 := I3.join hj.1 hj.2 (((I.told k0 k1).up fun l _ => diag_tick (F := upd F k (tick (F k) k)) (k := j) l).same (diag_join i4 (I1.told hj.1 hj.2)))
    have kS₄ : Keep (UW a ls) s.heap _ := (((KG₂.trans KG₃).trans KG₄).mono (by simpa using m.1)).trans (Keep.of_sub SH₄)
    refine lhand_spec (R'.le (by omega)) KX T F₄.keep (fr_size F₄) (X₄.sub SH₄) k0 k1 n4 hj.1 hj.2 cF (I1.capF j4 (by omega)) (I2.capF i4 (by omega)) (I3.capF j4 (by omega)) (by omega) (by omega) fun F' ls' h₆ tk₆ k₆ X₆ e1 e2 e0 e3 e4 e5 => ?_
    have F₆ := fr_keep F₄ k₆ (fun q => nU _ q rfl) X.off
    have N₆ : News h₀ L h₆ [] := News.nil
    clear F₄ N₄
    walk_at "goD"
    (try subst hPh7); (try subst hPh6); (try subst hPh5); (try subst hPh4); (try subst hPh3); (try subst hPh2); (try subst hPh1); subst hP₀; walk_at "goD"
    dsimp only
    have e7 := e3 7 (by decide)
    subst e5
    exact hQ n _ ls' G h₆ _ (kS₄.trans k₆) ⟨by rw [e0, e7]; exact X₆, by rw [e0, e7]; exact I4.mono (by omega), by rw [e7, e1, e2]; push_cast; omega⟩ fun b hb => fresh_back kS₄ (e4 b hb)
  walk_at "goD"
  -- way == 6
  refine hide_post fun Ph5 hPh5 => ?_
  refine if_dec (wy = 6) ?_ (fun hc tk => ?_) (fun hno5 tk => ?_)
  · walk_at "goD"
    all_goals exact ⟨by simp <;> omega, _, rfl⟩
  · obtain ⟨e1, e2, e3, e4, e5, t1, t2, t3, t4, t5, Dp, Rl, nn, N₄⟩ := wi_news2 (cs := [_]) N₃ X₃.ws.cs.wi
    walk_at "goD"
    have N₅ := news_tail (news' := [_] ++ dump h₀ g₃) N₄ (fun p hp => .tail _ (.tail _ hp))
    clear N₃ N₄
    refine step [_] (fpW a.x a.dx a.Dc a.Dl a.Dg ls) [] (fun v h' => v = .none ∧ WS prog w h₀ h' a.x a.dx a.Dc a.Dl a.Dg (upd F k (tick (F k) k)) ls (join G (F k))) F₃ N₅ SG₃ (fun b hb => ⟨nU b (List.mem_append.mpr (.inr hb)), X₃.off b (List.mem_append.mpr (.inr hb)), by simpa using (nV b (List.mem_append.mpr (.inr hb))).symm⟩) (by simp)
      (fun Q' q => leave_spec (R'.le (by omega)) KX T F₃.keep (fr_size F₃) (X₃.ws.sub SH₃) i4 fun h' tk kk V => q _ _ _ kk ⟨rfl, V⟩) ?_
    rintro v₄ h₄ tk₄ g₄ F₄ N₄ SG₄ SH₄ KG₄ KS₄ up₄ _ ⟨rfl, V₄⟩
    have X₄ := X₃.watch (S := fpW a.x a.dx a.Dc a.Dl a.Dg ls) (fun b hb => hb) KG₄ (V₄.up (fun b hb => nU b (List.mem_append.mpr (.inr hb))) F₄.ns up₄) fun b hb => .inl hb
    clear F₃ N₅
    dsimp only [List.cons_append, List.nil_append] at N₄
    walk_at "goD"
    refine step [_] [a.Kd] [] (fun v h' => ∃ D, v = .ref D ∧ KnownAt prog w h' (UW a ls) a.Kd n (upd (F) k (tick ((F) k) k)) ∧ SpanAt h' (UW a ls) D ((F) k)) F₄ N₄ SG₄ (by simpa using ⟨nU _ m.2.1, X₄.off _ m.2.1, (nV _ m.2.1).symm⟩) (by simp)
      (fun Q' q => ltold_spec (R'.le (by omega)) KX T F₄.keep (fr_size F₄) (X₄.off _ m.2.1) (X₄.sub SH₄).live (X₄.kn.sub SH₄) m.2.1 k0 k1 (by omega) cF fun D h' tk kk K d => q _ _ _ kk ⟨D, rfl, K, d⟩) ?_
    rintro v₅ h₅ tk₅ g₅ F₅ N₅ SG₅ SH₅ KG₅ KS₅ up₅ _ ⟨D, rfl, K₅, d⟩
    have K₅ := K₅.imp (fun o e => up₅ _ o e (nU _ m.2.1) (by simp)) fun b f x => x.up F₅.ns up₅
    have d := d.up F₅.ns up₅
    have X₅ := X₄.known KG₅ K₅
    clear F₄ N₄
    dsimp only [List.cons_append, List.nil_append] at N₅
    walk_at "goD"
    rename Fr _ _ _ _ => F₆
    rename News _ _ _ _ => N₆
    have SH₆ : Sub g₅ _ := sub_of F₆ N₆ (fun p hp => .tail _ hp) SG₅
    obtain ⟨mk5, hM5, hb5, ⟨ga, hga, gaU, sg, hlg, hrg⟩, hE5⟩ := id X₅.mks
    obtain ⟨dU, sd, hld, hrd⟩ := id d
    have lg := rel_len hrg (I.dg.cap I hB')
    have ld := rel_len hrd cF
    have hu : A'.units + 64 < cLine := by have := R'.units; omega
    refine mark_item (k := kG) (dict_sub hM5 (SH₆ _)) hga ?_
    walk_at "goD"
    refine comp_filter (p := fun q => !decide (q ∈ sg)) R'.hand F₆ N₆ (hld.sub SH₆) (by omega) (by with_unfolding_all rfl) (by decide) (by rfl) (by decide) (by rfl) (by rfl) ?hev ?test ?hend
    case hev =>
      intro Q' hq
      walk_at "goD"
      exact hq _
    case test =>
      rintro C oC pv q s₃ m₃ E' hq hpair hoC hx F₄ N₄ k₃
      have SS₄ : Sub g₅ s₃.heap := fun b o e => k₃ _ _ (SH₆ b o e)
      walk_at "goD"
      refine mark_item (k := kG) (dict_sub hM5 (SS₄ _)) hga ?_
      walk_at "goD"
      refine span_notin (hlg.sub SS₄).lst hpair hu ?_
      walk_at "goD"
      exact ⟨_, _, rfl, fun _ _ e => e⟩
    case hend =>
      intro D₇ h₇ tk₇ nD₇ hpD₇ kk₇
      have F₇ := fr_sub F₆ kk₇
      have N₇ := news_sub N₆ kk₇
      have SH₇ : Sub g₅ h₇ := fun b o e => kk₇ _ _ (SH₆ b o e)
      clear F₆ N₆
      walk_at "goD"
      refine list_plus (hlg.sub SH₇) hpD₇ (by have := List.length_filter_le (fun q => !decide (q ∈ sg)) sd; omega) fun D₈ h₈ nD₈ hpD₈ kk₈ => ?_
      have F₈ := fr_sub F₇ kk₈
      have N₈ := news_sub N₇ kk₈
      have SH₈ : Sub g₅ h₈ := fun b o e => kk₈ _ _ (SH₇ b o e)
      clear F₇ N₇
      walk_at "goD"
      refine step [_] [a.Md] [] (fun v h' => MarksAt prog w h' (UW a ls) a.Md (join G (F k)) (feOf (ls 8))) F₈ N₈ SG₅ (by simpa using ⟨nU _ m.2.2.1, X₅.off _ m.2.2.1, (nV _ m.2.2.1).symm⟩) (by simp)
        (fun Q' q => set_gmark (X₅.sub SH₈).mks m.2.2.1 ⟨not_live (X₅.sub SH₇).live nD₈, _, hpD₈, rel_join hrg hrd⟩ fun h' tk kk M => q _ _ _ kk M) ?_
      rintro v₆ h₆ tk₆ g₆ F₆ N₆ SG₆ SH₆ KG₆ KS₆ up₆ _ M₆
      have X₆ := X₅.marks KG₆ (M₆.imp (fun o e => up₆ _ o e (nU _ m.2.2.1) (by simp)) fun b f x => x.up F₆.ns up₆)
      clear F₈ N₈
      dsimp only [List.cons_append, List.nil_append] at N₆
      have I1 := I.tick k0 k1
      have Ig := I1.gate (I1.dg.join' (I.told k0 k1))
      have kZ : ∀ b ∈ [a.Z], b ∈ UW a ls := by simpa using m.1
      have kK : ∀ b ∈ [a.Kd], b ∈ UW a ls := by simpa using m.2.1
      have kM : ∀ b ∈ [a.Md], b ∈ UW a ls := by simpa using m.2.2.1
      have kW : ∀ b ∈ fpW a.x a.dx a.Dc a.Dl a.Dg ls, b ∈ UW a ls := fun b hb => List.mem_append.mpr (.inr hb)
      have kG₆ : Keep (UW a ls) s.heap g₆ := ((((KG₂.trans KG₃).mono kZ).trans (KG₄.mono kW)).trans (KG₅.mono kK)).trans (KG₆.mono kM)
      walk_at "goD"
      refine hide_post fun Ph6 hPh6 => ?_
      refine wpAny_If ?_
      walk_at "goD"
      obtain ⟨sa₆, sb₆, hsrc₆, hsb₆⟩ := X₆.src
      refine step [_] [a.Z] [] (fun v h' => ∃ r u, v = .int r u ∧ 0 ≤ r ∧ r < 3 ∧ ∃ u v, SrcOk h' a.Z u v ∧ 0 ≤ v ∧ v < 2147483647) F₆ N₆ SG₆ (by simpa using ⟨nU _ m.1, X₆.off _ m.1, (nV _ m.1).symm⟩) (by simp)
        (fun Q' q => take_spec (R'.le (by omega)) KX T F₆.keep (fr_size F₆) (X.off _ m.1) (hsrc₆.tr (SH₆ _)) hsb₆ ⟨by omega, by omega⟩ fun r u a' b' h' tk kk s1 s2 s3 s4 => q _ _ _ kk ⟨r, u, rfl, s3, s4, a', b', s1, s2⟩) ?_
      rintro v₇ h₇ tk₇ g₇ F₇ N₇ SG₇ SH₇ KG₇ KS₇ up₇ _ ⟨r, ru₇, rfl, r0, r1, z₇⟩
      have X₇ := X₆.source KG₇ (let ⟨u, v, x, y⟩ := z₇; ⟨u, v, x.tr fun o e => up₇ _ o e (nU _ m.1) (by simp), y⟩)
      clear F₆ N₆
      dsimp only [List.cons_append, List.nil_append] at N₇
      obtain ⟨e1, e2, e3, e4, e5, t1, t2, t3, t4, t5, Dp, Rl, nn, N₈⟩ := wi_news2 (cs := [_]) N₇ X₇.ws.cs.wi
      clear N₇
      walk_at "goD"
      · have N₉ := news_tail (news' := [_] ++ dump h₀ g₇) N₈ (fun p hp => .tail _ (.tail _ hp))
        clear N₈
        refine step [_] (fpW a.x a.dx a.Dc a.Dl a.Dg ls) [] (fun v h' => ∃ ls' l, v = .none ∧ WS prog w h₀ h' a.x a.dx a.Dc a.Dl a.Dg (upd (upd F k (tick (F k) k)) k (tick ((upd F k (tick (F k) k)) k) k)) ls' (join G (F k)) ∧ ls' 8 = some l ∧ l.sent = sentOf (ls 8) ∧ l.recv = recvOf (ls 8) ∧ l.fe = (upd F k (tick (F k) k)) k ∧ (∀ j, j ≠ 8 → ls' j = ls j) ∧
            (∀ b ∈ fpW a.x a.dx a.Dc a.Dl a.Dg ls', b ∈ fpW a.x a.dx a.Dc a.Dl a.Dg ls ∨ h₇.get? b = none)) F₇ N₉ SG₇ (fun b hb => ⟨nU b (List.mem_append.mpr (.inr hb)), X₇.off b (List.mem_append.mpr (.inr hb)), by simpa using (nV b (List.mem_append.mpr (.inr hb))).symm⟩) (by simp)
          (fun Q' q => close_spec (R'.le (by omega)) KX T F₇.keep (fr_size F₇) (X₇.ws.sub SH₇) i4 (.inr rfl) fun ls' l h' tk kk V b c d e f g => q _ _ _ kk ⟨ls', l, rfl, V, b, c, d, e, f, g⟩) ?_
        rintro v₈ h₈ tk₈ g₈ F₈ N₇ SG₈ SH₈ KG₈ KS₈ up₈ _ ⟨ls', l, rfl, V₈, hl, hsent, hrecv, hfe, hlo, hfr⟩
        have nf₈ : ∀ b ∈ fpW a.x a.dx a.Dc a.Dl a.Dg ls', b ≠ L := fun b hb => (hfr b hb).elim (fun q => nU b (kW b q)) fun q => fresh_ne F₇.ns q
        have nf₉ : ∀ b ∈ fpW a.x a.dx a.Dc a.Dl a.Dg ls', b ≠ L + 1 := fun b hb => (hfr b hb).elim (fun q => nV b (kW b q)) fun q => live_ne (N₉ _ (.head _)).1 q
        have fr₈ : ∀ b ∈ a.fp ls', b ∈ a.fp ls ∨ g₇.get? b = none := fun b hb => (hfr b hb).imp id fun q => sub_none SH₇ q
        have X₈ := X₇.watch (S := fpW a.x a.dx a.Dc a.Dl a.Dg ls) (fun b hb => hb) KG₈ (V₈.up nf₈ F₈.ns up₈) fr₈
        have kG₇ : Keep (UW a ls) s.heap g₇ := kG₆.trans (KG₇.mono kZ)
        have kG₈ : Keep (UW a ls) s.heap g₈ := kG₇.trans (KG₈.mono kW)
        have frU : ∀ b ∈ UW a ls', b ∈ UW a ls ∨ s.heap.get? b = none := fun b hb => fresh_back kG₇ (by
          rcases List.mem_append.mp hb with hb | hb
          · exact .inl (List.mem_append.mpr (.inl hb))
          · exact (fr₈ b hb).imp (kW b) id)
        have m := X₈.mem
        have nU : ∀ b ∈ UW a ls', b ≠ L := fun b hb => by
          rcases List.mem_append.mp hb with hb | hb
          · exact nU b (List.mem_append.mpr (.inl hb))
          · exact nf₈ b hb
        have nV : ∀ b ∈ UW a ls', b ≠ L + 1 := fun b hb => by
          rcases List.mem_append.mp hb with hb | hb
          · exact nV b (List.mem_append.mpr (.inl hb))
          · exact nf₉ b hb
        have fe8 : feOf (ls' 8) = (upd F k (tick (F k) k)) k := by rw [hl]; exact hfe
        have s8 : sentOf (ls' 8) = sentOf (ls 8) := by rw [hl]; exact hsent
        have r8 : recvOf (ls' 8) = recvOf (ls 8) := by rw [hl]; exact hrecv
        have e7 := hlo 7 (by decide)
        have cF1 := I1.capF i4 (by omega)
        have I2 := (Ig.tick k0 k1).ends (I1.told k0 k1)
        clear F₇ N₉
        dsimp only [List.cons_append, List.nil_append] at N₇
        walk_at "goD"
        refine step [_] [a.Kd] [] (fun v h' => ∃ D, v = .ref D ∧ KnownAt prog w h' (UW a ls') a.Kd n (upd (upd F k (tick (F k) k)) k (tick ((upd F k (tick (F k) k)) k) k)) ∧ SpanAt h' (UW a ls') D ((upd F k (tick (F k) k)) k)) F₈ N₇ SG₈ (by simpa using ⟨nU _ m.2.1, X₈.off _ m.2.1, (nV _ m.2.1).symm⟩) (by simp)
          (fun Q' q => ltold_spec (R'.le (by omega)) KX T F₈.keep (fr_size F₈) (X₈.off _ m.2.1) (X₈.sub SH₈).live (X₈.kn.sub SH₈) m.2.1 k0 k1 (by omega) cF1 fun D h' tk kk K d => q _ _ _ kk ⟨D, rfl, K, d⟩) ?_
        rintro v₉ h₉ tk₉ g₉ F₉ N₈ SG₉ SH₉ KG₉ KS₉ up₉ _ ⟨D2, rfl, K₉, d2⟩
        have K₉ := K₉.imp (fun o e => up₉ _ o e (nU _ m.2.1) (by simp)) fun b f x => x.up F₉.ns up₉
        have d2 := d2.up F₉.ns up₉
        have X₉ := X₈.known KG₉ K₉
        clear F₈ N₇
        dsimp only [List.cons_append, List.nil_append] at N₈
        walk_at "goD"
        refine set_emark (X₉.sub SH₉).mks m.2.2.1 (d2.sub SH₉) fun h₁₀ tk₁₀ kk₁₀ M₁₀ => ?_
        have X₁₀ := (X₉.sub SH₉).marks kk₁₀ M₁₀
        have F₁₀ := fr_keep F₉ kk₁₀ (by simpa using (nU _ m.2.2.1).symm) (by simpa using X₈.off _ m.2.2.1)
        have N₁₀ : News h₀ L h₁₀ [] := News.nil
        clear F₉ N₈
        walk_at "goD"
        (try subst hPh7); (try subst hPh6); (try subst hPh5); (try subst hPh4); (try subst hPh3); (try subst hPh2); (try subst hPh1); subst hP₀; walk_at "goD"
        dsimp only
        exact hQ n _ ls' _ h₁₀ _ (((kG₈.trans (KG₉.mono kK)).trans (Keep.of_sub SH₉)).trans (kk₁₀.mono kM)) ⟨by rw [fe8, e7]; exact X₁₀, by rw [fe8, e7]; exact I2.mono (by omega), by rw [e7, s8, r8]; omega⟩ frU
      · (try subst hPh7); (try subst hPh6); (try subst hPh5); (try subst hPh4); (try subst hPh3); (try subst hPh2); (try subst hPh1); subst hP₀; walk_at "goD"
        dsimp only
        exact hQ n _ ls _ h₇ _ ((kG₆.trans (KG₇.mono kZ)).trans (Keep.of_sub SH₇)) ⟨X₇.sub SH₇, Ig.mono (by omega), by omega⟩ fun b hb => .inl hb
  · obtain ⟨e1, e2, e3, e4, e5, t1, t2, t3, t4, t5, Dp, Rl, nn, N₄⟩ := wi_news2 (cs := [_]) N₃ X₃.ws.cs.wi
    walk_at "goD"
    have N₅ := news_tail (news' := [_] ++ dump h₀ g₃) N₄ (fun p hp => .tail _ (.tail _ hp))
    clear N₃ N₄
    have kZ : ∀ b ∈ [a.Z], b ∈ UW a ls := by simpa using m.1
    have kK : ∀ b ∈ [a.Kd], b ∈ UW a ls := by simpa using m.2.1
    have kM : ∀ b ∈ [a.Md], b ∈ UW a ls := by simpa using m.2.2.1
    have kW : ∀ b ∈ fpW a.x a.dx a.Dc a.Dl a.Dg ls, b ∈ UW a ls := fun b hb => List.mem_append.mpr (.inr hb)
    have dcW : a.Dc ∈ fpW a.x a.dx a.Dc a.Dl a.Dg ls := by simp [fpW]
    refine step [_] [a.Dc] [] (fun v h' => v = .none ∧ WS prog w h₀ h' a.x a.dx a.Dc a.Dl a.Dg (upd F k (join (F k) G)) ls G) F₃ N₅ SG₃ (by simpa using ⟨nU _ (kW _ dcW), X.off _ (kW _ dcW), (nV _ (kW _ dcW)).symm⟩) (by simp)
      (fun Q' q => enter_spec (R'.le (by omega)) KX T F₃.keep (fr_size F₃) (X₃.ws.sub SH₃) i4 fun h' tk kk V => q _ _ _ kk ⟨rfl, V⟩) ?_
    rintro v₄ h₄ tk₄ g₄ F₄ N₄ SG₄ SH₄ KG₄ KS₄ up₄ _ ⟨rfl, V₄⟩
    have X₄ := X₃.watch (S := [a.Dc]) (fun b hb => by rw [List.mem_singleton.mp hb]; exact dcW) KG₄ (V₄.up (fun b hb => nU b (List.mem_append.mpr (.inr hb))) F₄.ns up₄) fun b hb => .inl hb
    clear F₃ N₅
    dsimp only [List.cons_append, List.nil_append] at N₄
    obtain ⟨mk4, hM4, hb4, ⟨ga, hga, gaS⟩, hE4⟩ := id X₄.mks
    walk_at "goD"
    refine mark_item (k := kG) (dict_sub hM4 (SH₄ _)) hga ?_
    walk_at "goD"
    refine step [_] [a.Kd] [] (fun v h' => v = .none ∧ KnownAt prog w h' (UW a ls) a.Kd n (upd (F) k (join ((F) k) G))) F₄ N₄ SG₄ (by simpa using ⟨nU _ m.2.1, X₄.off _ m.2.1, (nV _ m.2.1).symm⟩) (by simp)
      (fun Q' q => llearn_spec (R'.le (by omega)) KX T F₄.keep (fr_size F₄) (X₄.off _ m.2.1) (X₄.sub SH₄).live (X₄.kn.sub SH₄) m.2.1 k0 k1 (by omega) cF (I.dg.cap I hB') (gaS.sub SH₄) fun h' tk kk K => q _ _ _ kk ⟨rfl, K⟩) ?_
    rintro v₅ h₅ tk₅ g₅ F₅ N₅ SG₅ SH₅ KG₅ KS₅ up₅ _ ⟨rfl, K₅⟩
    have K₅ := K₅.imp (fun o e => up₅ _ o e (nU _ m.2.1) (by simp)) fun b f x => x.up F₅.ns up₅
    have X₅ := X₄.known KG₅ K₅
    clear F₄ N₄
    dsimp only [List.cons_append, List.nil_append] at N₅
    have I1 := I.join k0 k1 I.dg
    have kG₅ : Keep (UW a ls) s.heap g₅ := (((KG₂.trans KG₃).mono kZ).trans (KG₄.mono (by simpa using kW _ dcW))).trans (KG₅.mono kK)
    obtain ⟨mk5, hM5, hb5, _, hE5⟩ := id X₅.mks
    obtain ⟨e1, e2, e3, e4, e5, t1, t2, t3, t4, t5, Dp, Rl, nn, N₆⟩ := wi_news2 (cs := [_]) N₅ X₅.ws.cs.wi
    clear N₅
    walk_at "goD"
    refine hide_post fun Ph7 hPh7 => ?_
    refine wpAny_If ?_
    walk_at "goD"
    refine mark_in (k := kE) (dict_sub hM5 (SH₅ _)) X.ml ?_
    cases hve : valueAt mk5 kE with
    | none =>
      simp only [Option.isSome_none]
      walk_at "goD"
      (try subst hPh7); (try subst hPh6); (try subst hPh5); (try subst hPh4); (try subst hPh3); (try subst hPh2); (try subst hPh1); subst hP₀; walk_at "goD"
      dsimp only
      exact hQ n _ ls G h₅ _ (kG₅.trans (Keep.of_sub SH₅)) ⟨X₅.sub SH₅, I1.mono (by omega), by omega⟩ fun b hb => .inl hb
    | some ve =>
      obtain ⟨ea, rfl, eS⟩ := hE5 ve hve
      simp only [Option.isSome_some]
      walk_at "goD"
      have N₅ := news_tail (news' := [_] ++ dump h₀ g₅) N₆ (fun p hp => .tail _ (.tail _ hp))
      clear N₆
      obtain ⟨sa₅, sb₅, hsrc₅, hsb₅⟩ := X₅.src
      refine step [_] [a.Z] [] (fun v h' => ∃ r u, v = .int r u ∧ 0 ≤ r ∧ r < 2 ∧ ∃ u v, SrcOk h' a.Z u v ∧ 0 ≤ v ∧ v < 2147483647) F₅ N₅ SG₅ (by simpa using ⟨nU _ m.1, X₅.off _ m.1, (nV _ m.1).symm⟩) (by simp)
        (fun Q' q => take_spec (R'.le (by omega)) KX T F₅.keep (fr_size F₅) (X.off _ m.1) (hsrc₅.tr (SH₅ _)) hsb₅ ⟨by omega, by omega⟩ fun r u a' b' h' tk kk s1 s2 s3 s4 => q _ _ _ kk ⟨r, u, rfl, s3, s4, a', b', s1, s2⟩) ?_
      rintro v₆ h₆ tk₆ g₆ F₆ N₆ SG₆ SH₆ KG₆ KS₆ up₆ _ ⟨r, ru₆, rfl, r0, r1, z₆⟩
      have X₆ := X₅.source KG₆ (let ⟨u, v, x, y⟩ := z₆; ⟨u, v, x.tr fun o e => up₆ _ o e (nU _ m.1) (by simp), y⟩)
      clear F₅ N₅
      dsimp only [List.cons_append, List.nil_append] at N₆
      have eS := eS.tr KG₆ kZ
      have hM6 := dict_sub hM5 fun o e => KG₆.at (by simpa using X.ne.1.2.1.symm) e
      obtain ⟨e1, e2, e3, e4, e5, t1, t2, t3, t4, t5, Dp, Rl, nn, N₇⟩ := wi_news2 (cs := [_]) N₆ X₆.ws.cs.wi
      clear N₆
      walk_at "goD"
      · have N₈ := news_tail (news' := [_] ++ dump h₀ g₆) N₇ (fun p hp => .tail _ (.tail _ hp))
        clear N₇
        refine step [_] (fpW a.x a.dx a.Dc a.Dl a.Dg ls) [] (fun v h' => ∃ ls' l, v = .none ∧ WS prog w h₀ h' a.x a.dx a.Dc a.Dl a.Dg (upd (upd F k (join (F k) G)) k (join ((upd F k (join (F k) G)) k) (feOf (ls 8)))) ls' G ∧ ls' 8 = some l ∧ l.sent = sentOf (ls 8) ∧ l.recv = recvOf (ls 8) ∧ l.fe = feOf (ls 8) ∧ (∀ j, j ≠ 8 → ls' j = ls j) ∧
            (∀ b ∈ fpW a.x a.dx a.Dc a.Dl a.Dg ls', b ∈ fpW a.x a.dx a.Dc a.Dl a.Dg ls ∨ h₆.get? b = none)) F₆ N₈ SG₆ (fun b hb => ⟨nU b (List.mem_append.mpr (.inr hb)), X₆.off b (List.mem_append.mpr (.inr hb)), by simpa using (nV b (List.mem_append.mpr (.inr hb))).symm⟩) (by simp)
          (fun Q' q => rclosed_spec (R'.le (by omega)) KX T F₆.keep (fr_size F₆) (X₆.ws.sub SH₆) i4 (.inr rfl) fun ls' l h' tk kk V b c d e f g => q _ _ _ kk ⟨ls', l, rfl, V, b, c, d, e, f, g⟩) ?_
        rintro v₇ h₇ tk₇ g₇ F₇ N₇ SG₇ SH₇ KG₇ KS₇ up₇ _ ⟨ls', l, rfl, V₇, hl, hsent, hrecv, hfe, hlo, hfr⟩
        have nf₈ : ∀ b ∈ fpW a.x a.dx a.Dc a.Dl a.Dg ls', b ≠ L := fun b hb => (hfr b hb).elim (fun q => nU b (kW b q)) fun q => fresh_ne F₆.ns q
        have nf₉ : ∀ b ∈ fpW a.x a.dx a.Dc a.Dl a.Dg ls', b ≠ L + 1 := fun b hb => (hfr b hb).elim (fun q => nV b (kW b q)) fun q => live_ne (N₈ _ (.head _)).1 q
        have fr₈ : ∀ b ∈ a.fp ls', b ∈ a.fp ls ∨ g₆.get? b = none := fun b hb => (hfr b hb).imp id fun q => sub_none SH₆ q
        have X₇ := X₆.watch (S := fpW a.x a.dx a.Dc a.Dl a.Dg ls) (fun b hb => hb) KG₇ (V₇.up nf₈ F₇.ns up₇) fr₈
        have eS := span_watch eS X₆ (S := fpW a.x a.dx a.Dc a.Dl a.Dg ls) (fun b hb => hb) KG₇ fr₈
        have hM7 := dict_sub hM6 fun o e => KG₇.at (fun q => X.ap a.Md (by simp [own5]) q) e
        have kG₆ : Keep (UW a ls) s.heap g₆ := kG₅.trans (KG₆.mono kZ)
        have kG₇ : Keep (UW a ls) s.heap g₇ := kG₆.trans (KG₇.mono kW)
        have frU : ∀ b ∈ UW a ls', b ∈ UW a ls ∨ s.heap.get? b = none := fun b hb => fresh_back kG₆ (by
          rcases List.mem_append.mp hb with hb | hb
          · exact .inl (List.mem_append.mpr (.inl hb))
          · exact (fr₈ b hb).imp (kW b) id)
        have m := X₇.mem
        have nU : ∀ b ∈ UW a ls', b ≠ L := fun b hb => by
          rcases List.mem_append.mp hb with hb | hb
          · exact nU b (List.mem_append.mpr (.inl hb))
          · exact nf₈ b hb
        have fe8 : feOf (ls' 8) = feOf (ls 8) := by rw [hl]; exact hfe
        have s8 : sentOf (ls' 8) = sentOf (ls 8) := by rw [hl]; exact hsent
        have r8 : recvOf (ls' 8) = recvOf (ls 8) := by rw [hl]; exact hrecv
        have e7 := hlo 7 (by decide)
        have I2 := I1.join k0 k1 I1.de
        clear F₆ N₈
        dsimp only [List.cons_append, List.nil_append] at N₇
        walk_at "goD"
        refine mark_item (k := kE) (dict_sub hM7 (SH₇ _)) hve ?_
        walk_at "goD"
        refine llearn_spec (R'.le (by omega)) KX T F₇.keep (fr_size F₇) (X₇.off _ m.2.1) (X₇.sub SH₇).live (X₇.kn.sub SH₇) m.2.1 k0 k1 (by omega) (I1.capF i4 (by omega)) (I.de.cap I hB') (eS.sub SH₇) fun h₁₀ tk₁₀ kk₁₀ K₁₀ => ?_
        have X₁₀ := (X₇.sub SH₇).known kk₁₀ K₁₀
        have F₁₀ := fr_keep F₇ kk₁₀ (by simpa using (nU _ m.2.1).symm) (by simpa using X₇.off _ m.2.1)
        have N₁₀ : News h₀ L h₁₀ [] := News.nil
        clear F₇ N₇
        walk_at "goD"
        (try subst hPh7); (try subst hPh6); (try subst hPh5); (try subst hPh4); (try subst hPh3); (try subst hPh2); (try subst hPh1); subst hP₀; walk_at "goD"
        dsimp only
        exact hQ n _ ls' _ h₁₀ _ ((kG₇.trans (Keep.of_sub SH₇)).trans (kk₁₀.mono kK)) ⟨by rw [fe8, e7]; exact X₁₀, by rw [fe8, e7]; exact I2.mono (by omega), by rw [e7, s8, r8]; omega⟩ frU
      · (try subst hPh7); (try subst hPh6); (try subst hPh5); (try subst hPh4); (try subst hPh3); (try subst hPh2); (try subst hPh1); subst hP₀; walk_at "goD"
        dsimp only
        exact hQ n _ ls _ h₆ _ ((kG₅.trans (KG₆.mono kZ)).trans (Keep.of_sub SH₆)) ⟨X₆.sub SH₆, I1.mono (by omega), by omega⟩ fun b hb => .inl hb
end

section
open PySem PySem.W PyProof.Rows PySem.Calls
set_option maxRecDepth 100000
set_option Elab.async false
set_option maxHeartbeats 4000000
abbrev two (elt t1 i1 t2 i2 : PySem.Expr) (scope : Scope) (pos : Pos) : PySem.Expr := .ListComp elt [⟨t1, i1, [], 0⟩, ⟨t2, i2, [], 0⟩] scope pos
theorem compTurn_two0 (elt t1 i1 t2 i2 : PySem.Expr) (scope : Scope) (pos : Pos) (it acc : Value) (env : Env) :
    compTurn (two elt t1 i1 t2 i2 scope pos) 0 it acc env = (standAt i1.pos >>= fun _ => pyNext it >>= fun r => match r with
      | none => pure (.done .next)
      | some v => letOwnedTupleGo t1 it v >>= fun _ => assign t1 env v >>= fun _ =>
        eval i2 env >>= fun x => standAt i2.pos >>= fun _ => foldedSetIterable i2 env x >>= fun x => holding [x] (pyIter x) >>= fun it2 => runOwn (.compStart (two elt t1 i1 t2 i2 scope pos) 1 it2 acc env) env >>= fun _ =>
          again (.compLoop (two elt t1 i1 t2 i2 scope pos) 0 it acc env)) := by rfl
theorem compTurn_two1 (elt t1 i1 t2 i2 : PySem.Expr) (scope : Scope) (pos : Pos) (it acc : Value) (env : Env) :
    compTurn (two elt t1 i1 t2 i2 scope pos) 1 it acc env = (standAt i2.pos >>= fun _ => pyNext it >>= fun r => match r with
      | none => pure (.done .next)
      | some v => letOwnedTupleGo t2 it v >>= fun _ => assign t2 env v >>= fun _ =>
        (eval elt env >>= fun x => call (.builtin "list.append") [acc, x] >>= fun _ => pure ()) >>= fun _ =>
          again (.compLoop (two elt t1 i1 t2 i2 scope pos) 1 it acc env)) := by rfl
section
variable {prog : Program} {w : World} {A : Around} {E : Value → Shared → Prop} {s : Shared} {elt t1 i1 t2 i2 : PySem.Expr} {scope : Scope} {pos : Pos} {it acc : Value} {env : Env} {R : Result → Shared → Prop}
abbrev NoE : Value → Shared → Prop := fun _ _ => False
theorem comp_out (I : Nat → Shared → Prop)
    (turn : ∀ n s, I n s → wpAny (model prog w) A (pyNext it) (fun r s₁ => match r with
      | none => R (.ok .next) s₁
      | some v => wpAny (model prog w) A (letOwnedTupleGo t1 it v) (fun _ s₂ => wpAny (model prog w) A (assign t1 env v) (fun _ s₃ => wpAny (model prog w) A (eval i2 env) (fun x s₄ => wpAny (model prog w) A (pyIter x) (fun it2 s₅ =>
          codeAny (model prog w) A (.compStart (two elt t1 i1 t2 i2 scope pos) 1 it2 acc env) (fun r s₆ => (∃ f, r = .ok f) ∧ ∃ m, m < n ∧ I m s₆) s₅) NoE s₄) NoE s₃) NoE s₂) NoE s₁) NoE s)
    (n : Nat) (h : I n s) (hs : ∀ x, foldedSetIterable i2 env x = pure x) : codeAny (model prog w) A (.compLoop (two elt t1 i1 t2 i2 scope pos) 0 it acc env) R s := by
  refine codeAny_loop rfl I (fun n s hI => ?_) n h
  show wpAny _ A ((compTurn (two elt t1 i1 t2 i2 scope pos) 0 it acc env).onRaise (fun x => do noteFrame x env; theTreesLotGoes x)) _ _ s
  refine wpAny_noted ?_
  rw [compTurn_two0]
  refine wpAny_bind (wpAny_standAt (wpAny_bind (wpAny_mono (turn n s hI) (fun r s₁ h₁ => ?_) fun _ _ x => x.elim)))
  cases r with
  | none => exact wpAny_pure h₁
  | some v =>
    refine wpAny_bind (wpAny_mono h₁ (fun _ s₂ h₂ => wpAny_bind (wpAny_mono h₂ (fun _ s₃ h₃ => ?_) fun _ _ x => x.elim)) fun _ _ x => x.elim)
    refine wpAny_bind (wpAny_mono h₃ (fun x s₄ h₄ => wpAny_bind (wpAny_standAt (wpAny_bind (wpAny_of_eq (hs x) (wpAny_bind (wpAny_holding (wpAny_mono h₄ (fun it2 s₅ h₅ => wpAny_bind (wpAny_runOwn ?_)) fun _ _ x => x.elim))))))) fun _ _ x => x.elim)
    exact codeAny_mono h₅ fun r s₆ ⟨⟨f, e⟩, q⟩ => by subst e; exact wpAny_pure ⟨rfl, q⟩
theorem comp_in (I : Nat → Shared → Prop)
    (turn : ∀ n s, I n s → wpAny (model prog w) A (pyNext it) (fun r s₁ => match r with
      | none => R (.ok .next) s₁
      | some v => wpAny (model prog w) A (assign t2 env v) (fun _ s₃ => wpAny (model prog w) A (eval elt env) (fun x s₄ => wpAny (model prog w) A (call (.builtin "list.append") [acc, x]) (fun _ s₅ => ∃ m, m < n ∧ I m s₅) NoE s₄) NoE s₃) NoE s₁) NoE s)
    (n : Nat) (h : I n s) (ht : ∀ v, letOwnedTupleGo t2 it v = pure ()) : codeAny (model prog w) A (.compLoop (two elt t1 i1 t2 i2 scope pos) 1 it acc env) R s := by
  refine codeAny_loop rfl I (fun n s hI => ?_) n h
  show wpAny _ A ((compTurn (two elt t1 i1 t2 i2 scope pos) 1 it acc env).onRaise (fun x => do noteFrame x env; theTreesLotGoes x)) _ _ s
  refine wpAny_noted ?_
  rw [compTurn_two1]
  refine wpAny_bind (wpAny_standAt (wpAny_bind (wpAny_mono (turn n s hI) (fun r s₁ h₁ => ?_) fun _ _ x => x.elim)))
  cases r with
  | none => exact wpAny_pure h₁
  | some v =>
    refine wpAny_bind (wpAny_of_eq (ht v) ?_)
    exact wpAny_bind (wpAny_mono h₁ (fun _ s₂ h₂ => wpAny_bind (wpAny_bind (wpAny_mono h₂ (fun x s₃ h₃ => wpAny_bind (wpAny_mono h₃
      (fun _ s₄ h₄ => wpAny_pure (wpAny_pure ⟨rfl, h₄⟩)) fun _ _ x => x.elim)) fun _ _ x => x.elim))) fun _ _ x => x.elim)
theorem comp_start1 (h0 : codeAny (model prog w) A (.compLoop (two elt t1 i1 t2 i2 scope pos) 1 it acc env) R s)
    (h : wpAny (model prog w) A (pyIter it) (fun it' s' => codeAny (model prog w) A (.compLoop (two elt t1 i1 t2 i2 scope pos) 1 it' acc env) R s') (notedBy (model prog w) A env fun x s' => R (.error x) s') s) :
    codeAny (model prog w) A (.compStart (two elt t1 i1 t2 i2 scope pos) 1 it acc env) R s := by
  refine codeAny_of_tree ?_
  show wpAny _ _ ((compStart (two elt t1 i1 t2 i2 scope pos) 1 it acc env).onRaise (fun x => do noteFrame x env; standAt theWindowsPlace)) _ _ s
  refine wpAny_notedAt ?_
  unfold compStart
  show wpAny _ _ (ask >>= _) _ _ s
  refine wpAny_bind (wpAny_askSetting (wpAny_ite ?_))
  split
  · first
      | exact wpAny_bind (wpAny_pure (wpAny_pure (And.intro rfl h0)))
      | exact wpAny_pure (And.intro rfl h0)
  · first
      | exact wpAny_bind (wpAny_rule (wpAny_bind (wpAny_standAt (wpAny_bind (wpAny_mono h (fun it' s' h' => wpAny_pure (And.intro rfl h')) fun _ _ x => x)))))
      | (refine wpAny_bind (wpAny_rule ?_); show wpAny _ _ (standAt i2.pos >>= _) _ _ s; exact wpAny_bind (wpAny_standAt (wpAny_bind (wpAny_mono h (fun it' s' h' => wpAny_pure (And.intro rfl h')) fun _ _ x => x))))
end

theorem range_walks' {prog : Program} {w : World} {A : Around} {I : Addr} (hh : A.handled = none) (n : Nat) : Walks prog w A I [I] [I] n (fun i v => ∃ t, v = .int (0 + (i : Int)) t) (fun i h => IsRangeIter h I (0 + (i : Int) * 1) ((n : Int) - (i : Int)) 1) :=
  LCg.range_walks hh 0 n
theorem spans_take {ps : Clk} {i : Nat} {p : Int × Int} (h : ps[i]? = some p) : spansOf (ps.take (i + 1)) = spansOf (ps.take i) ++ turns p.1 p.2.toNat := by
  unfold spansOf
  rw [List.take_add_one, h, List.flatMap_append]
  simp
theorem turns_succ (k : Int) (n : Nat) : turns k (n + 1) = turns k n ++ [(k, (n : Int) + 1)] := by
  unfold turns
  rw [List.range_succ, List.map_append]
  rfl
theorem range_size {n : Nat} : Builtin.Range.rangeSize 0 n 1 = n := by
  unfold Builtin.Range.rangeSize
  rw [if_pos (by decide)]
  split <;> omega
theorem spans_len_take {ps : Clk} {i : Nat} : (spansOf (ps.take i)).length ≤ (spansOf ps).length := by
  have : spansOf ps = spansOf (ps.take i) ++ spansOf (ps.drop i) := by
    unfold spansOf
    rw [← List.flatMap_append, List.take_append_drop]
  rw [this, List.length_append]; omega

section
variable {prog : Program} {w : World} {A : Around} {E : Value → Shared → Prop} {s : Shared} {h₀ : Heap} {L : Addr} {m : Str → Option Value} {news : List (Addr × Obj)} {env : Env}
theorem spans_comp {iter elt i2 : PySem.Expr} {a b c : Str} {pa pb pc tp : Pos} {kk : Nat} {scope : Scope} {cl : List (Str × Addr)} {pos : Pos} {T : Addr} {vs : List Value} {ps : Clk} {Q : Value → Shared → Prop} (hh : A.handled = none)
    (F : Fr h₀ L s.heap m) (N : News h₀ L s.heap news) (hT : XTup s.heap T (List.toArray vs)) (hps : PairsAll s.heap vs ps) (hz : (spansOf ps).length ≤ 1000) (hnn : ∀ p ∈ ps, 0 ≤ p.2 ∧ p.2 ≤ 1000)
    (hclos : closureFor scope env = pure cl) (hcell : ∀ y ∈ scope.names, y.2 ≠ .cell) (hkind : scope.kind = .function)
    (hnames : ∀ y ∈ scope.names, y.2 = .local → scope.names.lookup y.1 = some .local) (hxa : scope.names.lookup a = some .local) (hxb : scope.names.lookup b = some .local) (hxc : scope.names.lookup c = some .local) (hab : a ≠ b) (hac : a ≠ c)
    (hev : ∀ Q' : Value → Shared → Prop, (∀ tk, Q' (.ref T) { s with toks := tk }) → wpAny (model prog w) A (eval iter env) Q' E s)
    (hr : ∀ C oC (p : Int × Int) u s₃ m₃ (Q' : Value → Shared → Prop), LCg.NsObj oC m₃ → m₃ b = some (.int p.2 u) → Fr h₀ L s₃.heap m → News h₀ L s₃.heap ((C, oC) :: news) →
      (∀ h' tk r t' u' v', IsRange h' r 0 p.2 1 t' u' v' → Sub s₃.heap h' → Q' (.ref r) { s₃ with heap := h', toks := tk }) → wpAny (model prog w) A (eval i2 (compEnvC scope cl C env)) Q' NoE s₃)
    (he : ∀ C oC (p : Int × Int) t (j : Int) v s₃ m₃ (Q' : Value → Shared → Prop), LCg.NsObj oC m₃ → m₃ a = some (.int p.1 t) → m₃ c = some (.int j v) → Fr h₀ L s₃.heap m → News h₀ L s₃.heap ((C, oC) :: news) →
      (∀ h' tk y, PairAt h' y (p.1, j + 1) → Sub s₃.heap h' → Q' y { s₃ with heap := h', toks := tk }) → wpAny (model prog w) A (eval elt (compEnvC scope cl C env)) Q' NoE s₃)
    (hsm : ∀ n : Nat, n ≤ 1000 → Builtin.Range.small 0 n 1 = true)
    (h : ∀ D h' tk, s.heap.get? D = none → PL h' D (spansOf ps) → Sub s.heap h' → Q (.ref D) { s with heap := h', toks := tk })
    (hs : ∀ x, foldedSetIterable iter env x = pure x := by intro _; rfl) (hs2 : ∀ C x, foldedSetIterable i2 (compEnvC scope cl C env) x = pure x := by intro _ _; rfl) :
    wpAny (model prog w) A (eval (two elt (.Tuple [.Name a pa, .Name b pb] kk tp) iter (.Name c pc) i2 scope pos) env) Q E s := by
  rw [eval_ListComp]
  refine wpAny_comprehension_free (use := none) rfl hs hclos hkind hnames (hev _ fun tk₀ => ?_)
  have hTt : s.heap.IsTuple T (List.toArray vs) := hT.isTup
  refine wpAny_pyIter_tuple hTt ?_
  have hTlt : T < s.heap.objs.size := IsTup.lt hTt
  have hlen := hps.length
  generalize hI : s.heap.objs.size = I at hTlt ⊢
  generalize hH1 : s.heap.push { cls := .type "tuple_iterator", data := .fields #[.ref T, .int 0 0] } = H1
  have up1 : Sub s.heap H1 := fun b o e => by rw [← hH1]; exact Heap.get?_push_of_some _ e
  have hit1 : H1.IsTupleIter I T 0 := by rw [← hH1, ← hI]; exact ⟨_, Heap.get?_push_size _ rfl, rfl, rfl⟩
  have hz1 : H1.objs.size = I + 1 := by rw [← hH1, Heap.size_push, hI]
  refine wpAny_newObj_type (wpAny_newFunctionEnv hcell (by intro y hy; simp at hy) (fun h₁ hns₁ hsb₁ => ?_) hkind)
  dsimp only at hns₁ hsb₁ ⊢
  generalize hD : H1.objs.size = D at hns₁ hsb₁ ⊢
  generalize hH2 : H1.push { cls := .type "list", dict := none, data := .seq ([] : List Value).toArray } = H2 at hns₁ hsb₁ ⊢
  have up2 : Sub H1 H2 := fun b o e => by rw [← hH2]; exact Heap.get?_push_of_some _ e
  have hz2 : H2.objs.size = D + 1 := by rw [← hH2, Heap.size_push, hD]
  have hacc2 : H2.PlainList D (List.toArray []) := by rw [← hH2, ← hD]; exact ⟨_, Heap.get?_push_size _ rfl⟩
  generalize hC : H2.objs.size = C at hns₁ hsb₁ ⊢
  have iT : @LT.lt Nat _ T I := hTlt
  have iD : @Eq Nat D (I + 1) := by rw [← hD]; exact hz1
  have iC : @Eq Nat C (D + 1) := by rw [← hC]; exact hz2
  have low : ∀ {b o}, s.heap.get? b = some o → @LT.lt Nat _ b I := fun e => by rw [← hI]; exact Heap.lt_size e
  have neI : ∀ {b o}, s.heap.get? b = some o → b ≠ I := fun e q => by have := low e; rw [q] at this; exact Nat.lt_irrefl _ this
  have neD : ∀ {b o}, s.heap.get? b = some o → b ≠ D := fun e q => by have := low e; have q : @Eq Nat _ _ := q; omega
  have neC : ∀ {b o}, s.heap.get? b = some o → b ≠ C := fun e q => by have := low e; have q : @Eq Nat _ _ := q; omega
  have ID : I ≠ D := fun q => by have q : @Eq Nat _ _ := q; omega
  have IC : I ≠ C := fun q => by have q : @Eq Nat _ _ := q; omega
  have DC : D ≠ C := fun q => by have q : @Eq Nat _ _ := q; omega
  have TI : T ≠ I := Nat.ne_of_lt iT
  have TD : T ≠ D := fun q => by have q : @Eq Nat _ _ := q; omega
  have TC : T ≠ C := fun q => by have q : @Eq Nat _ _ := q; omega
  have old : Sub s.heap h₁ := fun b o e => hsb₁.extBut b o (neC e) (Heap.get?_push_of_some _ (up2 _ _ (up1 _ _ e)))
  have hacc : h₁.PlainList D (List.toArray []) := hacc2.at fun {o} e => hsb₁.extBut D o DC (Heap.get?_push_of_some _ e)
  have hit : h₁.IsTupleIter I T 0 := (hit1.at fun o e => hsb₁.extBut I o IC (Heap.get?_push_of_some _ (up2 _ _ e)))
  have nC : s.heap.get? C = none := none_of_size (by rw [hI]; show @LE.le Nat _ I C; omega)
  have nD : s.heap.get? D = none := none_of_size (by rw [hI]; show @LE.le Nat _ I D; omega)
  have stand : ∀ {x : Heap} {m₃}, x.Ns C m₃ → Sub s.heap x → ∃ oC, LCg.NsObj oC m₃ ∧ Fr h₀ L x m ∧ News h₀ L x ((C, oC) :: news) := fun {x m₃} hn k => by
    obtain ⟨oC, e, ho⟩ := LCg.ns_obj hn
    refine ⟨oC, ho, fr_sub F k, fun q hq => ?_⟩
    rcases List.mem_cons.mp hq with rfl | hq
    · refine ⟨e, fun e' => ?_, ?_⟩
      · obtain ⟨o, _, _, e2, _⟩ := F.ns
        rw [← e'] at e2
        rw [nC] at e2; cases e2
      · cases z : h₀.get? C with
        | none => rfl
        | some o => rw [F.keep _ _ z] at nC; cases nC
    · exact ⟨k _ _ (N q hq).1, (N q hq).2⟩
  have W := Walks.tuple (prog := prog) (w := w) hh I T TI (List.toArray vs)
  have hsz : (List.toArray vs).size = ps.length := by rw [List.size_toArray, hlen]
  rw [hsz] at W
  have kx : (compEnvC scope cl C env).scope.kind = .function := by simp [compEnvC, relabel, hkind]
  have kp : ((compEnvC scope cl C env).scope.kind == .class || ((compEnvC scope cl C env).scope.kind == .module && (compEnvC scope cl C env).locals != (compEnvC scope cl C env).globals)) = false := by simp [compEnvC, relabel, hkind]
  have loop : ∀ s₃ : Shared, (∃ tk, s₃ = { s with heap := h₁, toks := tk }) →
      codeAny (model prog w) A (.compLoop (two elt (.Tuple [.Name a pa, .Name b pb] kk tp) iter (.Name c pc) i2 scope pos) 0 (.ref I) (.ref D) (compEnvC scope cl C env)) (compPost (model prog w) A E none Q (.ref D) C) s₃ := by
    rintro s₃ ⟨tk₃, rfl⟩
    refine comp_out (fun k s' => ∃ h' tk i vd m', s' = { s with heap := h', toks := tk } ∧ i ≤ ps.length ∧ k = ps.length + 1 - i ∧ h'.IsTupleIter I T i ∧ h'.PlainList D (List.toArray vd) ∧ PairsAll h' vd (spansOf (ps.take i)) ∧ h'.Ns C m' ∧ Sub s.heap h') ?_ (ps.length + 1)
      ⟨h₁, _, 0, [], _, rfl, Nat.zero_le _, rfl, hit, hacc, .nil, hns₁, old⟩ (hs2 C)
    rintro k s' ⟨h', tk, i, vd, m', rfl, hi, rfl, hit', hpl, hpd, hns, hsub⟩
    by_cases hlt : i < ps.length
    · refine W.item i _ _ _ hlt ⟨hit', hT.isTup.keeps hsub⟩ fun v h₂ tk₂ hP st₂ hk₂ => ?_
      have k₂ : ∀ {b o}, b ≠ I → h'.get? b = some o → h₂.get? b = some o := fun n e => hk₂ _ _ (by simpa using n) e
      obtain ⟨p, hp, hpair⟩ := hps.get (i := i) (v := v) (by simpa using hP)
      obtain ⟨Dp, t, u, rfl, hDp⟩ := hpair
      have sub₂ : Sub s.heap h₂ := fun b o e => k₂ (neI e) (hsub _ _ e)
      refine letGo_tupleiter st₂.1 ?_
      refine kcp_assign (env := compEnvC scope cl C env) hh (hDp.isTup.keeps sub₂) (lookup_relabel_local hxa) (lookup_relabel_local hxb) kp (hns.at' fun o e => k₂ (Ne.symm IC) e) fun h₃ tk₃ hn₃ hs₃ => ?_
      have sub₃ : Sub s.heap h₃ := fun b o e => hs₃ b o (neC e) (sub₂ _ _ e)
      have hit₃ : h₃.IsTupleIter I T (i + 1) := st₂.1.at fun o e => hs₃ I o IC e
      have hpl₃ : h₃.PlainList D (List.toArray vd) := hpl.at fun o e => hs₃ D _ DC (k₂ (Ne.symm ID) e)
      have tk₃' : TK h' h₃ := fun b o e t => by
        have n1 : b ≠ I := fun q => by
          obtain ⟨o', e', hc, _⟩ := hit'
          rw [q] at e
          rw [e] at e'; cases e'
          exact absurd (hc.symm.trans t.1) (by decide)
        have n2 : b ≠ C := fun q => by
          obtain ⟨o', es, ep, e', hd', _⟩ := hns
          rw [q] at e
          rw [e] at e'; cases e'
          obtain ⟨_, xs, n, hd⟩ := t
          rw [hd] at hd'; cases hd'
        exact hs₃ _ _ n2 (k₂ n1 e)
      have hpd₃ := hpd.tk tk₃'
      obtain ⟨oC, ho, F₃, N₃⟩ := stand hn₃ sub₃
      have hpm := List.mem_of_getElem? hp
      have hpn := hnn p hpm
      obtain ⟨nn, hnn2⟩ : ∃ nn : Nat, p.2 = (nn : Int) := ⟨p.2.toNat, by omega⟩
      refine hr C oC p u _ _ _ ho (by simp) F₃ N₃ fun h₄ tk₄ r t' u' v' hrg k₄ => ?_
      rw [hnn2] at hrg
      refine wpAny_pyIter_range hrg (hsm nn (by omega)) ?_
      rw [range_size]
      dsimp only
      generalize hJ : h₄.objs.size = J
      generalize hH5 : h₄.push { cls := .type "range_iterator", data := .fields #[rawInt 0, rawInt (nn : Int), rawInt 1] } = H5
      have up5 : Sub h₄ H5 := fun b o e => by rw [← hH5]; exact Heap.get?_push_of_some _ e
      have sub35 : Sub h₃ H5 := fun b o e => up5 _ _ (k₄ _ _ e)
      have neJ : ∀ {b o}, h₃.get? b = some o → b ≠ J := fun e q => by
        have := Heap.lt_size (k₄ _ _ e)
        rw [hJ, q] at this; exact Nat.lt_irrefl _ this
      have JI : I ≠ J := let ⟨o, e, _⟩ := hit₃; neJ e
      have JD : D ≠ J := let ⟨_, e⟩ := hpl₃; neJ e
      have JC : C ≠ J := let ⟨_, _, _, e, _⟩ := hn₃; neJ e
      have W2 := range_walks' (prog := prog) (w := w) (I := J) hh nn
      have hrit : IsRangeIter H5 J (0 + ((0 : Nat) : Int) * 1) ((nn : Int) - ((0 : Nat) : Int)) 1 := by
        rw [← hH5, ← hJ]
        show Heap.get? _ _ = _
        rw [Heap.get?_push_size _ rfl]; simp [rawInt]
      have inner : ∀ s₅ : Shared, (∃ tk, s₅ = { s with heap := H5, toks := tk }) →
          codeAny (model prog w) A (.compLoop (two elt (.Tuple [.Name a pa, .Name b pb] kk tp) iter (.Name c pc) i2 scope pos) 1 (.ref J) (.ref D) (compEnvC scope cl C env))
            (fun r s₆ => (∃ f, r = .ok f) ∧ ∃ m, m < ps.length + 1 - i ∧ ∃ h' tk i vd m', s₆ = { s with heap := h', toks := tk } ∧ i ≤ ps.length ∧ m = ps.length + 1 - i ∧ h'.IsTupleIter I T i ∧ h'.PlainList D (List.toArray vd) ∧ PairsAll h' vd (spansOf (ps.take i)) ∧ h'.Ns C m' ∧ Sub s.heap h') s₅ := by
        rintro s₅ ⟨tk₅, rfl⟩
        refine comp_in (fun k s' => ∃ h' tk j vd m', s' = { s with heap := h', toks := tk } ∧ j ≤ nn ∧ k = nn + 1 - j ∧ IsRangeIter h' J (0 + (j : Int) * 1) ((nn : Int) - (j : Int)) 1 ∧ h'.IsTupleIter I T (i + 1) ∧ h'.PlainList D (List.toArray vd) ∧ PairsAll h' vd (spansOf (ps.take i) ++ turns p.1 j) ∧ h'.Ns C m' ∧ m' a = some (.int p.1 t) ∧ Sub s.heap h') ?_ (nn + 1)
          ⟨H5, _, 0, vd, _, rfl, Nat.zero_le _, rfl, hrit, hit₃.at fun o e => sub35 _ _ e, hpl₃.at fun {o} e => sub35 _ _ e, by simpa [turns] using hpd₃.tk (TK.of_sub sub35), hn₃.at' fun o e => sub35 _ _ e, by simp [hab], fun b o e => sub35 _ _ (sub₃ _ _ e)⟩ (fun _ => rfl)
        rintro k s' ⟨h', tk, j, vd, m', rfl, hj, rfl, hrj, hit', hpl, hpd, hns, hma, hsub⟩
        by_cases hlt2 : j < nn
        · refine W2.item j _ _ _ hlt2 hrj fun v h₂ tk₂ hP st₂ hk₂ => ?_
          obtain ⟨tv, rfl⟩ := hP
          have k₂ : ∀ {b o}, b ≠ J → h'.get? b = some o → h₂.get? b = some o := fun n e => hk₂ _ _ (by simpa using n) e
          refine wpAny_assign_Name (wpAny_storeName_local (lookup_relabel_local hxc) (hns.at' fun o e => k₂ JC e) (fun h₃ hn₃ hs₃ => ?_) kp)
          have k₃ : ∀ {b o}, b ≠ J → b ≠ C → h'.get? b = some o → h₃.get? b = some o := fun n n' e => hs₃.extBut _ _ n' (k₂ n e)
          have neJ' : ∀ {b o}, s.heap.get? b = some o → b ≠ J := fun e => neJ (sub₃ _ _ e)
          have sub₄ : Sub s.heap h₃ := fun b o e => k₃ (neJ' e) (neC e) (hsub _ _ e)
          obtain ⟨oC, ho, F₄, N₄⟩ := stand hn₃ sub₄
          refine he C oC p t (0 + (j : Int)) tv _ _ _ ho (by simp [hac, hma]) (by simp) F₄ N₄ fun h₆ tk₆ y hy k₆ => ?_
          have tk' : TK h' h₃ := fun b o e t => by
            have n1 : b ≠ J := fun q => by
              rw [q] at e
              have hrj' : h'.get? J = some _ := hrj
              rw [e] at hrj'; cases hrj'
              exact absurd (show Value.type "range_iterator" = .type "tuple" from t.1) (by decide)
            have n2 : b ≠ C := fun q => by
              obtain ⟨o', es, ep, e', hd', _⟩ := hns
              rw [q] at e
              rw [e] at e'; cases e'
              obtain ⟨_, xs, n, hd⟩ := t
              rw [hd] at hd'; cases hd'
            exact k₃ n1 n2 e
          have hpl₆ : h₆.PlainList D (List.toArray vd) := hpl.at fun {o} e => k₆ _ _ (k₃ JD DC e)
          obtain ⟨nD6, eD6⟩ := hpl₆
          have hvl : vd.length ≤ 1000 := by
            rw [hpd.length, List.length_append, turns_len]
            have := spans_len_take (ps := ps) (i := i + 1)
            rw [spans_take hp, List.length_append, turns_len] at this
            omega
          refine append_at (hsz := by rw [List.size_toArray, sizeLine_eq]; omega) eD6 fun h₇ hs₇ hD₇ => ?_
          have tk7 : TK h₆ h₇ := fun b o e t => hs₇.extBut b o (fun q => by
            rw [q, eD6] at e; cases e
            exact absurd (show Value.type "list" = .type "tuple" from t.1) (by decide)) e
          have ns7 := (hn₃.at' (h' := h₆) fun o e => k₆ _ _ e).at' (h' := h₇) fun o e => hs₇.extBut _ _ (Ne.symm DC) e
          refine ⟨nn + 1 - (j + 1), by omega, h₇, _, j + 1, vd ++ [y], _, rfl, hlt2, rfl, ?_, ?_, ⟨nD6 + 1, by rw [hD₇]; simp⟩, ?_, ns7, ?_, ?_⟩
          · have : h₂.get? J = some _ := st₂
            exact hs₇.extBut _ _ (Ne.symm JD) (k₆ _ _ (hs₃.extBut _ _ (Ne.symm JC) this))
          · exact hit'.at fun o e => hs₇.extBut _ _ ID (k₆ _ _ (k₃ JI IC e))
          · rw [turns_succ, ← List.append_assoc]
            refine ((hpd.tk tk').tk (TK.of_sub k₆)).tk tk7 |>.app (.cons (PairAt.tk (by simpa using hy) tk7) .nil)
          · simp [hac, hma]
          · exact fun b o e => hs₇.extBut _ _ (neD e) (k₆ _ _ (sub₄ _ _ e))
        · obtain rfl : j = nn := Nat.le_antisymm hj (Nat.not_lt.mp hlt2)
          refine W2.done _ _ _ hrj fun h₂ tk₂ hk₂ => ?_
          have k₂ : ∀ {b o}, b ≠ J → h'.get? b = some o → h₂.get? b = some o := fun n e => hk₂ _ _ (by simpa using n) e
          have tk' : TK h' h₂ := fun b o e t => k₂ (fun q => by
            rw [q] at e
            have hrj' : h'.get? J = some _ := hrj
            rw [e] at hrj'; cases hrj'
            exact absurd (show Value.type "range_iterator" = .type "tuple" from t.1) (by decide)) e
          refine ⟨⟨_, rfl⟩, ps.length + 1 - (i + 1), by omega, h₂, _, i + 1, vd, m', rfl, hlt, rfl, hit'.at fun o e => k₂ JI e, hpl.at fun {o} e => k₂ JD e, ?_, hns.at' fun o e => k₂ JC e, fun b o e => k₂ (neJ (sub₃ _ _ e)) (hsub _ _ e)⟩
          rw [spans_take hp, hnn2]
          exact hpd.tk tk'
      exact comp_start1 (inner _ ⟨_, rfl⟩) (W2.self 0 _ _ _ hrit (inner _ ⟨_, rfl⟩))
    · obtain rfl : i = ps.length := Nat.le_antisymm hi (Nat.not_lt.mp hlt)
      refine W.done _ _ _ ⟨hit', hT.isTup.keeps hsub⟩ fun h₂ tk₂ hk₂ => ?_
      have k₂ : ∀ {b o}, b ≠ I → h'.get? b = some o → h₂.get? b = some o := fun n e => hk₂ _ _ (by simpa using n) e
      rw [List.take_length] at hpd
      have tk' : TK h' h₂ := fun b o e t => k₂ (fun q => by
          obtain ⟨o', e', hc, _⟩ := hit'
          rw [q] at e
          rw [e] at e'; cases e'
          exact absurd (hc.symm.trans t.1) (by decide)) e
      refine ⟨m', hns.at' fun o e => k₂ (Ne.symm IC) e, fun h'' hs'' => h D h'' _ nD ⟨vd, hpl.at fun {o} e => hs''.extBut _ _ DC (k₂ (Ne.symm ID) e), (hpd.tk tk').tk fun b o e t => hs''.extBut b o (fun q => ?_) e⟩ fun b o e => hs''.extBut _ _ (neC e) (k₂ (neI e) (hsub _ _ e))⟩
      obtain ⟨o', es, ep, e', hd', _⟩ := hns.at' fun o e => k₂ (Ne.symm IC) e
      rw [q] at e
      rw [e] at e'; cases e'
      obtain ⟨_, xs, n, hd⟩ := t
      rw [hd] at hd'; cases hd'
  exact codeAny_compStart_list (loop _ ⟨_, rfl⟩) (W.self 0 _ _ _ ⟨hit, hT.isTup.keeps old⟩ (loop _ ⟨_, rfl⟩))
end
end

section
open PySem PySem.W PyProof.Rows PySem.Calls
set_option maxRecDepth 100000
set_option Elab.async false
set_option maxHeartbeats 4000000
section
variable {prog : Program} {w : World} {A : Around} {E : Value → Shared → Prop} {s : Shared}
theorem sorted_listP {l : Addr} {ps : Clk} {Q : Value → Shared → Prop} (hl : LstAt s.heap l ps) (hnd : ps.Nodup) (h64 : ps.length < 64)
    (h : ∀ h' b ps', PL h' b ps' → s.heap.get? b = none → Sub s.heap h' → ps'.Perm ps → ps'.Pairwise (fun p q => plt p q = true) → Q (.ref b) { s with heap := h' }) :
    wpAny (model prog w) A (call (.builtin "sorted") [.ref l]) Q E s := by
  obtain ⟨vs, hL, hps⟩ := hl
  have hlen := hps.length
  refine Calls.call_function_entry kind_sorted plain_sorted entry_sorted (args_sorted1 _) ?_
  unfold Builtin.«sorted»
  refine wpAny_bind (m := checkCount "sorted" 1 1 _) (wpAny_pure ?_)
  refine wpAny_bind (collect_list hL ?_ (by rw [sizeLine_eq]; omega))
  refine wpAny_bind (wpAny_newList ?_ (by rw [sizeLine_eq]; omega))
  generalize hH : (s.heap.push (seqObj "list" #[] 0)).update s.heap.objs.size (Obj.mapSeq (· ++ vs.toArray)) = H
  have hsz : H.objs.size = s.heap.objs.size + 1 := by rw [← hH, Heap.size_update, size_push']
  have keep : Sub s.heap H := fun b o q => by
    have hlt : b < s.heap.objs.size := Heap.lt_size q
    rw [← hH, Heap.get?_update_ne _ _ _ _ (Nat.ne_of_lt hlt), Heap.get?_push_ne _ _ _ (Nat.ne_of_lt hlt)]
    exact q
  have hoL : (H.push (seqObj "list" vs.toArray 0)).get? H.objs.size = some (seqObj "list" vs.toArray 0) := Heap.get?_push_size _ rfl
  show wpAny _ _ _ _ _ { s with heap := H.push (seqObj "list" vs.toArray 0) }
  have keep2 : Sub s.heap (H.push (seqObj "list" vs.toArray 0)) := fun b o q => Heap.get?_push_of_some _ (keep b o q)
  refine wpAny_bind (wpAny_holding (wpAny_call_entry slot_list_sort ⟨_, hoL, rfl⟩ entry_list_sort (list_sort_pairs hoL (hps.tk (TK.of_sub keep2)) hnd (by omega) fun h' vs' ps' n' a1 a2 a3 a4 a5 => ⟨_, rfl, ?_⟩) (args_list_sort _)))
  refine wpAny_pure ⟨_, rfl, h h' _ ps' ⟨vs', ⟨n', a1⟩, a3⟩ ?_ (fun b o e => a2 b o (fun q => ?_) (keep2 b o e)) a4 a5⟩
  · cases q : s.heap.get? H.objs.size with
    | none => rfl
    | some o => exact absurd (Nat.lt_of_le_of_lt (Nat.le_of_lt (Nat.lt_of_lt_of_eq (Nat.lt_succ_self _) hsz.symm)) (Heap.lt_size q)) (Nat.lt_irrefl _)
  · exact absurd (Nat.lt_trans (Nat.lt_of_lt_of_eq (Nat.lt_succ_self _) (hsz.symm.trans q.symm)) (Heap.lt_size e)) (Nat.lt_irrefl _)
end
end

section
open PySem PySem.W PyProof.Rows PySem.Calls
set_option maxRecDepth 100000
set_option Elab.async false
set_option maxHeartbeats 4000000
theorem kfill9 : PySem.Challenge.rw_on0015_01 = PySem.Challenge.rw_on0015_01 ∧ hd.heap_1 = hd.heap_1 := by
  k_fill
  exact ⟨rfl, rfl⟩
-- enter a plain def: its names and values
-- walk until a loop, a call or a step without a line
-- what lies on the anchor is apart from what it has not


theorem range_fits {i : Int} (h0 : 0 ≤ i) (h1 : i ≤ 1001) : Builtin.Range.rangeFitsLong i = true := by
  unfold Builtin.Range.rangeFitsLong
  rw [Bool.and_eq_true, decide_eq_true_eq, decide_eq_true_eq]
  constructor <;> omega
theorem range_small : ∀ n : Nat, n ≤ 1000 → Builtin.Range.small 0 n 1 = true := by
  intro n hn
  unfold Builtin.Range.small
  rw [range_size, if_pos (by decide), range_fits (i := 0) (by omega) (by omega), range_fits (i := (n : Int)) (by omega) (by omega), range_fits (i := 1) (by omega) (by omega), range_fits (i := (n : Int) + (1 - 1)) (by omega) (by omega)]
  simp
theorem lspans_spec {prog p w loose mean mg mb} {A : Around} {E : Value → Shared → Prop} {s : Shared} {h₀ : Heap} (R : Room A 1) (KX : (hd.heap_1 w.params).In h₀) (T : Top p loose mean mg mb h₀)
   (S0 : Sub h₀ s.heap) (hz : h₀.objs.size ≤ s.heap.objs.size) {v : Value} {f : Int → Int} (hv : ClkAt s.heap v f) (hc : Cap f) {Q : Value → Shared → Prop}
   (hQ : ∀ D h' tk xs, Sub s.heap h' → PL h' D xs → SpanRel xs f → xs.Pairwise (fun p q => plt p q = true) → Q (.ref D) { s with heap := h', toks := tk }) :
   wpAny (model prog w) A (call (.ref 307) [v]) Q E s := by
  obtain ⟨ps, ⟨Ta, vs, rfl, hT, hps⟩, hsrt, hcnt⟩ := hv
  have hrel : SpanRel (spansOf ps) f := rel_fun (rel_spans hsrt) hcnt
  have hlen := rel_len hrel hc
  have hbd : ∀ q ∈ ps, 0 ≤ q.2 ∧ q.2 ≤ 1000 := fun q hq => by
    obtain ⟨a1, a2, a3⟩ := hsrt.2 q hq
    have e : q.2 = f q.1 := by rw [← hcnt, cnt_mem hsrt.keys hq]
    have h4 : q.1 = 0 ∨ q.1 = 1 ∨ q.1 = 2 ∨ q.1 = 3 := by omega
    have c0 := hc.1 0
    have c1 := hc.1 1
    have c2 := hc.1 2
    have c3 := hc.1 3
    have cs := hc.2.2
    rcases h4 with e' | e' | e' | e' <;> rw [e'] at e <;> omega
  k_call_by "enter" [(Str.ofString "clock", Value.ref Ta)]
  intro L h₁ A' R' hL F₁ N₁ SG
  walk_at "goE"
  have hT₁ : XTup h₁ Ta (List.toArray vs) := let ⟨n, e⟩ := hT; ⟨n, SG _ _ e⟩
  refine spans_comp (T := Ta) R'.hand F₁ N₁ hT₁ (hps.tk (TK.of_sub SG)) (by omega) hbd (by with_unfolding_all rfl) (by decide) (by rfl) (by decide) (by rfl) (by rfl) (by rfl) (by decide) (by decide) ?hev ?hr ?he range_small ?hend
  case hev =>
    intro Q' hq
    walk_at "goE"
    exact hq _
  case hr =>
    intro C oC p u s₃ m₃ Q' hoC hx F₃ N₃ hq
    walk_at "goE"
    refine call_range_1 ?_
    walk_at "goE"
    exact hq _ _ _ _ _ _ (IsRange.new _ _ _ _ _ _ _) fun b o e => Heap.get?_push_of_some _ e
  case he =>
    intro C oC p t j v s₃ m₃ Q' hoC hxa hxc F₃ N₃ hq
    walk_at "goE"
    refine wpAny_newTuple ?_
    exact hq _ _ _ ⟨_, _, _, rfl, 0, Heap.get?_push_size _ rfl⟩ fun b o e => Heap.get?_push_of_some _ e
  case hend =>
    intro D h₂ tk₂ nD hpD kk
    have F₂ := fr_sub F₁ kk
    have N₂ := news_sub N₁ kk
    clear F₁ N₁
    walk_at "goE"
    refine sorted_listP hpD.lst hrel.1 (by omega) fun h₃ b ps' hb nb k₃ hperm hsort => ?_
    walk_at "goE"
    exact hQ b h₃ _ ps' (fun b o e => k₃ _ _ (kk _ _ (SG _ _ e))) hb (rel_perm hrel hperm) hsort
end

section
open PySem PySem.W PyProof.Rows PySem.Calls
set_option maxRecDepth 100000
set_option Elab.async false
set_option maxHeartbeats 4000000
theorem kfill10 : PySem.Challenge.rw_on0015_01 = PySem.Challenge.rw_on0015_01 ∧ hd.heap_1 = hd.heap_1 := by
  k_fill
  exact ⟨rfl, rfl⟩
-- enter a plain def: its names and values
-- walk until a loop, a call or a step without a line
-- what lies on the anchor is apart from what it has not


theorem seq_up {h' g' : Heap} {L : Addr} {m : Str → Option Value} {H : List Addr} (hn : h'.Ns L m) (hH : ∀ b ∈ H, ∃ o v, h'.get? b = some o ∧ o.data = .cell v) (up : ∀ a o, h'.get? a = some o → a ≠ L → a ∉ H → g'.get? a = some o) :
    ∀ b o, h'.get? b = some o → SeqO o → g'.get? b = some o := fun b o e q => by
  obtain ⟨xs, n, hd⟩ := q
  refine up b o e ?_ fun hb => ?_
  · rintro rfl
    obtain ⟨o', es, ep, e', hd', _⟩ := hn
    rw [e] at e'; cases e'
    rw [hd] at hd'; cases hd'
  · obtain ⟨o', v, e', hd'⟩ := hH b hb
    rw [e] at e'; cases e'
    rw [hd] at hd'; cases hd'
theorem seq_tk {h g : Heap} (k : ∀ b o, h.get? b = some o → SeqO o → g.get? b = some o) : TK h g := fun b o e t => k b o e t.2
theorem cells_up {h₀ h : Heap} {L c c' : Addr} {o o' : Obj} {r : List (Addr × Obj)} {v v' : Option Value} (N : News h₀ L h ((c, o) :: (c', o') :: r)) (d1 : o.data = .cell v) (d2 : o'.data = .cell v') : ∀ b ∈ [c, c'], ∃ o v, h.get? b = some o ∧ o.data = .cell v := fun b hb => by
  simp only [List.mem_cons, List.not_mem_nil, or_false] at hb
  rcases hb with rfl | rfl
  · exact ⟨_, _, (N _ (.head _)).1, d1⟩
  · exact ⟨_, _, (N _ (.tail _ (.head _))).1, d2⟩
theorem store_cell {M : Model} {A : Around} {E : Value → Shared → Prop} {s : Shared} {env : Env} {x : Str} {h₀ : Heap} {L c : Addr} {m : Str → Option Value} {own rest : List (Addr × Obj)} {o : Obj} {v₀ : Option Value} {v : Value} {Q : Unit → Shared → Prop} (F : Fr h₀ L s.heap m) (N : News h₀ L s.heap (own ++ (c, o) :: rest)) (h1 : ∀ p ∈ own, p.1 ≠ c) (h2 : ∀ p ∈ rest, p.1 ≠ c)
    (hd : o.data = .cell v₀) (hc : env.cells.lookup x = some c) (hk : env.scope.kind = .function) (hx : env.kindOf x = some .cell)
    (h : ∀ h' o', Fr h₀ L h' m → News h₀ L h' (own ++ (c, o') :: rest) → o'.data = .cell (some v) → Q () { s with heap := h' }) : wpAny M A (storeName env x v) Q E s := by
  have hmem := N (c, o) (List.mem_append_right _ (.head _))
  refine wpAny_storeName_cell hk hx hc ⟨o, hmem.1, hd⟩ fun h' hv hs => ?_
  obtain ⟨o', ho', hd'⟩ := hv
  refine h h' o' ⟨F.ns.sameBut hs (Ne.symm hmem.2.1), fun b ob e => (hs.2 b (fun q => ?_)).trans (F.keep b ob e), F.above⟩ (N.setAt h1 h2 hs ho') hd'
  rw [q, hmem.2.2] at e; cases e
theorem lright_spec {prog p w loose mean mg mb} {A : Around} {E : Value → Shared → Prop} {s : Shared} {h₀ : Heap} (R : Room A 4) (KX : (hd.heap_1 w.params).In h₀) (T : Top p loose mean mg mb h₀)
   (S0 : Sub h₀ s.heap) (hz : h₀.objs.size ≤ s.heap.objs.size) {va vb : Value} {f g : Int → Int} {k : Int} {t : Tok} (hva : ClkAt s.heap va f) (hvb : ClkAt s.heap vb g) (hcf : Cap f) (hcg : Cap g) (hcj : Cap (join f g)) (hct : Cap (tick f k)) (hk : In4 k) {Q : Value → Shared → Prop}
   (hQ : ∀ h' tk, Sub s.heap h' → Q (.bool true) { s with heap := h', toks := tk }) :
   wpAny (model prog w) A (call (.ref 312) [va, vb, .int k t]) Q E s := by
  k_call_by "enterK" [(Str.ofString "one", va), (Str.ofString "other", vb), (Str.ofString "who", Value.int k t)]
  intro L h₁ tk₁ cells A' R' hL F₁ N₁ Y₁ SG nC
  have hY := CellsAre.two Y₁
  obtain ⟨oc, od, hE, d1, d2⟩ := hY
  subst hE
  clear Y₁
  dsimp only [List.cons_append, List.nil_append] at N₁
  have l1 : True := trivial
  have hu : A'.units + 64 < cLine := by have := R'.units; omega
  have hH₁ : ∀ a ∈ [L + 1 + 1, L + 1], h₀.get? a = none ∧ s.heap.get? a = none := fun a ha => by
    simp only [List.mem_cons, List.not_mem_nil, or_false] at ha
    rcases ha with rfl | rfl
    · have := nC _ (.head _); exact ⟨sub_none S0 this, this⟩
    · have := nC _ (.tail _ (.head _)); exact ⟨sub_none S0 this, this⟩
  have SG₁ := S0
  have SH₁ : Sub s.heap h₁ := SG
  walk_at "goF"
  refine step [_, _] [] [L + 1 + 1, L + 1] (fun v h' => ∃ D xs, v = .ref D ∧ PL h' D xs ∧ SpanRel xs (f) ∧ xs.Pairwise (fun p q => plt p q = true)) F₁ N₁ SG₁ (by simp) hH₁
    (fun Q' q => lspans_spec (R'.le (by omega)) KX T F₁.keep (fr_size F₁) (hva.tk (TK.of_sub SH₁)) hcf fun D h' tk xs kk a b c => q _ _ _ (Keep.of_sub kk) ⟨D, xs, rfl, a, b, c⟩) ?_
  rintro v₂ h₂ tk₂ g₂ F₂ N₂ SG₂ SH₂ KG₂ KS₂ up₂ nH₂ ⟨D1, xs1, rfl, P1, R1, O1⟩
  have hH₂ : ∀ a ∈ [L + 1 + 1, L + 1], h₀.get? a = none ∧ g₂.get? a = none := fun a ha => ⟨(hH₁ a ha).1, nH₂ a ha⟩
  have P1 := P1.trs (seq_up F₂.ns (cells_up N₂ d1 d2) up₂)
  have KG₂ := KG₂.sub
  clear F₁ N₁
  dsimp only [List.cons_append, List.nil_append] at N₂
  walk_at "goF"
  have hva₂ := hva.tk (TK.of_sub KG₂)
  have hvb₂ := hvb.tk (TK.of_sub KG₂)
  refine step [_, _] [] [L + 1 + 1, L + 1] (fun v h' => ∃ D xs, v = .ref D ∧ PL h' D xs ∧ SpanRel xs (g) ∧ xs.Pairwise (fun p q => plt p q = true)) F₂ N₂ SG₂ (by simp) hH₂
    (fun Q' q => lspans_spec (R'.le (by omega)) KX T F₂.keep (fr_size F₂) (hvb₂.tk (TK.of_sub SH₂)) hcg fun D h' tk xs kk a b c => q _ _ _ (Keep.of_sub kk) ⟨D, xs, rfl, a, b, c⟩) ?_
  rintro v₃ h₃ tk₃ g₃ F₃ N₃ SG₃ SH₃ KG₃ KS₃ up₃ nH₃ ⟨D2, xs2, rfl, P2, R2, O2⟩
  have hH₃ : ∀ a ∈ [L + 1 + 1, L + 1], h₀.get? a = none ∧ g₃.get? a = none := fun a ha => ⟨(hH₂ a ha).1, nH₃ a ha⟩
  have P2 := P2.trs (seq_up F₃.ns (cells_up N₃ d1 d2) up₃)
  have KG₃ := KG₃.sub
  clear F₂ N₂
  dsimp only [List.cons_append, List.nil_append] at N₃
  have P1 := P1.sub KG₃
  have hva₃ := hva₂.tk (TK.of_sub KG₃)
  have hvb₃ := hvb₂.tk (TK.of_sub KG₃)
  walk_at "goF"
  rename Fr _ _ _ _ => F₄
  rename News _ _ _ _ => N₄
  refine unpackN_ F₄ N₄ (News.isTup N₄ (.head _)) R'.hand (by rfl) (by rfl) ?_
  intro h₅ F₅ N₅
  clear F₄ N₄
  walk_at "goF"
  have N₆ := news_tail (news' := [(L + 1 + 1, oc)] ++ (L + 1, od) :: dump h₀ g₃) N₅ (fun p hp => .tail _ hp)
  clear N₅
  have g1 := (hH₃ (L + 1) (.tail _ (.head _))).2
  have g2 := (hH₃ (L + 1 + 1) (.head _)).2
  have n12 : L + 1 + 1 ≠ L + 1 := Nat.succ_ne_self _
  refine store_cell F₅ N₆ (by simpa using n12) (dump_off g1) d2 (by rfl) (by rfl) (by rfl) fun h₆ od' F₆ N₇ d2' => ?_
  clear F₅ N₆ d2
  walk_at "goF"
  rename Fr _ _ _ _ => F₇
  rename News _ _ _ _ => N₇
  rename _ = Data.cell (some (Value.ref D2)) => d1'
  have N₈ := show News h₀ L _ ((L + 1 + 1, _) :: (L + 1, od') :: dump h₀ g₃) from N₇
  clear N₇ d1
  have SH₇ : Sub g₃ _ := sub_of F₇ N₈ (fun p hp => .tail _ (.tail _ hp)) SG₃
  have l1 := rel_len R1 hcf
  have l2 := rel_len R2 hcg
  obtain ⟨c1, hT1, hs1, hc1⟩ := hva₃
  obtain ⟨c2, hT2, hs2, hc2⟩ := hvb₃
  refine step [_, _] [] [L + 1 + 1, L + 1] (fun v h' => ClkAt h' v (join f g)) F₇ N₈ SG₃ (by simp) hH₃
    (fun Q' q => joined_spec (R'.le (by omega)) KX T F₇.keep (fr_size F₇) (hT1.tk (TK.of_sub SH₇)) hs1 (hT2.tk (TK.of_sub SH₇)) hs2 fun v c h' tk a b d kk => q _ _ _ (Keep.of_sub kk) ⟨c, a, b, fun k => by rw [d, hc1, hc2]; rfl⟩) ?_
  rintro v₄ h₄ tk₄ g₄ F₄ N₄ SG₄ SH₄ KG₄ KS₄ up₄ nH₄ hv₄
  have hH₄ : ∀ a ∈ [L + 1 + 1, L + 1], h₀.get? a = none ∧ g₄.get? a = none := fun a ha => ⟨(hH₃ a ha).1, nH₄ a ha⟩
  have hv₄ := hv₄.tk (seq_tk (seq_up F₄.ns (cells_up N₄ d1' d2') up₄))
  have KG₄ := KG₄.sub
  have P1 := P1.sub KG₄
  have P2 := P2.sub KG₄
  have hT1 := hT1.tk (TK.of_sub KG₄)
  have hT2 := hT2.tk (TK.of_sub KG₄)
  clear F₇ N₈
  dsimp only [List.cons_append, List.nil_append] at N₄
  walk_at "goF"
  refine step [_, _] [] [L + 1 + 1, L + 1] (fun v h' => ∃ D xs, v = .ref D ∧ PL h' D xs ∧ SpanRel xs (join f g) ∧ xs.Pairwise (fun p q => plt p q = true)) F₄ N₄ SG₄ (by simp) hH₄
    (fun Q' q => lspans_spec (R'.le (by omega)) KX T F₄.keep (fr_size F₄) (hv₄.tk (TK.of_sub SH₄)) hcj fun D h' tk xs kk a b c => q _ _ _ (Keep.of_sub kk) ⟨D, xs, rfl, a, b, c⟩) ?_
  rintro v₅ h₅ tk₅ g₅ F₅ N₅ SG₅ SH₅ KG₅ KS₅ up₅ nH₅ ⟨D3, xs3, rfl, P3, R3, O3⟩
  have hH₅ : ∀ a ∈ [L + 1 + 1, L + 1], h₀.get? a = none ∧ g₅.get? a = none := fun a ha => ⟨(hH₄ a ha).1, nH₅ a ha⟩
  have P3 := P3.trs (seq_up F₅.ns (cells_up N₅ d1' d2') up₅)
  have KG₅ := KG₅.sub
  clear F₄ N₄
  dsimp only [List.cons_append, List.nil_append] at N₅
  have P1 := P1.sub KG₅
  have P2 := P2.sub KG₅
  have hT1 := hT1.tk (TK.of_sub KG₅)
  have hT2 := hT2.tk (TK.of_sub KG₅)
  walk_at "goF"
  refine step [_, _] [] [L + 1 + 1, L + 1] (fun v h' => ∃ D, v = .ref D ∧ PL h' D (xs2.filter fun q => !decide (q ∈ xs1))) F₅ N₅ SG₅ (by simp) hH₅ (fun Q' q => by
    refine comp_filter (p := fun q => !decide (q ∈ xs1)) R'.hand F₅ N₅ (P2.sub SH₅) (by omega) (by with_unfolding_all rfl) (by decide) (by rfl) (by decide) (by rfl) (by rfl) ?hev ?test ?hend
    case hev =>
      intro Q' hq
      walk_at "goF"
      exact hq _
    case test =>
      rintro C oC pv q s₃ m₃ E' hq hpair hoC hx F₄ N₄ k₃
      walk_at "goF"
      refine span_notin ((P1.sub SH₅).sub k₃).lst hpair hu ?_
      walk_at "goF"
      exact ⟨_, _, rfl, fun _ _ e => e⟩
    case hend =>
      exact fun D h' tk _ hp kk => q _ _ _ (Keep.of_sub kk) ⟨D, rfl, hp⟩) ?_
  rintro v₆ h₆ tk₆ g₆ F₆ N₆ SG₆ SH₆ KG₆ KS₆ up₆ nH₆ ⟨D4, rfl, P4⟩
  have hH₆ : ∀ a ∈ [L + 1 + 1, L + 1], h₀.get? a = none ∧ g₆.get? a = none := fun a ha => ⟨(hH₃ a ha).1, nH₆ a ha⟩
  have P4 := P4.trs (seq_up F₆.ns (cells_up N₆ d1' d2') up₆)
  have KG₆ := KG₆.sub
  clear F₅ N₅
  dsimp only [List.cons_append, List.nil_append] at N₆
  have P3 := P3.sub KG₆
  have P1 := P1.sub KG₆
  have P2 := P2.sub KG₆
  have hT1 := hT1.tk (TK.of_sub KG₆)
  have hT2 := hT2.tk (TK.of_sub KG₆)
  walk_at "goF"
  refine list_plus (P1.sub SH₆) (P4.sub SH₆) (by have := List.length_filter_le (fun q => !decide (q ∈ xs1)) xs2; omega) fun D5 h₇ _ hp5 kk₇ => ?_
  have F₇ := fr_sub F₆ kk₇
  have N₇ := news_sub N₆ kk₇
  have SH₇ : Sub g₆ h₇ := fun b o e => kk₇ _ _ (SH₆ b o e)
  clear F₆ N₆
  walk_at "goF"
  have RJ := rel_join R1 R2
  have lJ := rel_len RJ hcj
  refine sorted_listP hp5.lst RJ.1 (by omega) fun h₈ D6 xs6 hp6 _ kk₈ hperm6 O6 => ?_
  have F₈ := fr_sub F₇ kk₈
  have N₈ := news_sub N₇ kk₈
  have SH₈ : Sub g₆ h₈ := fun b o e => kk₈ _ _ (SH₇ b o e)
  clear F₇ N₇
  walk_at "goF"
  refine lists_ne (P3.sub SH₈).lst hp6.lst hu ?_
  rw [decide_eq_true (rel_eq R3 (rel_perm RJ hperm6) O3 O6)]
  simp only [Bool.not_true]
  walk_at "goF"
  refine step [_, _] [] [L + 1 + 1, L + 1] (fun v h' => ClkAt h' v (tick f k)) F₈ N₈ SG₆ (by simp) hH₆
    (fun Q' q => ticked_spec (R'.le (by omega)) KX T F₈.keep (fr_size F₈) (hT1.tk (TK.of_sub SH₈)) hs1 hk fun v c h' tk a b d kk => q _ _ _ (Keep.of_sub kk) ⟨c, a, b, fun j => by rw [d, hc1, hc1]; rfl⟩) ?_
  rintro v₇ h₇ tk₇ g₇ F₇ N₇ SG₇ SH₇ KG₇ KS₇ up₇ nH₇ hv₇
  have hH₇ : ∀ a ∈ [L + 1 + 1, L + 1], h₀.get? a = none ∧ g₇.get? a = none := fun a ha => ⟨(hH₃ a ha).1, nH₇ a ha⟩
  have hv₇ := hv₇.tk (seq_tk (seq_up F₇.ns (cells_up N₇ d1' d2') up₇))
  have KG₇ := KG₇.sub
  have P1 := P1.sub KG₇
  have P2 := P2.sub KG₇
  have hT1 := hT1.tk (TK.of_sub KG₇)
  have hT2 := hT2.tk (TK.of_sub KG₇)
  clear F₈ N₈
  dsimp only [List.cons_append, List.nil_append] at N₇
  walk_at "goF"
  refine step [_, _] [] [L + 1 + 1, L + 1] (fun v h' => ∃ D xs, v = .ref D ∧ PL h' D xs ∧ SpanRel xs (tick f k) ∧ xs.Pairwise (fun p q => plt p q = true)) F₇ N₇ SG₇ (by simp) hH₇
    (fun Q' q => lspans_spec (R'.le (by omega)) KX T F₇.keep (fr_size F₇) (hv₇.tk (TK.of_sub SH₇)) hct fun D h' tk xs kk a b c => q _ _ _ (Keep.of_sub kk) ⟨D, xs, rfl, a, b, c⟩) ?_
  rintro v₈ h₈ tk₈ g₈ F₈ N₈ SG₈ SH₈ KG₈ KS₈ up₈ nH₈ ⟨D7, xs7, rfl, P7, R7, O7⟩
  have hH₈ : ∀ a ∈ [L + 1 + 1, L + 1], h₀.get? a = none ∧ g₈.get? a = none := fun a ha => ⟨(hH₇ a ha).1, nH₈ a ha⟩
  have P7 := P7.trs (seq_up F₈.ns (cells_up N₈ d1' d2') up₈)
  have KG₈ := KG₈.sub
  clear F₇ N₇
  dsimp only [List.cons_append, List.nil_append] at N₈
  have P1 := P1.sub KG₈
  have P2 := P2.sub KG₈
  have hT1 := hT1.tk (TK.of_sub KG₈)
  have hT2 := hT2.tk (TK.of_sub KG₈)
  walk_at "goF"
  refine count_spec (R'.le (by omega)) KX T F₈.keep (fr_size F₈) (hT1.tk (TK.of_sub SH₈)) fun u h₉ tk₉ kk₉ => ?_
  rw [hc1]
  have F₉ := fr_sub F₈ kk₉
  have N₉ := news_sub N₈ kk₉
  clear F₈ N₈
  walk_at "goF"
  rename Fr _ _ _ _ => F₈
  rename News _ _ _ _ => N₈
  have SH₉ : Sub g₈ _ := sub_of F₈ N₈ (fun p hp => .tail _ (.tail _ (.tail _ (.tail _ hp)))) SG₈
  refine list_plus (P1.sub SH₉) (qs := [(k, f k + 1)]) ⟨[.ref _], ⟨0, (N₈ _ (.head _)).1⟩, .cons ⟨_, _, _, rfl, 0, (N₈ _ (.tail _ (.head _))).1⟩ .nil⟩ (by simp; omega) fun D9 h₁₀ _ hp9 kk₁₀ => ?_
  have N₉ := news_tail (news' := [_, _] ++ dump h₀ g₈) N₈ (fun p hp => .tail _ (.tail _ hp))
  have F₁₀ := fr_sub F₈ kk₁₀
  have N₁₀ := news_sub N₉ kk₁₀
  have SH₁₀ : Sub g₈ h₁₀ := fun b o e => kk₁₀ _ _ (SH₉ b o e)
  clear F₈ N₈ N₉
  dsimp only [List.cons_append, List.nil_append] at N₁₀
  walk_at "goF"
  have RT := rel_tick R1 (hcf.1 k)
  have lT := rel_len RT hct
  refine sorted_listP hp9.lst RT.1 (by omega) fun h₁₁ D10 xs10 hp10 _ kk₁₁ hperm10 O10 => ?_
  have F₁₁ := fr_sub F₁₀ kk₁₁
  have N₁₁ := news_sub N₁₀ kk₁₁
  have SH₁₁ : Sub g₈ h₁₁ := fun b o e => kk₁₁ _ _ (SH₁₀ b o e)
  clear F₁₀ N₁₀
  walk_at "goF"
  refine lists_ne (P7.sub SH₁₁).lst hp10.lst hu ?_
  rw [decide_eq_true (rel_eq R7 (rel_perm RT hperm10) O7 O10)]
  simp only [Bool.not_true]
  walk_at "goF"
  refine step [_, _] [] [L + 1 + 1, L + 1] (fun v h' => ∃ D, v = .ref D ∧ PL h' D (xs1.filter fun q => !decide (q ∈ xs2))) F₁₁ N₁₁ SG₈ (by simp) hH₈ (fun Q' q => by
    refine comp_filter (p := fun q => !decide (q ∈ xs2)) R'.hand F₁₁ N₁₁ (P1.sub SH₁₁) (by omega) (by with_unfolding_all rfl) (by decide) (by rfl) (by decide) (by rfl) (by rfl) ?hev ?test ?hend
    case hev =>
      intro Q' hq
      walk_at "goF"
      exact hq _
    case test =>
      rintro C oC pv q s₃ m₃ E' hq hpair hoC hx F₄ N₄ k₃
      walk_at "goF"
      refine span_notin ((P2.sub SH₁₁).sub k₃).lst hpair hu ?_
      walk_at "goF"
      exact ⟨_, _, rfl, fun _ _ e => e⟩
    case hend =>
      exact fun D h' tk _ hp kk => q _ _ _ (Keep.of_sub kk) ⟨D, rfl, hp⟩) ?_
  rintro v₉ h₉ tk₉ g₉ F₉ N₉ SG₉ SH₉ KG₉ KS₉ up₉ nH₉ ⟨DA, rfl, PA⟩
  have hH₉ : ∀ a ∈ [L + 1 + 1, L + 1], h₀.get? a = none ∧ g₉.get? a = none := fun a ha => ⟨(hH₃ a ha).1, nH₉ a ha⟩
  have PA := PA.trs (seq_up F₉.ns (cells_up N₉ d1' d2') up₉)
  have KG₉ := KG₉.sub
  clear F₁₁ N₁₁
  dsimp only [List.cons_append, List.nil_append] at N₉
  have P1 := P1.sub KG₉
  have P2 := P2.sub KG₉
  have hT1 := hT1.tk (TK.of_sub KG₉)
  have hT2 := hT2.tk (TK.of_sub KG₉)
  walk_at "goF"
  rename Fr _ _ _ _ => F₈
  rename News _ _ _ _ => N₈
  have SH₁₀ : Sub g₉ _ := sub_of F₈ N₈ (fun p hp => .tail _ (.tail _ (.tail _ hp))) SG₉
  refine lists_eq (PA.sub SH₁₀).lst (qs := []) ⟨[], ⟨_, (N₈ _ (.head _)).1, rfl, 0, rfl⟩, .nil⟩ hu ?_
  have eA := rel_sub R1 R2 hcf.1 hcg.1
  obtain ⟨bA, hbA⟩ : ∃ b, decide ((xs1.filter fun q => !decide (q ∈ xs2)) = []) = b := ⟨_, rfl⟩
  rw [hbA]
  have hbA : bA = true ↔ ∀ k, f k ≤ g k := by rw [← hbA, decide_eq_true_eq]; exact eA
  have N₁₂ := news_tail (news' := [_, _] ++ dump h₀ g₉) N₈ (fun p hp => .tail _ hp)
  clear N₈
  dsimp only [List.cons_append, List.nil_append] at N₁₂
  walk_at "goF"
  rename Fr _ _ _ _ => F₈
  rename News _ _ _ _ => N₁₂
  have SHB : Sub g₉ _ := sub_of F₈ N₁₂ (fun p hp => .tail _ (.tail _ hp)) SG₉
  refine step [_, _] [] [L + 1 + 1, L + 1] (fun v h' => ∃ D, v = .ref D ∧ PL h' D (xs2.filter fun q => !decide (q ∈ xs1))) F₈ N₁₂ SG₉ (by simp) hH₉ (fun Q' q => by
    refine comp_filter (p := fun q => !decide (q ∈ xs1)) R'.hand F₈ N₁₂ (P2.sub SHB) (by omega) (by with_unfolding_all rfl) (by decide) (by rfl) (by decide) (by rfl) (by rfl) ?hev ?test ?hend
    case hev =>
      intro Q' hq
      walk_at "goF"
      exact hq _
    case test =>
      rintro C oC pv q s₃ m₃ E' hq hpair hoC hx F₄ N₄ k₃
      walk_at "goF"
      refine span_notin ((P1.sub SHB).sub k₃).lst hpair hu ?_
      walk_at "goF"
      exact ⟨_, _, rfl, fun _ _ e => e⟩
    case hend =>
      exact fun D h' tk _ hp kk => q _ _ _ (Keep.of_sub kk) ⟨D, rfl, hp⟩) ?_
  rintro v₁₀ h₁₀ tk₁₀ g₁₀ F₁₀ N₁₀ SG₁₀ SH₁₀ KG₁₀ KS₁₀ up₁₀ nH₁₀ ⟨DB, rfl, PB⟩
  have hH₁₀ : ∀ a ∈ [L + 1 + 1, L + 1], h₀.get? a = none ∧ g₁₀.get? a = none := fun a ha => ⟨(hH₃ a ha).1, nH₁₀ a ha⟩
  have PB := PB.trs (seq_up F₁₀.ns (cells_up N₁₀ d1' d2') up₁₀)
  have KG₁₀ := KG₁₀.sub
  clear F₈ N₁₂
  dsimp only [List.cons_append, List.nil_append] at N₁₀
  have P1 := P1.sub KG₁₀
  have P2 := P2.sub KG₁₀
  have hT1 := hT1.tk (TK.of_sub KG₁₀)
  have hT2 := hT2.tk (TK.of_sub KG₁₀)
  walk_at "goF"
  rename Fr _ _ _ _ => F₉
  rename News _ _ _ _ => N₈
  have SHC : Sub g₁₀ _ := sub_of F₉ N₈ (fun p hp => .tail _ (.tail _ (.tail _ hp))) SG₁₀
  refine lists_eq (PB.sub SHC).lst (qs := []) ⟨[], ⟨_, (N₈ _ (.head _)).1, rfl, 0, rfl⟩, .nil⟩ hu ?_
  have eB := rel_sub R2 R1 hcg.1 hcf.1
  obtain ⟨bB, hbB⟩ : ∃ b, decide ((xs2.filter fun q => !decide (q ∈ xs1)) = []) = b := ⟨_, rfl⟩
  rw [hbB]
  have hbB : bB = true ↔ ∀ k, g k ≤ f k := by rw [← hbB, decide_eq_true_eq]; exact eB
  have N₁₃ := news_tail (news' := [_, _] ++ dump h₀ g₁₀) N₈ (fun p hp => .tail _ hp)
  clear N₈
  dsimp only [List.cons_append, List.nil_append] at N₁₃
  walk_at "goF"
  rename Fr _ _ _ _ => F₉
  rename News _ _ _ _ => N₁₃
  have SHD : Sub g₁₀ _ := sub_of F₉ N₁₃ (fun p hp => .tail _ (.tail _ hp)) SG₁₀
  refine before_spec (R'.le (by omega)) KX T F₉.keep (fr_size F₉) (hT1.tk (TK.of_sub SHD)) hs1 (hT2.tk (TK.of_sub SHD)) hs2 fun b1 h₁₄ tk₁₄ hb1 kk₁₄ => ?_
  have F₁₄ := fr_sub F₉ kk₁₄
  have N₁₄ := news_sub N₁₃ kk₁₄
  have SHE : Sub g₁₀ h₁₄ := fun b o e => kk₁₄ _ _ (SHD b o e)
  clear F₉ N₁₃
  walk_at "goF"
  refine apart_spec (R'.le (by omega)) KX T F₁₄.keep (fr_size F₁₄) (hT1.tk (TK.of_sub SHE)) hs1 (hT2.tk (TK.of_sub SHE)) hs2 fun b2 h₁₅ tk₁₅ hb2 kk₁₅ => ?_
  have F₁₅ := fr_sub F₁₄ kk₁₅
  have N₁₅ := news_sub N₁₄ kk₁₅
  clear F₁₄ N₁₄
  simp only [hc1, hc2] at hb1 hb2
  have e1 : b1 = bA := by rw [Bool.eq_iff_iff]; exact hb1.trans hbA.symm
  have e2 : b2 = (!bA && !bB) := by
    rw [Bool.eq_iff_iff, hb2, ← hbA, ← hbB]
    cases bA <;> cases bB <;> simp
  subst e1 e2
  have k₁₀ : Sub s.heap g₁₀ := fun b o e => KG₁₀ _ _ (KG₉ _ _ (KG₈ _ _ (KG₇ _ _ (KG₆ _ _ (KG₅ _ _ (KG₄ _ _ (KG₃ _ _ (KG₂ b o e))))))))
  clear hbA hbB hb1 hb2 eA eB
  cases b1 <;> cases bB
  all_goals
    walk_at "goF"
    rename Fr _ _ _ _ => F₁₆
    rename News _ _ _ _ => N₁₆
    have SHF : Sub g₁₀ _ := sub_of F₁₆ N₁₆ (fun p hp => .tail _ (.tail _ (.tail _ (.tail _ hp)))) SG₁₀
    refine eq_dataH (reads_list_at (N₁₆ _ (.tail _ (.head _))).1 rfl rfl (.cons (.bool _) (.cons (.bool _) .nil))) (reads_list_at (N₁₆ _ (.head _)).1 rfl rfl (.cons (.bool _) (.cons (.bool _) .nil))) (by decide) (by decide) hu ?_
    exact hQ _ _ fun b o e => SHF _ _ (k₁₀ b o e)
end

section
open PySem PySem.W PyProof.Rows PySem.Calls
set_option maxRecDepth 100000
set_option Elab.async false
set_option maxHeartbeats 4000000
theorem kfill11 : PySem.Challenge.rw_on0015_01 = PySem.Challenge.rw_on0015_01 ∧ hd.heap_1 = hd.heap_1 := by
  k_fill
  exact ⟨rfl, rfl⟩
-- enter a plain def: its names and values
-- walk until a loop, a call or a step without a line
-- what lies on the anchor is apart from what it has not


theorem sub_keep {S : List Addr} {h g g' : Heap} (x : Sub h g) (k : Keep S g g') (n : ∀ b ∈ S, h.get? b = none) : Sub h g' := fun b o e => k.at (fun q => by rw [n b q] at e; cases e) (x b o e)
theorem clk_int {h : Heap} {v : Value} {f : Int → Int} (x : ClkAt h v f) : ∃ c, TupAt h v c ∧ ∀ k, cnt c k = f k := let ⟨c, a, _, b⟩ := x; ⟨c, a, b⟩
theorem last_send {P : (Int → Int → Int) → Prop} {S Rr : List (Int → Int)} {a r : Int → Int} {F1 F' : Int → Int → Int} {c : (Int → Int) → Int → Int → Int} (e1 : S = [a]) (e2 : Rr = [r])
    (f : (¬ (0 ≤ (S.length : Int) - 1 ∧ (S.length : Int) - 1 < Rr.length) ∧ F' = F1) ∨ ∃ fr, 0 ≤ (S.length : Int) - 1 ∧ Rr[((S.length : Int) - 1).toNat]? = some fr ∧ F' = c fr) (W : P F') : P (c r) := by
  subst e1 e2
  rcases f with ⟨z, _⟩ | ⟨fr, _, z, rfl⟩
  · exact absurd ⟨by simp, by simp⟩ z
  · cases (show some r = some fr from z)
    exact W
theorem lfixed_spec {prog p w loose mean mg mb} {A : Around} {E : Value → Shared → Prop} {s : Shared} {h₀ : Heap} (R : Room A 5) (KX : (hd.heap_1 w.params).In h₀) (T : Top p loose mean mg mb h₀)
   (S0 : Sub h₀ s.heap) (hz : h₀.objs.size ≤ s.heap.objs.size) {Q : Value → Shared → Prop}
   (hQ : ∀ h' tk, Sub s.heap h' → Q (.bool true) { s with heap := h', toks := tk }) :
   wpAny (model prog w) A (call (.ref 319) []) Q E s := by
  k_call_by "enter" ([] : List (Str × Value))
  intro L h₁ A' R' hL F₁ N₁ SG
  have hu : A'.units + 64 < cLine := by have := R'.units; omega
  walk_at "goF"
  refine step [] [] [] (fun v h' => ∃ x dx Dc Dl Dg, v = .ref x ∧ WS prog w h₀ h' x dx Dc Dl Dg one (fun _ => none) (fun _ => 0) ∧ (∀ b ∈ fpW x dx Dc Dl Dg (fun _ => none), b ≠ L ∧ s.heap.get? b = none)) F₁ N₁ S0 (by simp) (by simp)
    (fun Q' q => watch_new (R'.le (by omega)) KX T F₁.keep (fr_size F₁) fun x dx Dc Dl Dg h' tk kk W fr => q _ _ _ (Keep.of_sub kk) ⟨x, dx, Dc, Dl, Dg, rfl, W, fun b hb => ⟨fresh_ne F₁.ns (fr b hb), sub_none SG (fr b hb)⟩⟩) ?_
  rintro v₂ h₂ tk₂ g₂ F₂ N₂ SG₂ SH₂ KG₂ KS₂ up₂ _ ⟨x, dx, Dc, Dl, Dg, rfl, W₂, fr⟩
  have k0 : Sub s.heap g₂ := KG₂.sub
  have fr0 : ∀ b ∈ fpW x dx Dc Dl Dg (fun _ => none), s.heap.get? b = none := fun b hb => (fr b hb).2
  have nL : ∀ b ∈ fpW x dx Dc Dl Dg (fun _ => none), b ≠ L := fun b hb => (fr b hb).1
  have W₂ := W₂.up nL F₂.ns up₂
  clear F₁ N₁ fr
  dsimp only [List.nil_append] at N₂
  obtain ⟨e1, e2, e3, e4, e5, t1, t2, t3, t4, t5, Dp, Rl, nn, NX⟩ := wi_news2 (cs := []) N₂ W₂.cs.wi
  clear N₂
  walk_at "goF"
  rename Fr _ _ _ _ => F₂
  rename News _ _ _ _ => NX
  have N₂ := news_tail (news' := dump h₀ g₂) NX (fun p hp => .tail _ (.tail _ hp))
  clear NX
  have SH₂ : Sub g₂ _ := sub_of F₂ N₂ (fun p hp => hp) SG₂
  refine step [] (fpW x dx Dc Dl Dg (fun _ => none)) [] (fun v h' => ∃ ls', v = .none ∧ WS prog w h₀ h' x dx Dc Dl Dg (goF one 0 1) ls' (fun _ => 0) ∧ ls' = (fun _ => none) ∧ (∀ b ∈ fpW x dx Dc Dl Dg ls', b ∈ fpW x dx Dc Dl Dg (fun _ => none) ∨ (b ≠ L ∧ s.heap.get? b = none))) F₂ N₂ SG₂ (fun b hb => ⟨nL b hb, W₂.own b hb, by simp⟩) (by simp)
    (fun Q' q => go_spec (R'.le (by omega)) KX T F₂.keep (fr_size F₂) (W₂.cs.sub SH₂) ⟨by decide, by decide⟩ ⟨by decide, by decide⟩ fun h' tk kk C => q _ _ _ (kk.mono (by simp [fpW])) ⟨_, rfl, WS.clocks (W₂.sub SH₂) kk C, rfl, fun b hb => .inl hb⟩) ?_
  rintro v₃ h₃ tk₃ g₃ F₃ N₃ SG₃ SH₃ KG₃ KS₃ up₃ _ ⟨_, rfl, W₃, rfl, fr⟩
  have k0 := sub_keep k0 KG₃ fr0
  have fr0 : ∀ b ∈ fpW x dx Dc Dl Dg (fun _ => none), s.heap.get? b = none := fun b hb => (fr b hb).elim (fr0 b) fun q => q.2
  have nL : ∀ b ∈ fpW x dx Dc Dl Dg (fun _ => none), b ≠ L := fun b hb => (fr b hb).elim (nL b) fun q => q.1
  have W₃ := W₃.up nL F₃.ns up₃
  clear F₂ N₂ fr
  dsimp only [List.nil_append] at N₃
  obtain ⟨e1, e2, e3, e4, e5, t1, t2, t3, t4, t5, Dp, Rl, nn, NX⟩ := wi_news2 (cs := []) N₃ W₃.cs.wi
  clear N₃
  walk_at "goF"
  rename Fr _ _ _ _ => F₃
  rename News _ _ _ _ => NX
  have N₃ := news_tail (news' := dump h₀ g₃) NX (fun p hp => .tail _ (.tail _ hp))
  clear NX
  have SH₃ : Sub g₃ _ := sub_of F₃ N₃ (fun p hp => hp) SG₃
  refine step [] (fpW x dx Dc Dl Dg (fun _ => none)) [] (fun v h' => ∃ ls', v = .none ∧ WS prog w h₀ h' x dx Dc Dl Dg (upd (goF one 0 1) 0 (tick ((goF one 0 1) 0) 0)) ls' (fun _ => 0) ∧ sentOf (ls' 7) = [(goF one 0 1) 0] ∧ recvOf (ls' 7) = [] ∧ (∀ b ∈ fpW x dx Dc Dl Dg ls', b ∈ fpW x dx Dc Dl Dg (fun _ => none) ∨ (b ≠ L ∧ s.heap.get? b = none))) F₃ N₃ SG₃ (fun b hb => ⟨nL b hb, W₃.own b hb, by simp⟩) (by simp)
    (fun Q' q => send_spec (R'.le (by omega)) KX T F₃.keep (fr_size F₃) (W₃.sub SH₃) ⟨by decide, by decide⟩ (.inl rfl) (by decide) (by decide) fun F' ls' l h' tk kk W b c d _ _ e f => q _ _ _ kk ⟨ls', rfl, by rcases f with ⟨_, rfl⟩ | ⟨fr, z, _⟩ <;> first | exact W | exact absurd z (by decide), by rw [b]; exact c, by rw [b]; exact d, fun b hb => (e b hb).imp id fun q => ⟨fresh_ne F₃.ns q, sub_none (fun b o e => SH₃ _ _ (k0 b o e)) q⟩⟩) ?_
  rintro v₄ h₄ tk₄ g₄ F₄ N₄ SG₄ SH₄ KG₄ KS₄ up₄ _ ⟨ls4, rfl, W₄, hs4, hr4, fr⟩
  have k0 := sub_keep k0 KG₄ fr0
  have fr0 : ∀ b ∈ fpW x dx Dc Dl Dg ls4, s.heap.get? b = none := fun b hb => (fr b hb).elim (fr0 b) fun q => q.2
  have nL : ∀ b ∈ fpW x dx Dc Dl Dg ls4, b ≠ L := fun b hb => (fr b hb).elim (nL b) fun q => q.1
  have W₄ := W₄.up nL F₄.ns up₄
  clear F₃ N₃ fr
  dsimp only [List.nil_append] at N₄
  obtain ⟨e1, e2, e3, e4, e5, t1, t2, t3, t4, t5, Dp, Rl, nn, NX⟩ := wi_news2 (cs := []) N₄ W₄.cs.wi
  clear N₄
  walk_at "goF"
  rename Fr _ _ _ _ => F₄
  rename News _ _ _ _ => NX
  have N₄ := news_tail (news' := dump h₀ g₄) NX (fun p hp => .tail _ (.tail _ hp))
  clear NX
  have SH₄ : Sub g₄ _ := sub_of F₄ N₄ (fun p hp => hp) SG₄
  refine step [] (fpW x dx Dc Dl Dg (ls4)) [] (fun v h' => ∃ ls', v = .none ∧ WS prog w h₀ h' x dx Dc Dl Dg (upd (upd (upd (goF one 0 1) 0 (tick ((goF one 0 1) 0) 0)) 1 (tick ((upd (goF one 0 1) 0 (tick ((goF one 0 1) 0) 0)) 1) 1)) 1 (join (tick ((upd (goF one 0 1) 0 (tick ((goF one 0 1) 0) 0)) 1) 1) ((goF one 0 1) 0))) ls' (fun _ => 0) ∧ sentOf (ls' 7) = [(goF one 0 1) 0] ∧ recvOf (ls' 7) = [(upd (goF one 0 1) 0 (tick ((goF one 0 1) 0) 0)) 1] ∧ (∀ b ∈ fpW x dx Dc Dl Dg ls', b ∈ fpW x dx Dc Dl Dg (ls4) ∨ (b ≠ L ∧ s.heap.get? b = none))) F₄ N₄ SG₄ (fun b hb => ⟨nL b hb, W₄.own b hb, by simp⟩) (by simp)
    (fun Q' q => receive_spec (fs := ((goF one 0 1) 0)) (R'.le (by omega)) KX T F₄.keep (fr_size F₄) (W₄.sub SH₄) ⟨by decide, by decide⟩ (.inl rfl) (by rw [hs4]; decide) (by rw [hr4]; decide) (by rw [hs4, hr4]; rfl) fun ls' l h' tk kk W b c d _ _ e => q _ _ _ kk ⟨ls', rfl, W, by rw [b]; exact c.trans hs4, by rw [b]; exact d.trans (by rw [hr4]; rfl), fun b hb => (e b hb).imp id fun q => ⟨fresh_ne F₄.ns q, sub_none (fun b o e => SH₄ _ _ (k0 b o e)) q⟩⟩) ?_
  rintro v₅ h₅ tk₅ g₅ F₅ N₅ SG₅ SH₅ KG₅ KS₅ up₅ _ ⟨ls5, rfl, W₅, hs5, hr5, fr⟩
  have k0 := sub_keep k0 KG₅ fr0
  have fr0 : ∀ b ∈ fpW x dx Dc Dl Dg ls5, s.heap.get? b = none := fun b hb => (fr b hb).elim (fr0 b) fun q => q.2
  have nL : ∀ b ∈ fpW x dx Dc Dl Dg ls5, b ≠ L := fun b hb => (fr b hb).elim (nL b) fun q => q.1
  have W₅ := W₅.up nL F₅.ns up₅
  clear F₄ N₄ fr
  dsimp only [List.nil_append] at N₅
  obtain ⟨e1, e2, e3, e4, e5, t1, t2, t3, t4, t5, Dp, Rl, nn, NX⟩ := wi_news2 (cs := []) N₅ W₅.cs.wi
  clear N₅
  walk_at "goF"
  rename Fr _ _ _ _ => F₅
  rename News _ _ _ _ => NX
  have N₅ := news_tail (news' := dump h₀ g₅) NX (fun p hp => .tail _ (.tail _ hp))
  clear NX
  have SH₅ : Sub g₅ _ := sub_of F₅ N₅ (fun p hp => hp) SG₅
  refine step [] [Dc] [] (fun v h' => CS prog w h₀ h' x dx Dc Dl Dg (upd (upd (upd (goF one 0 1) 0 (tick ((goF one 0 1) 0) 0)) 1 (tick ((upd (goF one 0 1) 0 (tick ((goF one 0 1) 0) 0)) 1) 1)) 1 (join (tick ((upd (goF one 0 1) 0 (tick ((goF one 0 1) 0) 0)) 1) 1) ((goF one 0 1) 0))) ∧ ClkAt h' v ((upd (upd (upd (goF one 0 1) 0 (tick ((goF one 0 1) 0) 0)) 1 (tick ((upd (goF one 0 1) 0 (tick ((goF one 0 1) 0) 0)) 1) 1)) 1 (join (tick ((upd (goF one 0 1) 0 (tick ((goF one 0 1) 0) 0)) 1) 1) ((goF one 0 1) 0))) 0)) F₅ N₅ SG₅ (by simpa using ⟨nL Dc (by simp [fpW]), W₅.own Dc (by simp [fpW])⟩) (by simp)
    (fun Q' q => clock_spec (R'.le (by omega)) KX T F₅.keep (fr_size F₅) (W₅.cs.sub SH₅) ⟨by decide, by decide⟩ fun v h' tk kk C x => q _ _ _ kk ⟨C, x⟩) ?_
  rintro v₆ h₆ tk₆ g₆ F₆ N₆ SG₆ SH₆ KG₆ KS₆ up₆ _ ⟨C₆, x₆⟩
  have k0 := sub_keep k0 KG₆ (by simpa using fr0 Dc (by simp [fpW]))
  have W₆ := WS.clocks W₅ KG₆ (C₆.up (fun b hb => nL b (by unfold fpW; rcases hb with rfl | rfl | rfl <;> simp)) F₆.ns up₆)
  have x₆ := x₆.tk (tk_up F₆.ns (by simp) up₆)
  obtain ⟨c1, hcT, hcc⟩ := clk_int x₆
  clear F₅ N₅
  dsimp only [List.nil_append] at N₆
  walk_at "goF"
  refine count_spec (R'.le (by omega)) KX T F₆.keep (fr_size F₆) (hcT.tk (TK.of_sub SH₆)) fun u h tk kk => ?_
  rw [hcc, show ((upd (upd (upd (goF one 0 1) 0 (tick ((goF one 0 1) 0) 0)) 1 (tick ((upd (goF one 0 1) 0 (tick ((goF one 0 1) 0) 0)) 1) 1)) 1 (join (tick ((upd (goF one 0 1) 0 (tick ((goF one 0 1) 0) 0)) 1) 1) ((goF one 0 1) 0))) 0) 1 = (0 : Int) from by decide]
  have SH₆ : Sub g₆ h := fun b o e => kk _ _ (SH₆ b o e)
  have F₆ := fr_sub F₆ kk
  have N₇ := news_sub N₆ kk
  clear N₆
  obtain ⟨e1, e2, e3, e4, e5, t1, t2, t3, t4, t5, Dp, Rl, nn, NX⟩ := wi_news2 (cs := []) N₇ W₆.cs.wi
  clear N₇
  walk_at "goF"
  rename Fr _ _ _ _ => F₆
  rename News _ _ _ _ => NX
  have N₇ := news_tail (news' := dump h₀ g₆) NX (fun p hp => .tail _ (.tail _ hp))
  clear NX
  have SH₆ : Sub g₆ _ := sub_of F₆ N₇ (fun p hp => hp) SG₆
  refine step [] (fpW x dx Dc Dl Dg (ls5)) [] (fun v h' => ∃ ls', v = .none ∧ WS prog w h₀ h' x dx Dc Dl Dg (upd (upd (upd (upd (upd (goF one 0 1) 0 (tick ((goF one 0 1) 0) 0)) 1 (tick ((upd (goF one 0 1) 0 (tick ((goF one 0 1) 0) 0)) 1) 1)) 1 (join (tick ((upd (goF one 0 1) 0 (tick ((goF one 0 1) 0) 0)) 1) 1) ((goF one 0 1) 0))) 0 (tick ((upd (upd (upd (goF one 0 1) 0 (tick ((goF one 0 1) 0) 0)) 1 (tick ((upd (goF one 0 1) 0 (tick ((goF one 0 1) 0) 0)) 1) 1)) 1 (join (tick ((upd (goF one 0 1) 0 (tick ((goF one 0 1) 0) 0)) 1) 1) ((goF one 0 1) 0))) 0) 0)) 0 (join (tick ((upd (upd (upd (goF one 0 1) 0 (tick ((goF one 0 1) 0) 0)) 1 (tick ((upd (goF one 0 1) 0 (tick ((goF one 0 1) 0) 0)) 1) 1)) 1 (join (tick ((upd (goF one 0 1) 0 (tick ((goF one 0 1) 0) 0)) 1) 1) ((goF one 0 1) 0))) 0) 0) ((upd (goF one 0 1) 0 (tick ((goF one 0 1) 0) 0)) 1))) ls' (fun _ => 0) ∧  (∀ b ∈ fpW x dx Dc Dl Dg ls', b ∈ fpW x dx Dc Dl Dg (ls5) ∨ (b ≠ L ∧ s.heap.get? b = none))) F₆ N₇ SG₆ (fun b hb => ⟨nL b hb, W₆.own b hb, by simp⟩) (by simp)
    (fun Q' q => send_spec (R'.le (by omega)) KX T F₆.keep (fr_size F₆) (W₆.sub SH₆) ⟨by decide, by decide⟩ (.inl rfl) (by rw [hs5]; decide) (by rw [hr5]; decide) fun F' ls' l h' tk kk W b c d _ _ e f => q _ _ _ kk ⟨ls', rfl, (by have z := last_send (P := fun F => WS prog w h₀ h' x dx Dc Dl Dg F ls' (fun _ => 0)) hs5 hr5 f W; exact z), fun b hb => (e b hb).imp id fun q => ⟨fresh_ne F₆.ns q, sub_none (fun b o e => SH₆ _ _ (k0 b o e)) q⟩⟩) ?_
  rintro v₇ h₇ tk₇ g₇ F₇ N₈ SG₇ SH₇ KG₇ KS₇ up₇ _ ⟨ls6, rfl, W₇, fr⟩
  have k0 := sub_keep k0 KG₇ fr0
  have fr0 : ∀ b ∈ fpW x dx Dc Dl Dg ls6, s.heap.get? b = none := fun b hb => (fr b hb).elim (fr0 b) fun q => q.2
  have nL : ∀ b ∈ fpW x dx Dc Dl Dg ls6, b ≠ L := fun b hb => (fr b hb).elim (nL b) fun q => q.1
  have W₇ := W₇.up nL F₇.ns up₇
  clear F₆ N₇ fr
  dsimp only [List.nil_append] at N₈
  obtain ⟨e1, e2, e3, e4, e5, t1, t2, t3, t4, t5, Dp, Rl, nn, NX⟩ := wi_news2 (cs := []) N₈ W₇.cs.wi
  clear N₈
  walk_at "goF"
  rename Fr _ _ _ _ => F₇
  rename News _ _ _ _ => NX
  have N₈ := news_tail (news' := dump h₀ g₇) NX (fun p hp => .tail _ (.tail _ hp))
  clear NX
  have SH₇ : Sub g₇ _ := sub_of F₇ N₈ (fun p hp => hp) SG₇
  refine step [] [Dc] [] (fun v h' => CS prog w h₀ h' x dx Dc Dl Dg (upd (upd (upd (upd (upd (goF one 0 1) 0 (tick ((goF one 0 1) 0) 0)) 1 (tick ((upd (goF one 0 1) 0 (tick ((goF one 0 1) 0) 0)) 1) 1)) 1 (join (tick ((upd (goF one 0 1) 0 (tick ((goF one 0 1) 0) 0)) 1) 1) ((goF one 0 1) 0))) 0 (tick ((upd (upd (upd (goF one 0 1) 0 (tick ((goF one 0 1) 0) 0)) 1 (tick ((upd (goF one 0 1) 0 (tick ((goF one 0 1) 0) 0)) 1) 1)) 1 (join (tick ((upd (goF one 0 1) 0 (tick ((goF one 0 1) 0) 0)) 1) 1) ((goF one 0 1) 0))) 0) 0)) 0 (join (tick ((upd (upd (upd (goF one 0 1) 0 (tick ((goF one 0 1) 0) 0)) 1 (tick ((upd (goF one 0 1) 0 (tick ((goF one 0 1) 0) 0)) 1) 1)) 1 (join (tick ((upd (goF one 0 1) 0 (tick ((goF one 0 1) 0) 0)) 1) 1) ((goF one 0 1) 0))) 0) 0) ((upd (goF one 0 1) 0 (tick ((goF one 0 1) 0) 0)) 1))) ∧ ClkAt h' v ((upd (upd (upd (upd (upd (goF one 0 1) 0 (tick ((goF one 0 1) 0) 0)) 1 (tick ((upd (goF one 0 1) 0 (tick ((goF one 0 1) 0) 0)) 1) 1)) 1 (join (tick ((upd (goF one 0 1) 0 (tick ((goF one 0 1) 0) 0)) 1) 1) ((goF one 0 1) 0))) 0 (tick ((upd (upd (upd (goF one 0 1) 0 (tick ((goF one 0 1) 0) 0)) 1 (tick ((upd (goF one 0 1) 0 (tick ((goF one 0 1) 0) 0)) 1) 1)) 1 (join (tick ((upd (goF one 0 1) 0 (tick ((goF one 0 1) 0) 0)) 1) 1) ((goF one 0 1) 0))) 0) 0)) 0 (join (tick ((upd (upd (upd (goF one 0 1) 0 (tick ((goF one 0 1) 0) 0)) 1 (tick ((upd (goF one 0 1) 0 (tick ((goF one 0 1) 0) 0)) 1) 1)) 1 (join (tick ((upd (goF one 0 1) 0 (tick ((goF one 0 1) 0) 0)) 1) 1) ((goF one 0 1) 0))) 0) 0) ((upd (goF one 0 1) 0 (tick ((goF one 0 1) 0) 0)) 1))) 0)) F₇ N₈ SG₇ (by simpa using ⟨nL Dc (by simp [fpW]), W₇.own Dc (by simp [fpW])⟩) (by simp)
    (fun Q' q => clock_spec (R'.le (by omega)) KX T F₇.keep (fr_size F₇) (W₇.cs.sub SH₇) ⟨by decide, by decide⟩ fun v h' tk kk C x => q _ _ _ kk ⟨C, x⟩) ?_
  rintro v₈ h₈ tk₈ g₈ F₈ N₉ SG₈ SH₈ KG₈ KS₈ up₈ _ ⟨C₈, x₈⟩
  have k0 := sub_keep k0 KG₈ (by simpa using fr0 Dc (by simp [fpW]))
  have W₈ := WS.clocks W₇ KG₈ (C₈.up (fun b hb => nL b (by unfold fpW; rcases hb with rfl | rfl | rfl <;> simp)) F₈.ns up₈)
  have x₈ := x₈.tk (tk_up F₈.ns (by simp) up₈)
  obtain ⟨c2, hcT2, hcc2⟩ := clk_int x₈
  clear F₇ N₈
  dsimp only [List.nil_append] at N₉
  walk_at "goF"
  refine count_spec (R'.le (by omega)) KX T F₈.keep (fr_size F₈) (hcT2.tk (TK.of_sub SH₈)) fun u h tk kk => ?_
  rw [hcc2, show ((upd (upd (upd (upd (upd (goF one 0 1) 0 (tick ((goF one 0 1) 0) 0)) 1 (tick ((upd (goF one 0 1) 0 (tick ((goF one 0 1) 0) 0)) 1) 1)) 1 (join (tick ((upd (goF one 0 1) 0 (tick ((goF one 0 1) 0) 0)) 1) 1) ((goF one 0 1) 0))) 0 (tick ((upd (upd (upd (goF one 0 1) 0 (tick ((goF one 0 1) 0) 0)) 1 (tick ((upd (goF one 0 1) 0 (tick ((goF one 0 1) 0) 0)) 1) 1)) 1 (join (tick ((upd (goF one 0 1) 0 (tick ((goF one 0 1) 0) 0)) 1) 1) ((goF one 0 1) 0))) 0) 0)) 0 (join (tick ((upd (upd (upd (goF one 0 1) 0 (tick ((goF one 0 1) 0) 0)) 1 (tick ((upd (goF one 0 1) 0 (tick ((goF one 0 1) 0) 0)) 1) 1)) 1 (join (tick ((upd (goF one 0 1) 0 (tick ((goF one 0 1) 0) 0)) 1) 1) ((goF one 0 1) 0))) 0) 0) ((upd (goF one 0 1) 0 (tick ((goF one 0 1) 0) 0)) 1))) 0) 1 = (1 : Int) from by decide]
  have SH₈ : Sub g₈ h := fun b o e => kk _ _ (SH₈ b o e)
  have F₈ := fr_sub F₈ kk
  have N₁₀ := news_sub N₉ kk
  clear N₉
  walk_at "goF"
  rename Fr _ _ _ _ => F₁₆
  rename News _ _ _ _ => N₁₆
  have SHF : Sub g₈ _ := sub_of F₁₆ N₁₆ (fun p hp => .tail _ (.tail _ hp)) SG₈
  refine eq_dataH (reads_list_at (N₁₆ _ (.tail _ (.head _))).1 rfl rfl (.cons (.int _ _) (.cons (.int _ _) .nil))) (reads_list_at (N₁₆ _ (.head _)).1 rfl rfl (.cons (.int _ _) (.cons (.int _ _) .nil))) (by decide) (by decide) hu ?_
  walk_at "goF"
  exact hQ _ _ fun b o e => SHF _ _ (k0 b o e)
end

section
open PySem PySem.W PyProof.Rows PySem.Calls
set_option maxRecDepth 100000
set_option Elab.async false
set_option maxHeartbeats 4000000
theorem kfill12 : PySem.Challenge.rw_on0015_01 = PySem.Challenge.rw_on0015_01 ∧ hd.heap_1 = hd.heap_1 := by
  k_fill
  exact ⟨rfl, rfl⟩
-- enter a plain def: its names and values
-- walk until a loop, a call or a step without a line
-- walk until a loop, a call or a step without a line
-- what lies on the anchor is apart from what it has not


theorem ints_get {vs : List Value} {is : List Int} (h : IntsAre vs is) : ∀ {i : Nat} {c : Int}, is[i]? = some c → ∃ u, vs[i]? = some (.int c u) := by
  induction h with
  | nil => intro i c e; simp at e
  | cons n t _ ih =>
    intro i c e
    cases i with
    | zero => simp at e; subst e; exact ⟨t, rfl⟩
    | succ i => simpa using ih (by simpa using e)
theorem ite_int {c : Prop} [Decidable c] {a b : Int} {t u : Tok} : ∃ m x, (if c then Value.int b u else Value.int a t) = Value.int m x := by
  split
  · exact ⟨_, _, rfl⟩
  · exact ⟨_, _, rfl⟩
theorem max_any {prog : Program} {w : World} {A : Around} {E : Value → Shared → Prop} {s : Shared} {a b : Int} {t u : Tok} {Q : Value → Shared → Prop} (hh : A.handled = none)
    (h : ∀ h' tk m x, Sub s.heap h' → Q (.int m x) { s with heap := h', toks := tk }) : wpAny (model prog w) A (call (.builtin "max") [.int a t, .int b u]) Q E s :=
  max_two_ints hh fun h' tk k => by
    obtain ⟨m, x, e⟩ := ite_int (c := b > a) (a := a) (b := b) (t := t) (u := u)
    rw [e]
    exact h h' tk m x k
theorem none_new {h₀ g : Heap} {l : Addr} (lt : ∀ p ∈ dump h₀ g, @LT.lt Nat _ p.1 l) (h : h₀.get? l = none) : g.get? l = none := by
  cases q : g.get? l with
  | none => rfl
  | some o => exact absurd (lt _ (mem_dump.mpr ⟨q, h⟩)) (Nat.lt_irrefl _)
theorem lpool_spec {prog p w loose mean mg mb} {A : Around} {E : Value → Shared → Prop} {s : Shared} {h₀ : Heap} (R : Room A 1) (KX : (hd.heap_1 w.params).In h₀) (T : Top p loose mean mg mb h₀)
   (S0 : Sub h₀ s.heap) (hz : h₀.objs.size ≤ s.heap.objs.size) {sc : Addr} {vs : List Value} {is : List Int} {t : Tok} (hL : s.heap.IsList sc (List.toArray vs)) (hI : IntsAre vs is) (hz63 : is.length ≤ 63) {Q : Value → Shared → Prop}
   (hQ : ∀ Z h' tk, Sub s.heap h' → (∃ a b, SrcOk h' Z a b ∧ 0 ≤ b ∧ b < 2147483647) → s.heap.get? Z = none → Q (.ref Z) { s with heap := h', toks := tk }) :
   wpAny (model prog w) A (call (.ref 245) [.ref sc, .int 0 t]) Q E s := by
  k_call_by "enter" [(Str.ofString "script", Value.ref sc), (Str.ofString "k", Value.int 0 t)]
  intro L h₁ A' R' hL' F₁ N₁ SG
  have hlen : vs.length = is.length := hI.length
  walk_at "goF"
  rename Fr _ _ _ _ => F₂
  rename News _ _ _ _ => N₂
  have SH₂ : Sub s.heap _ := sub_of F₂ N₂ (fun p hp => hp) S0
  refine call_len_list (hL.at (SH₂ _)) (by rw [List.size_toArray]; omega) ?_
  walk_at "goF"
  · rename _ < _ => hlt
    obtain ⟨c, hc⟩ : ∃ c, is[0]? = some c := ⟨_, List.getElem?_eq_getElem (by rw [List.size_toArray] at hlt; omega)⟩
    obtain ⟨u, hu⟩ := ints_get hI hc
    refine list_item (hL.at (SH₂ _)) (by decide) (by rw [List.size_toArray]; omega) (v := .int c u) (by rw [List.getElem?_toArray]; exact hu) ?_
    walk_at "all"
    rename Fr _ _ _ _ => F₃
    rename News _ _ _ _ => N₃
    have SH₃ : Sub s.heap _ := sub_of F₃ N₃ (fun p hp => hp) S0
    refine max_any R'.hand fun h₄ tk₄ mm um kk₄ => ?_
    have F₄ := fr_sub F₃ kk₄
    have N₄ := news_sub N₃ kk₄
    clear F₃ N₃
    walk_at "all"
    rename Fr _ _ _ _ => F₅
    rename News _ _ _ _ => N₅
    rename ∀ p ∈ dump h₀ s.heap, _ => lt₅
    have SH₅ : Sub s.heap _ := sub_of F₅ N₅ (fun p hp => .tail _ hp) S0
    exact hQ _ _ _ SH₅ ⟨_, _, ⟨_, _, ⟨_, (N₅ _ (.head _)).1, rfl, 0, rfl⟩⟩, fmod_in (by decide)⟩ (none_new lt₅ (N₅ _ (.head _)).2.2)
  · walk_at "all"
    rename Fr _ _ _ _ => F₃
    rename News _ _ _ _ => N₃
    have SH₃ : Sub s.heap _ := sub_of F₃ N₃ (fun p hp => hp) S0
    refine max_any R'.hand fun h₄ tk₄ mm um kk₄ => ?_
    have F₄ := fr_sub F₃ kk₄
    have N₄ := news_sub N₃ kk₄
    clear F₃ N₃
    walk_at "all"
    rename Fr _ _ _ _ => F₅
    rename News _ _ _ _ => N₅
    rename ∀ p ∈ dump h₀ s.heap, _ => lt₅
    have SH₅ : Sub s.heap _ := sub_of F₅ N₅ (fun p hp => .tail _ hp) S0
    exact hQ _ _ _ SH₅ ⟨_, _, ⟨_, _, ⟨_, (N₅ _ (.head _)).1, rfl, 0, rfl⟩⟩, fmod_in (by decide)⟩ (none_new lt₅ (N₅ _ (.head _)).2.2)
end

section
open PySem PySem.W PyProof.Rows PySem.Calls
set_option maxRecDepth 100000
set_option Elab.async false
set_option maxHeartbeats 4000000
theorem lw_start {prog : Program} {w : World} {h₀ g : Heap} {x dx Dc Dl Dg Z Kd Md Ls S7 R7 Lk Dp Lg : Addr} {r : Int} {tr t0 t1 : Tok} {oK oM : Obj} {nD : Nat}
    (W : WS prog w h₀ g x dx Dc Dl Dg one (fun _ => none) (fun _ => 0)) (hZ : ∃ u v, SrcOk g Z u v ∧ 0 ≤ v ∧ v < 2147483647) (hz0 : h₀.get? Z = none) (fz : ∀ b ∈ fpW x dx Dc Dl Dg (fun _ => none), b ≠ Z)
    (lw : ∀ b ∈ fpW x dx Dc Dl Dg (fun _ => none), @LT.lt Nat _ b Kd) (lz : @LT.lt Nat _ Z Kd) (l2 : @LT.lt Nat _ Kd Dp) (l3 : @LT.lt Nat _ Dp Lk) (l4 : @LT.lt Nat _ Lk Md) (l5 : @LT.lt Nat _ Md Lg) (l6 : @LT.lt Nat _ Lg S7) (l7 : @LT.lt Nat _ S7 R7) (l8 : @LT.lt Nat _ R7 Ls)
    (o1 : h₀.get? Kd = none) (o2 : h₀.get? Md = none) (o3 : h₀.get? S7 = none) (o4 : h₀.get? R7 = none)
    (EK : g.get? Kd = some oK) (dK : Obj.IsDictOf (intKind prog w) oK [(0, .ref Lk)]) (kl : (Kd == sysModules) = false) (EDp : g.get? Dp = some { cls := .type "tuple", data := .seq #[.int 0 t0, .int 1 t1] nD }) (ELk : g.PlainList Lk #[.ref Dp])
    (EM : g.get? Md = some oM) (dM : Obj.IsDictOf (PySem.strKind prog w) oM [(kG, .ref Lg)]) (ml : (Md == sysModules) = false) (ELg : g.PlainList Lg #[]) (ES : g.PlainList S7 #[]) (ER : g.PlainList R7 #[]) (EL : g.IsList Ls #[.int (1 + r) tr, .ref S7, .ref R7]) (r0 : 0 ≤ r) (r1 : r < 2) :
    LW prog w h₀ g ⟨x, dx, Dc, Dl, Dg, Z, Kd, Md, Ls, S7, R7⟩ (1 + r) 1 one (fun _ => none) (fun _ => 0) 4 := by
  have ne : ∀ {a b : Addr}, @LT.lt Nat _ a b → a ≠ b := fun h q => by rw [q] at h; exact Nat.lt_irrefl _ h
  have tr : ∀ {a b c : Addr}, @LT.lt Nat _ a b → @LT.lt Nat _ b c → @LT.lt Nat _ a c := fun a b => Nat.lt_trans a b
  have hU : ∀ b ∈ UW ⟨x, dx, Dc, Dl, Dg, Z, Kd, Md, Ls, S7, R7⟩ (fun _ => none), b = Z ∨ b = Kd ∨ b = Md ∨ b = S7 ∨ b = R7 ∨ @LT.lt Nat _ b Kd := fun b hb => by
    rcases List.mem_append.mp hb with hb | hb
    · simp only [own5, List.mem_cons, List.not_mem_nil, or_false] at hb
      rcases hb with h | h | h | h | h
      · exact .inl h
      · exact .inr (.inl h)
      · exact .inr (.inr (.inl h))
      · exact .inr (.inr (.inr (.inl h)))
      · exact .inr (.inr (.inr (.inr (.inl h))))
    · exact .inr (.inr (.inr (.inr (.inr (lw b hb)))))
  have off : ∀ b : Addr, @LT.lt Nat _ Kd b → b ≠ Md → b ≠ S7 → b ≠ R7 → b ∉ UW ⟨x, dx, Dc, Dl, Dg, Z, Kd, Md, Ls, S7, R7⟩ (fun _ => none) := fun b h1 h2 h3 h4 q => by
    rcases hU b q with e | e | e | e | e | e
    · exact ne (tr lz h1) e.symm
    · exact ne h1 e.symm
    · exact h2 e
    · exact h3 e
    · exact h4 e
    · exact ne (tr e h1) rfl
  have kM := tr (tr (tr l2 l3) l4) (Nat.lt_trans l5 l6)
  have kd : @LT.lt Nat _ Kd Md := tr (tr l2 l3) l4
  have mS : @LT.lt Nat _ Md S7 := tr l5 l6
  refine ⟨⟨W, ?_, ?_, ?_, hZ, ?_, kl, ml, ⟨off _ (tr (tr kM l7) l8) (Ne.symm (ne (tr (tr mS l7) l8))) (Ne.symm (ne (tr l7 l8))) (Ne.symm (ne l8)), _, EL⟩, ⟨by omega, by omega⟩, ⟨[], ES, .nil⟩, ⟨[], ER, .nil⟩, ?_⟩, Inv.start, by simp [sentOf, recvOf]⟩
  · intro b hb
    simp only [own5, List.mem_cons, List.not_mem_nil, or_false] at hb
    rcases hb with rfl | rfl | rfl | rfl | rfl <;> assumption
  · simp only [own5, List.nodup_cons, List.mem_cons, List.not_mem_nil, or_false, not_or, not_false_eq_true, List.nodup_nil, and_true]
    exact ⟨⟨ne lz, ne (tr lz kd), ne (tr lz kM), ne (tr lz (tr kM l7))⟩, ⟨ne kd, ne kM, ne (tr kM l7)⟩, ⟨ne mS, ne (tr mS l7)⟩, ne l7⟩
  · intro b hb q
    have q : b ∈ fpW x dx Dc Dl Dg (fun _ => none) := q
    have z := lw b q
    simp only [own5, List.mem_cons, List.not_mem_nil, or_false] at hb
    rcases hb with rfl | rfl | rfl | rfl | rfl
    · exact fz _ q rfl
    · exact ne z rfl
    · exact ne (tr z kd) rfl
    · exact ne (tr z kM) rfl
    · exact ne (tr z (tr kM l7)) rfl
  · obtain ⟨es, ep, dk⟩ := dK
    refine ⟨_, ⟨oK, es, ep, EK, dk⟩, rfl, fun k h1 h2 => ?_⟩
    have : k = 0 := by have h2 : k < ((1 : Nat) : Int) := h2; omega
    subst this
    exact ⟨Lk, rfl, off Lk (tr l2 l3) (ne l4) (ne (tr l4 mS)) (ne (tr l4 (tr mS l7))), [(0, 1)], ⟨[.ref Dp], ELk, .cons ⟨Dp, _, _, rfl, nD, EDp⟩ .nil⟩, rel_one⟩
  · obtain ⟨es, ep, dm⟩ := dM
    refine ⟨_, ⟨oM, es, ep, EM, dm⟩, fun q hq => ?_, ⟨Lg, rfl, off Lg (tr kd l5) (Ne.symm (ne l5)) (ne l6) (ne (tr l6 l7)), [], ⟨[], ELg, .nil⟩, rel_nil⟩, fun v hv => ?_⟩
    · rw [List.mem_singleton.mp hq]; exact .head _
    · have : valueAt [(kG, Value.ref Lg)] kE = none := by rw [vK_cons, if_neg kGE]; rfl
      rw [this] at hv; cases hv
/-- the names of the law in its loops -/
def lawM (Ls x Kd Md Z : Addr) (r : Str → Option Value) (ov ot : Option Value) : Str → Option Value := fun z =>
  if z = Str.ofString "who" then ov else if z = Str.ofString "turn" then ot else if z = Str.ofString "line" then some (.ref Ls) else if z = Str.ofString "watch" then some (.ref x) else
  if z = Str.ofString "known" then some (.ref Kd) else if z = Str.ofString "marks" then some (.ref Md) else if z = Str.ofString "source" then some (.ref Z) else r z
theorem lawM_nf {Ls x Kd Md Z : Addr} {m : Str → Option Value} (h1 : m (Str.ofString "line") = some (.ref Ls)) (h2 : m (Str.ofString "watch") = some (.ref x)) (h3 : m (Str.ofString "known") = some (.ref Kd)) (h4 : m (Str.ofString "marks") = some (.ref Md))
    (h5 : m (Str.ofString "source") = some (.ref Z)) : m = lawM Ls x Kd Md Z m (m (Str.ofString "who")) (m (Str.ofString "turn")) := by
  funext z
  unfold lawM
  by_cases e1 : z = Str.ofString "who"
  · rw [if_pos e1, e1]
  rw [if_neg e1]
  by_cases e2 : z = Str.ofString "turn"
  · rw [if_pos e2, e2]
  rw [if_neg e2]
  by_cases e3 : z = Str.ofString "line"
  · rw [if_pos e3, e3, h1]
  rw [if_neg e3]
  by_cases e4 : z = Str.ofString "watch"
  · rw [if_pos e4, e4, h2]
  rw [if_neg e4]
  by_cases e5 : z = Str.ofString "known"
  · rw [if_pos e5, e5, h3]
  rw [if_neg e5]
  by_cases e6 : z = Str.ofString "marks"
  · rw [if_pos e6, e6, h4]
  rw [if_neg e6]
  by_cases e7 : z = Str.ofString "source"
  · rw [if_pos e7, e7, h5]
  rw [if_neg e7]
theorem LW.up {prog : Program} {w : World} {h₀ h' g' : Heap} {a : AD} {room : Int} {n : Nat} {F : Int → Int → Int} {ls : Int → Option Ln} {G : Int → Int} {B : Int} {L : Addr} {m : Str → Option Value} {H : List Addr} (W : LW prog w h₀ h' a room n F ls G B) (nL : ∀ b ∈ UW a ls, b ≠ L) (hH : ∀ b ∈ H, b ∉ UW a ls ∧ ∀ o, h'.get? b = some o → ¬ SeqO o) (hn : h'.Ns L m)
    (up : ∀ a o, h'.get? a = some o → a ≠ L → a ∉ H → g'.get? a = some o) : LW prog w h₀ g' a room n F ls G B := ⟨W.X.up nL hH hn up, W.I, W.z⟩
theorem LW.sub {prog : Program} {w : World} {h₀ h h' : Heap} {a : AD} {room : Int} {n : Nat} {F : Int → Int → Int} {ls : Int → Option Ln} {G : Int → Int} {B : Int} (W : LW prog w h₀ h a room n F ls G B) (k : Sub h h') : LW prog w h₀ h' a room n F ls G B := ⟨W.X.sub k, W.I, W.z⟩
theorem push_live {h : Heap} {o : Obj} : Sub h (h.push o) := fun _ _ e => Heap.get?_push_of_some _ e
theorem seq_up2 {h' g' : Heap} {L : Addr} {m : Str → Option Value} {H : List Addr} (hn : h'.Ns L m) (hH : ∀ b ∈ H, ∀ o, h'.get? b = some o → ¬ SeqO o) (up : ∀ a o, h'.get? a = some o → a ≠ L → a ∉ H → g'.get? a = some o) :
    ∀ b o, h'.get? b = some o → SeqO o → g'.get? b = some o := fun b o e q => by
  refine up b o e ?_ fun hb => hH b hb o e q
  rintro rfl
  obtain ⟨xs, n, hd⟩ := q
  obtain ⟨o', es, ep, e', hd', _⟩ := hn
  rw [e] at e'; cases e'
  rw [hd] at hd'; cases hd'
theorem iters_no {h₀ h : Heap} {L c c' : Addr} {o o' : Obj} {r : List (Addr × Obj)} (N : News h₀ L h ((c, o) :: (c', o') :: r)) (d1 : ¬ SeqO o) (d2 : ¬ SeqO o') : ∀ b ∈ [c, c'], ∀ p, h.get? b = some p → ¬ SeqO p := fun b hb p e => by
  simp only [List.mem_cons, List.not_mem_nil, or_false] at hb
  rcases hb with rfl | rfl
  · rw [(N _ (.head _)).1] at e; cases e; exact d1
  · rw [(N _ (.tail _ (.head _))).1] at e; cases e; exact d2
theorem cap_tick {F : Int → Int → Int} {f : Int → Int} {k B : Int} (_c : Cap f) (hk : In4 k) (hs : F 0 0 + F 1 1 + F 2 2 + F 3 3 ≤ B) (d : Dm F f) (hB : B ≤ 50) : Cap (tick f k) := by
  refine ⟨fun j => ?_, fun j hj => ?_, ?_⟩
  · have := (d j).1
    have := (d k).1
    unfold tick; split <;> omega
  · unfold tick
    rw [if_neg (fun e => hj (by rw [e]; exact hk))]
    exact (d j).2.2 hj
  · have a := (d 0).2.1 ⟨by decide, by decide⟩
    have b := (d 1).2.1 ⟨by decide, by decide⟩
    have c := (d 2).2.1 ⟨by decide, by decide⟩
    have e := (d 3).2.1 ⟨by decide, by decide⟩
    have h4 : k = 0 ∨ k = 1 ∨ k = 2 ∨ k = 3 := by unfold In4 at hk; omega
    unfold tick
    rcases h4 with rfl | rfl | rfl | rfl <;> simp <;> omega
end

section
open PySem PySem.W PyProof.Rows PySem.Calls
set_option maxRecDepth 100000
set_option Elab.async false
set_option maxHeartbeats 4000000
theorem kfill13 : PySem.Challenge.rw_on0015_01 = PySem.Challenge.rw_on0015_01 ∧ hd.heap_1 = hd.heap_1 := by
  k_fill
  exact ⟨rfl, rfl⟩
-- enter a plain def: its names and values
-- walk until a loop, a call or a step without a line
-- what lies on the anchor is apart from what it has not


theorem post_law (xs : List Int) : (PySem.Challenge.rw_on0015_01.row.claim).post [ofPy (PyData.list (xs.map PyData.int))] (.bool true) [ofPy (PyData.list (xs.map PyData.int))] = true := by
  refine postW_of ?_ (w_eq_bool (w_res rfl) w_lit) ?_
  · rfl
  · decide
theorem raises_law (xs : List Int) : ∀ cls, (PySem.Challenge.rw_on0015_01.row.claim).raises [ofPy (PyData.list (xs.map PyData.int))] cls = false := by
  refine raisesW_false ?_
  exact allW_false_nil
theorem room_caller : Room callerA 8 := ⟨rfl, by decide, by decide⟩
theorem dump_self {h : Heap} : ∀ p ∈ dump h h, False := fun ⟨b, o⟩ hp => by
  obtain ⟨e1, e2⟩ := mem_dump.mp hp
  rw [e1] at e2; cases e2
theorem news_self {h₀ h : Heap} {L : Addr} (_N : News h₀ L h []) : News h₀ L h (dump h₀ h₀) := fun p hp => (dump_self p hp).elim
theorem sub_self {h₀ h : Heap} {L : Addr} {m : Str → Option Value} (_F : Fr h₀ L h m) : Sub h₀ h₀ := fun _ _ e => e
theorem rebase {h₀ h : Heap} {L : Addr} {m : Str → Option Value} (F : Fr h₀ L h m) : ∃ g', News h₀ L h (dump h₀ g') ∧ Sub h₀ g' ∧ Sub g' h ∧ (∀ b o, h.get? b = some o → b ≠ L → g'.get? b = some o) := by
  refine ⟨hideAll h [L], fun p hp => ?_, fun b o e => hideAll_get _ (F.keep _ _ e) fun q => ?_, fun b o e => of_hideAll _ e, fun b o e n => hideAll_get _ e (by simpa using n)⟩
  · obtain ⟨a, o⟩ := p
    obtain ⟨e, e0⟩ := mem_dump.mp hp
    refine ⟨of_hideAll _ e, fun q => ?_, e0⟩
    have : (hideAll h [L]).get? L = none := hideAll_none _ (.head _)
    simp only at q
    rw [q, this] at e; cases e
  · rw [List.mem_singleton.mp q, fr_L F] at e; cases e

section
variable {prog : Program} {w : World} {A : Around} {s : Shared} {h₀ g : Heap} {L I : Addr} {env : Env} {target : Expr} {body : List Stmt} {fp : List Addr} {n : Nat} {P : Nat → Value → Prop} {St : Nat → Heap → Prop}
  {m : Str → Option Value} {cs : List (Addr × Obj)}

theorem for_genH {R : Result → Shared → Prop} {Q : Flow → Shared → Prop} (W : Walks prog w A I fp [I] n P St) (hIfp : I ∈ fp)
    (hgo : ∀ i v (s : Shared) (Q : Unit → Shared → Prop) (E : Value → Shared → Prop), St i s.heap → Q () s → wpAny (model prog w) A (letOwnedTupleGo target (.ref I) v) Q E s)
    (hob : ∀ i h, St i h → ∃ o, h.get? I = some o) (hLI : L ≠ I) (h0I : h₀.get? I = none) (hgI : g.get? I = none) (hcI : ∀ p ∈ cs, p.1 ≠ I)
    (hL : env.locals = L) (hst : St 0 s.heap) (F : Fr h₀ L s.heap m) (N : News h₀ L s.heap (cs ++ dump h₀ g)) (SG : Sub h₀ g)
    (J : Nat → (Str → Option Value) → List (Addr × Obj) → Heap → Prop) (hj : J 0 m cs g)
    (turn : ∀ i v m₁ cs₁ g₁ h tk oI, i < n → P i v → J i m₁ cs₁ g₁ → Fr h₀ L h m₁ → News h₀ L h ((I, oI) :: (cs₁ ++ dump h₀ g₁)) → Sub h₀ g₁ → g₁.get? I = none → (∀ p ∈ cs₁, p.1 ≠ I) → St (i + 1) h → ∀ Pt : Flow → Shared → Prop, (∀ f s₃, ForPost h₀ L I fp oI (J (i + 1)) s h Q f s₃ → Pt f s₃) →
      wpAny (model prog w) A (assign target env v) (fun _ s₂ => wpAny (model prog w) A (execs body env) Pt (fun _ _ => False) s₂) (fun _ _ => False) { s with heap := h, toks := tk })
    (done : ∀ m₁ cs₁ g₁ h tk, J n m₁ cs₁ g₁ → Fr h₀ L h m₁ → News h₀ L h (cs₁ ++ dump h₀ g₁) → Sub h₀ g₁ → (∃ o, h.get? I = some o) ∨ True → Q .next { s with heap := h, toks := tk })
    (hR : ∀ f s', Q f s' → R (.ok f) s') :
    codeAny (model prog w) A (.forLoop target (.ref I) body [] env) R s :=
  for_gen W hIfp hgo hob hLI h0I hgI hcI hL hst F N SG J hj (fun i v m₁ cs₁ g₁ h tk oI a b c d e f g k l => turn i v m₁ cs₁ g₁ h tk oI a b c d e f g k l _ fun _ _ x => x) done hR
end
local macro_rules | `(tactic| k_qdec) => `(tactic| decide +kernel)
theorem fin : PySem.Challenge.rw_on0015_01.Holds := hd (by w_strict (
  k_go0
  rename (hd.heap_1 _).In _ => KX
  rename Top _ _ _ _ _ _ => T
  rename Fr _ _ _ _ => F₁
  rename News _ _ _ _ => N0
  rename Heap.IsList _ _ _ => hL
  rename IntsAre _ _ => hI
  rename ¬ _ < _ => hlen
  have R' := fun env => Room.deeper room_caller env
  have hu : ∀ env, (callerA.deeper env).units + 64 < cLine := fun env => by have := (R' env).units; omega
  have S0 := sub_self F₁
  have N₁ := news_self N0
  clear N0
  refine wpAny_mono (E := fun _ _ => False) ?_ (fun _ _ x => x) (fun _ _ x => x.elim)
  refine hide_post fun Pa hPa => ?_
  walk_at "goG"
  refine step [] [] [] (fun v h' => v = .bool true) F₁ N₁ S0 (by simp) (by simp)
    (fun Q' q => lfixed_spec ((R' _).le (by omega)) KX T F₁.keep (fr_size F₁) fun h' tk kk => q _ _ _ (Keep.of_sub kk) rfl) ?_
  rintro v₂ h₂ tk₂ g₂ F₂ N₂ SG₂ SH₂ KG₂ KS₂ up₂ _ rfl
  clear F₁ N₁
  dsimp only [List.nil_append] at N₂
  walk_at "goG"
  refine step [] [] [] (fun v h' => ∃ Z, v = .ref Z ∧ (∃ a b, SrcOk h' Z a b ∧ 0 ≤ b ∧ b < 2147483647) ∧ h₂.get? Z = none) F₂ N₂ SG₂ (by simp) (by simp)
    (fun Q' q => lpool_spec ((R' _).le (by omega)) KX T F₂.keep (fr_size F₂) (hL.at (F₂.keep _)) hI (by omega) fun Z h' tk kk a b => q _ _ _ (Keep.of_sub kk) ⟨Z, rfl, a, b⟩) ?_
  rintro v₃ h₃ tk₃ g₃ F₃ N₃ SG₃ SH₃ KG₃ KS₃ up₃ _ ⟨Z, rfl, ⟨za, zb, hZ, hzb⟩, nZ⟩
  have zL : Z ≠ _ := fresh_ne F₂.ns nZ
  have hZ := hZ.tr fun o e => up₃ _ o e zL (by simp)
  have nZ₀ := sub_none F₂.keep nZ
  have hZ3 := hZ.live
  clear F₂ N₂
  dsimp only [List.nil_append] at N₃
  walk_at "goG"
  rename Fr _ _ _ _ => F₃
  rename News _ _ _ _ => N₃
  have SH₃ : Sub g₃ _ := sub_of F₃ N₃ (fun p hp => hp) SG₃
  refine step [] [] [] (fun v h' => ∃ x dx Dc Dl Dg, v = .ref x ∧ WS _ _ _ h' x dx Dc Dl Dg one (fun _ => none) (fun _ => 0) ∧ (∀ b ∈ fpW x dx Dc Dl Dg (fun _ => none), b ≠ _ ∧ g₃.get? b = none)) F₃ N₃ SG₃ (by simp) (by simp)
    (fun Q' q => watch_new ((R' _).le (by omega)) KX T F₃.keep (fr_size F₃) fun x dx Dc Dl Dg h' tk kk W fr => q _ _ _ (Keep.of_sub kk) ⟨x, dx, Dc, Dl, Dg, rfl, W, fun b hb => ⟨fresh_ne F₃.ns (fr b hb), sub_none SH₃ (fr b hb)⟩⟩) ?_
  rintro v₄ h₄ tk₄ g₄ F₄ N₄ SG₄ SH₄ KG₄ KS₄ up₄ _ ⟨x, dx, Dc, Dl, Dg, rfl, W₄, fr⟩
  have W₄ := W₄.up (fun b hb => (fr b hb).1) F₄.ns up₄
  have hZ := hZ.tr fun o e => KG₄.sub _ o e
  clear F₃ N₃
  dsimp only [List.nil_append] at N₄
  walk_at "goG"
  rename_i Kd _ _ lk1 kl _ Dp _ lk2 Lk _ lk3 _ oK hdK Md _ _ ml _ lm1 Lg _ lm2 _ oM hdM Dt _ lt1 _ _ _ hh5 F₅ N₅
  have NK := N₅ (Kd, oK) (.tail _ (.tail _ (.tail _ (.tail _ (.tail _ (.head _))))))
  have NM := N₅ (Md, oM) (.tail _ (.tail _ (.head _)))
  have NLk := N₅ _ (.tail _ (.tail _ (.tail _ (.head _))))
  have NDp := N₅ _ (.tail _ (.tail _ (.tail _ (.tail _ (.head _)))))
  have NLg := N₅ _ (.tail _ (.head _))
  have SH₄ : Sub g₄ hh5 := sub_of F₅ N₅ (fun p hp => .tail _ (.tail _ (.tail _ (.tail _ (.tail _ (.tail _ hp)))))) SG₄
  have N₆ := news_tail (news' := dump _ g₄) N₅ (fun p hp => .tail _ (.tail _ (.tail _ (.tail _ (.tail _ (.tail _ hp))))))
  have zK : ∀ {b o}, g₄.get? b = some o → Heap.get? _ b = none → @LT.lt Nat _ b Kd := fun e e0 => lk1 _ (mem_dump.mpr ⟨e, e0⟩)
  obtain ⟨oz, eoz⟩ := hZ.live
  have Zk := zK eoz nZ₀
  have nZK : ∀ {b : Addr}, @LE.le Nat _ Kd b → b ∉ [Z] := fun hb q => by
    have := List.mem_singleton.mp q
    subst this; exact absurd (Nat.lt_of_lt_of_le Zk hb) (Nat.lt_irrefl _)
  have l2 := lk2.1
  have l3 := lk3.1
  have l4 := lm1.1
  have l5 := lm2.1
  clear N₅
  refine step [] [Z] [] (fun v h' => ∃ r u, v = .int r u ∧ 0 ≤ r ∧ r < 2 ∧ ∃ u v, SrcOk h' Z u v ∧ 0 ≤ v ∧ v < 2147483647) F₅ N₆ SG₄ (by simpa using ⟨zL, nZ₀⟩) (by simp)
    (fun Q' q => take_spec ((R' _).le (by omega)) KX T F₅.keep (fr_size F₅) nZ₀ (hZ.tr (SH₄ _)) hzb ⟨by decide, by decide⟩ fun r u a' b' h' tk kk s1 s2 s3 s4 => q _ _ _ kk ⟨r, u, rfl, s3, s4, a', b', s1, s2⟩) ?_
  rintro v₅ h₅ tk₅ g₅ F₆ N₇ SG₅ SH₅ KG₅ KS₅ up₅ _ ⟨r, ru, rfl, r0, r1, zS⟩
  have mv : ∀ {b : Addr} {o : Obj}, hh5.get? b = some o → @LE.le Nat _ Kd b → b ≠ _ → g₅.get? b = some o := fun e hb nl => up₅ _ _ (KS₅.at (nZK hb) e) nl (by simp)
  have EK := mv NK.1 (Nat.le_refl _) NK.2.1
  have EM := mv NM.1 (by omega) NM.2.1
  have ELk := mv NLk.1 (by omega) NLk.2.1
  have EDp := mv NDp.1 (by omega) NDp.2.1
  have ELg := mv NLg.1 (by omega) NLg.2.1
  have zS := let ⟨u, v, x, y⟩ := zS; show ∃ u v, SrcOk g₅ Z u v ∧ 0 ≤ v ∧ v < 2147483647 from ⟨u, v, x.tr fun o e => up₅ _ o e zL (by simp), y⟩
  clear F₅ N₆
  dsimp only [List.nil_append] at N₇
  walk_at "goG"
  rename_i S7 _ lS R7 _ lR Ls _ lL hh6 F₇ N₈
  have NL := N₈ _ (.head _)
  have NR := N₈ _ (.tail _ (.head _))
  have NS := N₈ _ (.tail _ (.tail _ (.head _)))
  have c5 : Sub g₅ hh6 := sub_of F₇ N₈ (fun p hp => .tail _ (.tail _ (.tail _ hp))) SG₅
  have d5 := dump_L F₇ N₈ (fun p hp => .tail _ (.tail _ (.tail _ hp)))
  clear N₈
  obtain ⟨g₆, N₈, SG₆, SH₆, up₆⟩ := rebase F₇
  have c6 : Sub g₅ g₆ := fun b o e => up₆ _ _ (c5 _ _ e) fun q => by rw [q, d5] at e; cases e
  have fz : ∀ b ∈ fpW x dx Dc Dl Dg (fun _ => none), b ≠ Z := fun b hb q => by
    have := (fr b hb).2
    rw [q] at this
    obtain ⟨oz', eoz'⟩ := hZ3
    rw [this] at eoz'; cases eoz'
  have W₅ := W₄.tr (fun b hb o e => KG₅.at (by simpa using fz b hb) e) (TK.of_keep KG₅)
  have W₆ := W₅.sub c6
  have lw := fun b (hb : b ∈ fpW x dx Dc Dl Dg (fun _ => none)) => let ⟨_, e⟩ := W₄.live b hb; zK e (W₄.own b hb)
  have lgS : @LT.lt Nat _ Lg S7 := lS _ (mem_dump.mpr ⟨ELg, NLg.2.2⟩)
  have LW₀ := lw_start W₆ (let ⟨u, v, a, b⟩ := zS; ⟨u, v, a.tr fun o e => c6 _ _ e, b⟩) nZ₀ fz lw Zk l2 l3 l4 l5 lgS lR.1 lL.1 NK.2.2 NM.2.2 NS.2.2 NR.2.2 (c6 _ _ EK) hdK kl (c6 _ _ EDp) ⟨0, c6 _ _ ELk⟩ (c6 _ _ EM) hdM ml ⟨0, c6 _ _ ELg⟩ ⟨0, up₆ _ _ NS.1 NS.2.1⟩ ⟨0, up₆ _ _ NR.1 NR.2.1⟩ ⟨_, up₆ _ _ NL.1 NL.2.1, rfl, 0, rfl⟩ r0 r1
  have X₀ := LW₀.X
  refine wpAny_For (wpAny_mono (E := NoE) ?_ (fun _ _ x => x) (fun _ _ x => x.elim))
  walk_at "goG"
  obtain ⟨sa, sb, hsrc, hsb⟩ := X₀.src
  refine step [] [Z] [] (fun v h' => ∃ r u, v = .int r u ∧ 0 ≤ r ∧ r < 11 ∧ ∃ u v, SrcOk h' Z u v ∧ 0 ≤ v ∧ v < 2147483647) F₇ N₈ SG₆ (by simpa using ⟨zL, nZ₀⟩) (by simp)
    (fun Q' q => take_spec ((R' _).le (by omega)) KX T F₇.keep (fr_size F₇) nZ₀ (hsrc.tr (SH₆ _)) hsb ⟨by decide, by decide⟩ fun r u a' b' h' tk kk s1 s2 s3 s4 => q _ _ _ kk ⟨r, u, rfl, s3, s4, a', b', s1, s2⟩) ?_
  rintro v₇ h₇ tk₇ g₇ F₈ N₉ SG₇ SH₇ KG₇ KS₇ up₇ _ ⟨rt, rtu, rfl, rt0, rt1, zT⟩
  have X₁ := X₀.source KG₇ (let ⟨u, v, x, y⟩ := zT; ⟨u, v, x.tr fun o e => up₇ _ o e zL (by simp), y⟩)
  have LW₁ : LW _ _ _ g₇ _ _ _ _ _ _ _ := ⟨X₁, LW₀.I, LW₀.z⟩
  clear F₇ N₈
  dsimp only [List.nil_append] at N₉
  walk_at "goG"
  refine call_range_1 ?_
  walk_at "goG"
  obtain ⟨nt, hnt⟩ : ∃ nt : Nat, 6 + rt = (nt : Int) := ⟨(6 + rt).toNat, by omega⟩
  rw [hnt]
  refine wpAny_pyIter_range (IsRange.new _ _ _ _ _ _ _) (range_small nt (by omega)) ?_
  rw [range_size]
  dsimp only
  have h7L := F₈.ns.lt
  have sz1 : ∀ (o : Obj), (h₇.push o).objs.size = h₇.objs.size + 1 := fun o => Heap.size_push ..
  have nI7 : ∀ (o : Obj), h₇.get? (h₇.push o).objs.size = none := fun o => none_of_size (by rw [sz1]; exact Nat.le_succ _)
  have SS7 : Sub g₇ h₇ := SH₇
  have hLI' := fun (o : Obj) => Nat.ne_of_lt (Nat.lt_of_lt_of_le h7L (show h₇.objs.size ≤ (h₇.push o).objs.size by rw [sz1]; exact Nat.le_succ _))
  refine for_genH (g := g₇) (cs := []) (range_walks' (R' _).hand nt) (by simp) (fun i v s' Q' E' st hq => wpAny_pure hq) (fun i h st => ⟨_, st⟩) (hLI' _) (sub_none F₈.keep (nI7 _)) (sub_none SS7 (nI7 _)) (by simp) rfl
    (by show Heap.get? _ _ = _; rw [Heap.get?_push_size _ rfl]; simp [rawInt]) (fr_sub (fr_sub F₈ push_live) push_live) (news_sub (news_sub N₉ push_live) push_live) SG₇
    (fun i m' cs' g' => cs' = [] ∧ (∃ r ov ot, m' = lawM Ls x Kd Md Z r ov ot) ∧ ∃ n F ls G, LW _ _ _ g' ⟨x, dx, Dc, Dl, Dg, Z, Kd, Md, Ls, S7, R7⟩ (1 + r) n F ls G (4 + 2 * (i : Int)))
    ⟨rfl, ⟨_, _, _, lawM_nf (by rfl) (by rfl) (by rfl) (by rfl) (by rfl)⟩, _, _, _, _, by simpa using LW₁⟩ ?turn ?done (fun f s' q => q)
  case turn =>
    rintro i v m₁ cs₁ g₁ h tk oI hi ⟨tv, rfl⟩ ⟨rfl, ⟨rr, ov, ot, rfl⟩, n, F, ls, G, W⟩ Fa Na SGa hgI hcI hst Pt hPt
    dsimp only [List.nil_append] at Na
    have hoI : ¬ SeqO oI := by
      have e1 := (Na _ (.head _)).1
      have e2 : h.get? _ = some _ := hst
      rw [e2] at e1; cases e1
      rintro ⟨xs, n, hd⟩; cases hd
    walk_at "goG"
    rename Fr _ _ _ _ => Fb
    rename News _ _ _ _ => Nb
    have SHb : Sub g₁ _ := sub_of Fb Nb (fun p hp => .tail _ hp) SGa
    have off₁ := W.X.off
    have nL₁ : ∀ b ∈ UW ⟨x, dx, Dc, Dl, Dg, Z, Kd, Md, Ls, S7, R7⟩ ls, b ≠ _ := fun b hb => let ⟨_, e⟩ := W.X.live b hb; (Nb _ (.tail _ (mem_dump.mpr ⟨e, off₁ b hb⟩))).2.1
    have nI₁ : ∀ b ∈ UW ⟨x, dx, Dc, Dl, Dg, Z, Kd, Md, Ls, S7, R7⟩ ls, b ≠ _ := fun b hb => let ⟨_, e⟩ := W.X.live b hb; (live_ne e hgI).symm
    refine step [_] (UW ⟨x, dx, Dc, Dl, Dg, Z, Kd, Md, Ls, S7, R7⟩ ls) [_] (fun v h' => ∃ n' F' ls' G', v = .none ∧ LW _ _ _ h' ⟨x, dx, Dc, Dl, Dg, Z, Kd, Md, Ls, S7, R7⟩ (1 + r) n' F' ls' G' (4 + 2 * (i : Int) + 2) ∧ (∀ b ∈ UW ⟨x, dx, Dc, Dl, Dg, Z, Kd, Md, Ls, S7, R7⟩ ls', b ∈ UW ⟨x, dx, Dc, Dl, Dg, Z, Kd, Md, Ls, S7, R7⟩ ls ∨ (b ≠ _ ∧ b ≠ _))) Fb Nb SGa
      (fun b hb => ⟨nL₁ b hb, off₁ b hb, fun p hp => by rw [List.mem_singleton.mp hp]; exact (nI₁ b hb).symm⟩) (fun b hb => by rw [List.mem_singleton.mp hb]; exact ⟨(Nb _ (.head _)).2.2, hgI⟩)
      (fun Q' q => ldeed_spec (R' _) KX T Fb.keep (fr_size Fb) (W.sub SHb) (by omega) fun n' F' ls' G' h' tk kk W' e => q _ _ _ kk ⟨n', F', ls', G', rfl, W', fun b hb => (e b hb).imp id fun q => ⟨fresh_ne Fb.ns q, live_ne (Nb _ (.head _)).1 q⟩⟩) ?_
    rintro v₂ h₂ tk₂ g₂ F₂ N₂ SG₂ SH₂ KG₂ KS₂ up₂ nH₂ ⟨n', F', ls', G', rfl, W₂, e₂⟩
    have nL₂ : ∀ b ∈ UW ⟨x, dx, Dc, Dl, Dg, Z, Kd, Md, Ls, S7, R7⟩ ls', b ≠ _ := fun b hb => (e₂ b hb).elim (nL₁ b) fun q => q.1
    have nI₂ : ∀ b ∈ UW ⟨x, dx, Dc, Dl, Dg, Z, Kd, Md, Ls, S7, R7⟩ ls', b ≠ _ := fun b hb => (e₂ b hb).elim (nI₁ b) fun q => q.2
    have W₂ := W₂.up nL₂ (fun b hb => by rw [List.mem_singleton.mp hb]; exact ⟨fun q => nI₂ _ q rfl, fun o e => by rw [(N₂ _ (.head _)).1] at e; cases e; exact hoI⟩) F₂.ns up₂
    have hgI₂ := nH₂ _ (.head _)
    clear Fb Nb
    dsimp only [List.cons_append, List.nil_append] at N₂
    walk_at "goG"
    refine wpAny_For (wpAny_mono (E := NoE) ?_ (fun _ _ x => x) (fun _ _ x => x.elim))
    walk_at "goG"
    obtain ⟨kvs, hD, hkeys, hall⟩ := id W₂.X.kn
    obtain ⟨ep, hat⟩ := dictAt_of hD
    rename Fr _ _ _ _ => Fc
    rename News _ _ _ _ => Nc
    have SHc : Sub g₂ _ := sub_of Fc Nc (fun p hp => .tail _ hp) SG₂
    refine wpAny_pyIter_dict W₂.X.kl (hat.at' (SHc _)) ?_
    dsimp only
    have B50 : 4 + 2 * (i : Int) + 2 ≤ 60 := by omega
    refine for_genH (g := g₂) (cs := [(_, oI)]) (Walks.dictKeys (R' _).hand _ Kd (Nat.ne_of_lt (let ⟨_, _, e, _⟩ := hat.at' (SHc _); Heap.lt_size e)) kvs ep) (by simp) (fun i v s' Q' E' st hq => wpAny_pure hq) (fun i h st => let ⟨⟨o, e, _⟩, _⟩ := st; ⟨o, e⟩) (Nat.ne_of_lt Fc.ns.lt)
      (sub_none Fc.keep (none_of_size (Nat.le_refl _))) (sub_none SHc (none_of_size (Nat.le_refl _))) (fun p hp => by rw [List.mem_singleton.mp hp]; exact Nat.ne_of_lt (Heap.lt_size (Nc _ (.head _)).1)) rfl
      ⟨⟨_, Heap.get?_push_size _ rfl, rfl, rfl⟩, hat.at' fun o e => push_live _ _ (SHc _ _ e)⟩ (fr_sub Fc push_live) (news_sub Nc push_live) SG₂
      (fun _ m' cs' g' => cs' = [(_, oI)] ∧ (∃ r ov ot, m' = lawM Ls x Kd Md Z r ov ot) ∧ LW _ _ _ g' ⟨x, dx, Dc, Dl, Dg, Z, Kd, Md, Ls, S7, R7⟩ (1 + r) n' F' ls' G' (4 + 2 * (i : Int) + 2) ∧ Heap.get? g' _ = none)
      ⟨rfl, ⟨_, _, _, lawM_nf (by rfl) (by rfl) (by rfl) (by rfl) (by rfl)⟩, W₂, hgI₂⟩ ?turn2 ?done2 (fun f s' q => q)
    case turn2 =>
      rintro i₂ v m₁ cs₁ g₃ h₃ tk₃ oJ hi₂ ⟨k, xk, hk, hkv⟩ ⟨rfl, ⟨r3, ov3, ot3, rfl⟩, W₃, hgI₃⟩ Fd Nd SGd hgJ hcJ hst₃ Pu hPu
      obtain ⟨tv, rfl⟩ := Value.isInt_shape hkv
      obtain ⟨k0, k1⟩ : 0 ≤ k ∧ k < n' := by
        have : k ∈ (List.range n').map Int.ofNat := hkeys ▸ List.mem_map.mpr ⟨(k, xk), List.mem_of_getElem? hk, rfl⟩
        obtain ⟨j, hj, e⟩ := List.mem_map.mp this
        have := List.mem_range.mp hj
        rw [← e]; show (0 : Int) ≤ (j : Int) ∧ (j : Int) < n'; omega
      have i4 := W₃.I.in4 k0 k1
      have cF := W₃.I.capF i4 B50
      have hoJ : ¬ SeqO oJ := by
        obtain ⟨⟨o, e2, _, hd2⟩, _⟩ := hst₃
        have e1 := (Nd _ (.head _)).1
        rw [e2] at e1; cases e1
        rintro ⟨xs, n, hd⟩
        rw [hd] at hd2; cases hd2
      dsimp only [List.cons_append, List.nil_append] at Nd
      have SHd : Sub g₃ h₃ := sub_of Fd Nd (fun p hp => .tail _ (.tail _ hp)) SGd
      obtain ⟨e1, e2, e3, e4, e5, t1, t2, t3, t4, t5, Dp', Rl, nn, Nee⟩ := wi_news2 (cs := [_, _]) Nd W₃.X.ws.cs.wi
      clear Nd
      walk_at "goG"
      rename Fr _ _ _ _ => Fe
      rename News _ _ _ _ => Nf
      have Ng := news_tail (news' := [_, _] ++ dump _ g₃) Nf (fun p hp => .tail _ (.tail _ hp))
      clear Nf
      try clear Nee
      have SHe : Sub g₃ _ := sub_of Fe Ng (fun p hp => .tail _ (.tail _ hp)) SGd
      have off₃ := W₃.X.off
      have nL₃ : ∀ b ∈ UW ⟨x, dx, Dc, Dl, Dg, Z, Kd, Md, Ls, S7, R7⟩ ls', b ≠ _ := fun b hb => let ⟨_, e⟩ := W₃.X.live b hb; (Ng _ (.tail _ (.tail _ (mem_dump.mpr ⟨e, off₃ b hb⟩)))).2.1
      have nJ₃ : ∀ b ∈ UW ⟨x, dx, Dc, Dl, Dg, Z, Kd, Md, Ls, S7, R7⟩ ls', b ≠ _ := fun b hb => let ⟨_, e⟩ := W₃.X.live b hb; (live_ne e hgJ).symm
      have nI₃ : ∀ b ∈ UW ⟨x, dx, Dc, Dl, Dg, Z, Kd, Md, Ls, S7, R7⟩ ls', b ≠ _ := fun b hb => let ⟨_, e⟩ := W₃.X.live b hb; (live_ne e hgI₃).symm
      have dcW : Dc ∈ fpW x dx Dc Dl Dg ls' := by simp [fpW]
      have dcU : Dc ∈ UW ⟨x, dx, Dc, Dl, Dg, Z, Kd, Md, Ls, S7, R7⟩ ls' := List.mem_append.mpr (.inr dcW)
      refine step [_, _] [Dc] [_, _] (fun v h' => CS _ _ _ h' x dx Dc Dl Dg F' ∧ ClkAt h' v (F' k)) Fe Ng SGd
        (fun b hb => by
          rw [List.mem_singleton.mp hb]
          refine ⟨nL₃ _ dcU, off₃ _ dcU, fun p hp => ?_⟩
          rcases List.mem_cons.mp hp with rfl | hp
          · exact (nJ₃ _ dcU).symm
          · rw [List.mem_singleton.mp hp]; exact (nI₃ _ dcU).symm)
        (fun b hb => by
          rcases List.mem_cons.mp hb with rfl | hb
          · exact ⟨(Ng _ (.head _)).2.2, hgJ⟩
          · rw [List.mem_singleton.mp hb]; exact ⟨(Ng _ (.tail _ (.head _))).2.2, hgI₃⟩)
        (fun Q' q => clock_spec ((R' _).le (by omega)) KX T Fe.keep (fr_size Fe) (W₃.X.ws.cs.sub SHe) i4 fun v h' tk kk C x => q _ _ _ kk ⟨C, x⟩) ?_
      rintro vA hA tkA gA FA NA SGA SHA KGA KSA upA nHA ⟨CA, xA⟩
      have kSA := seq_up2 FA.ns (iters_no NA hoJ hoI) upA
      have CA := CA.tr (fun b hb o e => upA b o e (nL₃ b (List.mem_append.mpr (.inr (by unfold AD.fp fpW; rcases hb with rfl | rfl | rfl <;> simp)))) (by
        have hbU : b ∈ UW ⟨x, dx, Dc, Dl, Dg, Z, Kd, Md, Ls, S7, R7⟩ ls' := List.mem_append.mpr (.inr (by unfold AD.fp fpW; rcases hb with rfl | rfl | rfl <;> simp))
        simp only [List.mem_cons, List.not_mem_nil, or_false, not_or]
        exact ⟨nJ₃ b hbU, nI₃ b hbU⟩)) (seq_tk kSA)
      have xA := xA.tk (seq_tk kSA)
      have WA : LW _ _ _ gA ⟨x, dx, Dc, Dl, Dg, Z, Kd, Md, Ls, S7, R7⟩ (1 + r) n' F' ls' G' (4 + 2 * (i : Int) + 2) := ⟨W₃.X.watch (S := [Dc]) (fun b hb => by rw [List.mem_singleton.mp hb]; exact dcW) KGA (WS.clocks W₃.X.ws KGA CA) (fun b hb => .inl hb), W₃.I, W₃.z⟩
      have hgJA := nHA _ (.head _)
      have hgIA := nHA _ (.tail _ (.head _))
      clear Fe Ng
      dsimp only [List.cons_append, List.nil_append] at NA
      walk_at "goG"
      refine step [_, _] [] [_, _] (fun v h' => ∃ D xs, v = .ref D ∧ PL h' D xs ∧ SpanRel xs (F' k) ∧ xs.Pairwise (fun p q => plt p q = true)) FA NA SGA (by simp)
        (fun b hb => by
          rcases List.mem_cons.mp hb with rfl | hb
          · exact ⟨(NA _ (.head _)).2.2, hgJA⟩
          · rw [List.mem_singleton.mp hb]; exact ⟨(NA _ (.tail _ (.head _))).2.2, hgIA⟩)
        (fun Q' q => lspans_spec ((R' _).le (by omega)) KX T FA.keep (fr_size FA) (xA.tk (TK.of_sub SHA)) cF fun D h' tk xs kk a b c => q _ _ _ (Keep.of_sub kk) ⟨D, xs, rfl, a, b, c⟩) ?_
      rintro vB hB tkB gB FB NB SGB SHB KGB KSB upB nHB ⟨D1, xs1, rfl, P1, R1, O1⟩
      have P1 := P1.trs (seq_up2 FB.ns (iters_no NB hoJ hoI) upB)
      have KGB := KGB.sub
      have WB := WA.sub KGB
      have hgJB := nHB _ (.head _)
      have hgIB := nHB _ (.tail _ (.head _))
      clear FA NA
      dsimp only [List.cons_append, List.nil_append] at NB
      obtain ⟨kvB, hDB, hkB, haB⟩ := id WB.X.kn
      obtain ⟨aB, hvB, _, spB, hlB, hrB⟩ := haB k k0 k1
      have lenB := rel_len hrB cF
      walk_at "goG"
      refine dict_item (dict_sub hDB (SHB _)) hvB ?_
      walk_at "goG"
      refine sorted_listP (hlB.sub SHB).lst hrB.1 (by omega) fun hC D2 xs2 P2 _ kC perm2 O2 => ?_
      have FC := fr_sub FB kC
      have NC := news_sub NB kC
      have SHC : Sub gB hC := fun b o e => kC _ _ (SHB b o e)
      clear FB NB
      walk_at "goG"
      refine lists_ne (P1.sub SHC).lst P2.lst (hu _) ?_
      rw [decide_eq_true (rel_eq R1 (rel_perm hrB perm2) O1 O2)]
      simp only [Bool.not_true]
      walk_at "goG"
      refine hPu _ _ ⟨_, _, _, _, _, rfl, FC, NC, SGB, hgJB, fun p hp => ?_, fun b hb hne o e => ?_, rfl, ⟨_, _, _, lawM_nf (by rfl) (by rfl) (by rfl) (by rfl) (by rfl)⟩, WB, hgIB⟩
      · exact hcJ p hp
      · rcases List.mem_cons.mp hb with hb | hb
        · exact absurd hb hne
        · have hb := List.mem_singleton.mp hb
          subst hb
          obtain ⟨o', e'⟩ := W₃.X.kn.live
          have e2 := SHd _ _ e'
          rw [e] at e2; cases e2
          exact SHC _ _ (KGB _ _ (KGA.at (fun q => W₃.X.ap b (by simp [own5]) (by rw [List.mem_singleton.mp q]; exact dcW)) e'))
    case done2 =>
      rintro m₁ cs₁ g₃ h₃ tk₃ ⟨rfl, ⟨r3, ov3, ot3, rfl⟩, W₃, hgI₃⟩ Fd Nd SGd _
      walk_at "goG"
      refine hPt _ _ ⟨_, _, _, _, _, rfl, Fd, Nd, SGd, hgI₃, by simp, fun b hb hne => absurd (List.mem_singleton.mp hb) hne, rfl, ⟨_, _, _, rfl⟩, n', F', ls', G', ?_⟩
      rw [show (4 + 2 * ((i + 1 : Nat) : Int)) = 4 + 2 * (i : Int) + 2 from by push_cast; omega]
      exact W₃
  case done =>
    rintro m₁ cs₁ g₁ h tk ⟨rfl, ⟨rr, ov, ot, rfl⟩, n, F, ls, G, W⟩ Fa Na SGa _
    dsimp only [List.nil_append] at Na
    have Wa := W
    have SGa := SGa
    have I := W.I
    have B50 : 4 + 2 * (nt : Int) ≤ 60 := by omega
    have n1 := I.n1
    have n4 := I.n4
    walk_at "goG"
    rename Fr _ _ _ _ => Fa
    rename News _ _ _ _ => Na
    have SHa : Sub g₁ _ := sub_of Fa Na (fun p hp => hp) SGa
    obtain ⟨kva, hDa, hka, _⟩ := id Wa.X.kn
    have hkl : kva.length = n := by have := congrArg List.length hka; simpa using this
    refine call_len_dict (knd := intKind _ _) W.X.kl (dict_sub hDa (SHa _)) (by omega) ?_
    rw [hkl]
    walk_at "goG"
    obtain ⟨saa, sba, hsrca, hsba⟩ := Wa.X.src
    refine step [] [Z] [] (fun v h' => ∃ r u, v = .int r u ∧ 0 ≤ r ∧ r < n ∧ ∃ u v, SrcOk h' Z u v ∧ 0 ≤ v ∧ v < 2147483647) Fa Na SGa (by simpa using ⟨zL, nZ₀⟩) (by simp)
      (fun Q' q => take_spec ((R' _).le (by omega)) KX T Fa.keep (fr_size Fa) nZ₀ (hsrca.tr (SHa _)) hsba ⟨by omega, by omega⟩ fun r u a' b' h' tk kk s1 s2 s3 s4 => q _ _ _ kk ⟨r, u, rfl, s3, s4, a', b', s1, s2⟩) ?_
    rintro vb hb tkb gb Fb Nb SGb SHb KGb KSb upb _ ⟨p1, rub, rfl, p10, p11, zb⟩
    have Wb : LW _ _ _ gb ⟨x, dx, Dc, Dl, Dg, Z, Kd, Md, Ls, S7, R7⟩ _ n F ls G _ := ⟨Wa.X.source KGb (let ⟨u, v, x, y⟩ := zb; ⟨u, v, x.tr fun o e => upb _ o e zL (by simp), y⟩), W.I, W.z⟩
    clear Fa Na
    dsimp only [List.nil_append] at Nb
    obtain ⟨kvb, hDb, hkb, _⟩ := id Wb.X.kn
    have hkl : kvb.length = n := by have := congrArg List.length hkb; simpa using this
    walk_at "goG"
    refine call_len_dict (knd := intKind _ _) W.X.kl (dict_sub hDb (SHb _)) (by omega) ?_
    rw [hkl]
    walk_at "goG"
    obtain ⟨sab, sbb, hsrcb, hsbb⟩ := Wb.X.src
    refine step [] [Z] [] (fun v h' => ∃ r u, v = .int r u ∧ 0 ≤ r ∧ r < n ∧ ∃ u v, SrcOk h' Z u v ∧ 0 ≤ v ∧ v < 2147483647) Fb Nb SGb (by simpa using ⟨zL, nZ₀⟩) (by simp)
      (fun Q' q => take_spec ((R' _).le (by omega)) KX T Fb.keep (fr_size Fb) nZ₀ (hsrcb.tr (SHb _)) hsbb ⟨by omega, by omega⟩ fun r u a' b' h' tk kk s1 s2 s3 s4 => q _ _ _ kk ⟨r, u, rfl, s3, s4, a', b', s1, s2⟩) ?_
    rintro vc hc tkc gc Fc Nc SGc SHc KGc KSc upc _ ⟨p2, ruc, rfl, p20, p21, zc⟩
    have Wc : LW _ _ _ gc ⟨x, dx, Dc, Dl, Dg, Z, Kd, Md, Ls, S7, R7⟩ _ n F ls G _ := ⟨Wb.X.source KGc (let ⟨u, v, x, y⟩ := zc; ⟨u, v, x.tr fun o e => upc _ o e zL (by simp), y⟩), W.I, W.z⟩
    clear Fb Nb
    dsimp only [List.nil_append] at Nc
    obtain ⟨e1, e2, e3, e4, e5, t1, t2, t3, t4, t5, Dp', Rl, nn, Nx⟩ := wi_news2 (cs := []) Nc Wc.X.ws.cs.wi
    clear Nc
    walk_at "goG"
    rename Fr _ _ _ _ => Fc
    rename News _ _ _ _ => Nx
    have Nc := news_tail (news' := dump _ gc) Nx (fun p hp => by first | exact .tail _ (.tail _ hp) | exact .tail _ (.tail _ (.tail _ hp)))
    clear Nx
    have SHc : Sub gc _ := sub_of Fc Nc (fun p hp => hp) SGc
    have offd := Wc.X.off
    have nLd : ∀ b ∈ UW ⟨x, dx, Dc, Dl, Dg, Z, Kd, Md, Ls, S7, R7⟩ ls, b ≠ _ := fun b hb => let ⟨_, e⟩ := Wc.X.live b hb; (Nc _ (mem_dump.mpr ⟨e, offd b hb⟩)).2.1
    have dcW : Dc ∈ fpW x dx Dc Dl Dg ls := by simp [fpW]
    have dcU : Dc ∈ UW ⟨x, dx, Dc, Dl, Dg, Z, Kd, Md, Ls, S7, R7⟩ ls := List.mem_append.mpr (.inr dcW)
    refine step [] [Dc] [] (fun v h' => CS _ _ _ h' x dx Dc Dl Dg F ∧ ClkAt h' v (F p1)) Fc Nc SGc (by simpa using ⟨nLd _ dcU, offd _ dcU⟩) (by simp)
      (fun Q' q => clock_spec ((R' _).le (by omega)) KX T Fc.keep (fr_size Fc) (Wc.X.ws.cs.sub SHc) (I.in4 p10 p11) fun v h' tk kk C x => q _ _ _ kk ⟨C, x⟩) ?_
    rintro vd hd tkd gd Fd Nd SGd SHd KGd KSd upd _ ⟨Cd, x1⟩
    have Cd := Cd.up (fun b hb => nLd b (List.mem_append.mpr (.inr (by unfold AD.fp fpW; rcases hb with rfl | rfl | rfl <;> simp)))) Fd.ns upd
    have x1 := x1.tk (tk_up Fd.ns (by simp) upd)
    have Wd : LW _ _ _ gd ⟨x, dx, Dc, Dl, Dg, Z, Kd, Md, Ls, S7, R7⟩ _ n F ls G _ := ⟨Wc.X.watch (S := [Dc]) (fun b hb => by rw [List.mem_singleton.mp hb]; exact dcW) KGd (WS.clocks Wc.X.ws KGd Cd) (fun b hb => .inl hb), W.I, W.z⟩
    clear Fc Nc
    dsimp only [List.nil_append] at Nd
    obtain ⟨e1, e2, e3, e4, e5, t1, t2, t3, t4, t5, Dp', Rl, nn, Nx⟩ := wi_news2 (cs := []) Nd Wd.X.ws.cs.wi
    clear Nd
    walk_at "goG"
    rename Fr _ _ _ _ => Fd
    rename News _ _ _ _ => Nx
    have Nd := news_tail (news' := dump _ gd) Nx (fun p hp => by first | exact .tail _ (.tail _ hp) | exact .tail _ (.tail _ (.tail _ hp)))
    clear Nx
    have SHd : Sub gd _ := sub_of Fd Nd (fun p hp => hp) SGd
    refine step [] [Dc] [] (fun v h' => CS _ _ _ h' x dx Dc Dl Dg F ∧ ClkAt h' v (F p2)) Fd Nd SGd (by simpa using ⟨nLd _ dcU, offd _ dcU⟩) (by simp)
      (fun Q' q => clock_spec ((R' _).le (by omega)) KX T Fd.keep (fr_size Fd) (Wd.X.ws.cs.sub SHd) (I.in4 p20 p21) fun v h' tk kk C x => q _ _ _ kk ⟨C, x⟩) ?_
    rintro ve he tke ge Fe Ne1 SGe SHe KGe KSe upe _ ⟨Ce, x2⟩
    have Ce := Ce.up (fun b hb => nLd b (List.mem_append.mpr (.inr (by unfold AD.fp fpW; rcases hb with rfl | rfl | rfl <;> simp)))) Fe.ns upe
    have x2 := x2.tk (tk_up Fe.ns (by simp) upe)
    have We : LW _ _ _ ge ⟨x, dx, Dc, Dl, Dg, Z, Kd, Md, Ls, S7, R7⟩ _ n F ls G _ := ⟨Wd.X.watch (S := [Dc]) (fun b hb => by rw [List.mem_singleton.mp hb]; exact dcW) KGe (WS.clocks Wd.X.ws KGe Ce) (fun b hb => .inl hb), W.I, W.z⟩
    clear Fd Nd
    dsimp only [List.nil_append] at Ne1
    have x1 := x1.tk (TK.of_keep KGe)
    walk_at "goG"
    obtain ⟨sae, sbe, hsrce, hsbe⟩ := We.X.src
    refine step [] [Z] [] (fun v h' => ∃ r u, v = .int r u ∧ 0 ≤ r ∧ r < 4 ∧ ∃ u v, SrcOk h' Z u v ∧ 0 ≤ v ∧ v < 2147483647) Fe Ne1 SGe (by simpa using ⟨zL, nZ₀⟩) (by simp)
      (fun Q' q => take_spec ((R' _).le (by omega)) KX T Fe.keep (fr_size Fe) nZ₀ (hsrce.tr (SHe _)) hsbe ⟨by omega, by omega⟩ fun r u a' b' h' tk kk s1 s2 s3 s4 => q _ _ _ kk ⟨r, u, rfl, s3, s4, a', b', s1, s2⟩) ?_
    rintro vf hf tkf gf Ff Nf SGf SHf KGf KSf upf _ ⟨p3, ruf, rfl, p30, p31, zf⟩
    have Wf : LW _ _ _ gf ⟨x, dx, Dc, Dl, Dg, Z, Kd, Md, Ls, S7, R7⟩ _ n F ls G _ := ⟨We.X.source KGf (let ⟨u, v, x, y⟩ := zf; ⟨u, v, x.tr fun o e => upf _ o e zL (by simp), y⟩), W.I, W.z⟩
    clear Fe Ne1
    dsimp only [List.nil_append] at Nf
    have x1 := x1.tk (TK.of_keep KGf)
    have x2 := x2.tk (TK.of_keep KGf)
    have c1 := I.capF (I.in4 p10 p11) B50
    have c2 := I.capF (I.in4 p20 p21) B50
    have cj : Cap (join (F p1) (F p2)) := ((I.dm _ (I.in4 p10 p11)).join' (I.dm _ (I.in4 p20 p21))).cap I B50
    have ct : Cap (tick (F p1) p3) := cap_tick c1 ⟨p30, p31⟩ I.sum (I.dm _ (I.in4 p10 p11)) (by omega)
    walk_at "goG"
    refine lright_spec ((R' _).le (by omega)) KX T Ff.keep (fr_size Ff) (x1.tk (TK.of_sub SHf)) (x2.tk (TK.of_sub SHf)) c1 c2 cj ct ⟨p30, p31⟩ fun h' tk' kk' => ?_
    have Fz := fr_sub Ff kk'
    have Nz := news_sub Nf kk'
    clear Ff Nf
    walk_at "goG"
    subst hPa
    walk_at "goG"
    exact goodW_bool Fz (by with_reducible assumption) (raises_law _) (post_law _)))
end

end Mine
end

set_option maxRecDepth 100000 in
theorem PySem.Challenge.cw_on0015_01_holds : PySem.Challenge.rw_on0015_01.Holds :=
  Mine.fin
