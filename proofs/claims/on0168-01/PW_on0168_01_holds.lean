import PyProof.Rows.All
import Wide.All
import OpenK.AllK
import Wide.FinOn
import PySem.Challenge.RW_on0168_01
open PySem PySem.W PyProof.Rows
set_option Elab.async false
set_option rowWalk.seconds 0
set_option compiler.extract_closed false
namespace Mine

def vw : Program := PySem.W.view PySem.Challenge.pw_on0168_01 [0, 2, 3, 4, 6, 7, 8, 10, 11, 13, 14, 15, 16, 17, 20, 21, 22, 23, 24, 25]
set_option maxRecDepth 100000 in
set_option maxHeartbeats 0 in
theorem said : PySem.Challenge.rw_on0168_01.wellSaid = true := by
  unfold OpenLaw.wellSaid
  repeat' first
    | with_reducible refine look_both ?_ ?_
    | (unfold OpenRow.wellSaid; with_reducible refine look_both ?_ ?_)
    | (unfold OpenRow.partSaid; with_reducible refine look_both ?_ ?_)
    | (unfold looksOpen; with_reducible refine look_both ?_ ?_)
  all_goals as_aux_lemma =>
    (try rw [PySem.W.Fast.te8326940854005059898])
    (try rw [PySem.W.Fast.te8377067652309620493])
    (try rw [PySem.W.Fast.te11788848310118352699])
    (try rw [PySem.W.Fast.te12862048085361865435])
    (try rw [PySem.W.Fast.te17119622794617984870])
    (try rw [PySem.W.Fast.te9807087744658564304])
    (try rw [PySem.W.Fast.te9558739934217749035])
    (try rw [PySem.W.Fast.te16286561074155671207])
    (try rw [PySem.W.Fast.te8179353310426384613])
    (try rw [PySem.W.Fast.te10501279942588096481])
    (try rw [PySem.W.Fast.te13343964577679436407])
    (try rw [PySem.W.Fast.te10792542408131684335])
    (try rw [PySem.W.Fast.te6984425678791042302])
    (try rw [PySem.W.Fast.te18344453789297297638])
    kernel_rfl
section
set_option maxRecDepth 100000
noncomputable def mkT : List Obj → Nat → BT → BT
  | [], _, t => t
  | o :: l, i, t => mkT l (i + 1) (t.ins i o)
noncomputable def runW (f : SharedT → Thread → Option (SharedT × Thread)) (n₀ : Nat) (ann : Option Value) (n : Nat) : SharedT → Thread → Option SharedT :=
  Nat.rec (fun _ _ => none) (fun _ ih s t => match through t with
    | true => some s
    | false => match stepOk n₀ ann t with
      | false => none
      | true => match f s t with
        | some (s', t') => ih s' t'
        | none => none) n
theorem runW_of {tb : String → Option Builtin} {p : Program} {w : World} {n₀ : Nat} {ann : Option Value} {n : Nat} : ∀ {s s' : SharedT} {t : Thread}, runW (stepT (denote tb) p w) n₀ ann n s t = some s' → topRun tb p w n₀ ann n s.abs t = some s'.abs := by
  induction n with
  | zero => intro s s' t h; cases h
  | succ n ih =>
    intro s s' t h
    unfold topRun
    unfold runW at h
    dsimp only at h
    cases he : through t with
    | true => rw [he] at h; cases h; rfl
    | false =>
      rw [he] at h
      cases hk : stepOk n₀ ann t with
      | false => rw [hk] at h; cases h
      | true =>
        rw [hk] at h
        cases hs : stepT (denote tb) p w s t with
        | none => rw [hs] at h; cases h
        | some r => obtain ⟨s₂, t₂⟩ := r; rw [hs] at h; rw [stepT_spec hs]; exact ih h
noncomputable def T0 (P : Params) : BT := mkT (boot_heap P).objs.toList 0 .nil
noncomputable def topOk (p : Program) (P : Params) (s : Shared) : Bool := staticsOk (importedModules p.main.body) (boot_heap P) s.heap && namesBound p s.heap && gensDone s && laidKept (boot_heap P) s.heap
noncomputable def bootT (w : World) (os : OsState) : SharedT := ⟨T0 w.params, 11, {}, Array.mk [], boot_drawn, boot_toks, os⟩
noncomputable def bootS (w : World) (os : OsState) : Shared := ⟨boot_heap w.params, Array.mk [], boot_drawn, boot_toks, os⟩
/-- the top by the tree: one run, and the looks at its end -/
theorem leftW {p q : Program} {loose : List Str} {Xt : Shared → Bool} {α : Type} {Yf : Shared → α} {Ya : World → α} {N : Nat}
    (open_ : ∀ w : World, (fencedOpening treeTable p w N).map (fun s => (s.heap, s.gens, s.drawn, s.toks)) = some (boot_heap w.params, Array.mk [], boot_drawn, boot_toks))
    (tree : ∀ P : Params, absHeap (T0 P) 11 {} = boot_heap P)
    (z1 : ∀ (w : World) (os : OsState), ((bootS w os).heap.isNs mainGlobals && (bootS w os).gens.size == 0) = true) (z2 : ∀ (w : World) (os : OsState), (bootS w os).heap.objs.size = 11) (z3 : ∀ (w : World) (os : OsState), (bootS w os).heap.nsMap mainGlobals "__annotations__" = some (.ref 6))
    (run : ∀ (w : World) (os : OsState), (runW (stepT (denote treeTable) p w) 11 (some (.ref 6)) N (bootT w os) (topStub p)).map (fun s' => (topOk p w.params s'.abs, openSeen q loose (importedModules p.main.body) Xt true s'.abs, Yf s'.abs)) = some (true, openGood q loose, Ya w)) : LeftO p q loose Xt Yf Ya N := fun w => by
  obtain ⟨s0, e, e'⟩ := Option.map_eq_some_iff.mp (open_ w)
  have e0 : s0 = bootS w s0.os := by
    cases s0
    cases e'
    rfl
  obtain ⟨s', hs, hl⟩ := Option.map_eq_some_iff.mp (run w s0.os)
  have r := runW_of hs
  rw [show (bootT w s0.os).abs = bootS w s0.os by unfold SharedT.abs bootT bootS; rw [tree]] at r
  unfold openEnds
  rw [e, e0]
  show (topFrom treeTable p w N _).map _ = _
  unfold topFrom
  rw [z1, z2, z3, r]
  show (match topOk p w.params s'.abs with | true => _ | false => _ : Option Shared).map _ = _
  rw [show topOk p w.params s'.abs = true from congrArg Prod.fst hl]
  exact congrArg (fun z => some z.2) hl
theorem e4 : ∀ P : Params, absHeap (T0 P) 11 {} = boot_heap P := by intro P; kernel_rfl
theorem e5 : ∀ (w : World) (os : OsState), ((bootS w os).heap.isNs mainGlobals && (bootS w os).gens.size == 0) = true := by intro w os; kernel_rfl
theorem e6 : ∀ (w : World) (os : OsState), (bootS w os).heap.objs.size = 11 := by intro w os; kernel_rfl
theorem e7 : ∀ (w : World) (os : OsState), (bootS w os).heap.nsMap mainGlobals "__annotations__" = some (.ref 6) := by intro w os; kernel_rfl
theorem leftV {Xt : Shared → Bool} {α : Type} {Yf : Shared → α} {Ya : World → α}
    (run : ∀ (w : World) (os : OsState), (runW (Fast.tw10156331382660048174 (Fast.tw11892475500146522536 Fast.tw14364793385576792824) PySem.Challenge.rw_on0168_01.row.prog w) 11 (some (.ref 6)) 5558 (bootT w os) (topStub PySem.Challenge.rw_on0168_01.row.prog)).map (fun s' => (topOk PySem.Challenge.rw_on0168_01.row.prog w.params s'.abs, Fast.tw4187177175401517315 vw [Str.ofString "ToolError", Str.ofString "plain_grammar"] (importedModules PySem.Challenge.rw_on0168_01.row.prog.main.body) Xt true s'.abs, Yf s'.abs)) = some (true, openGood vw [Str.ofString "ToolError", Str.ofString "plain_grammar"], Ya w)) : LeftO PySem.Challenge.rw_on0168_01.row.prog vw [Str.ofString "ToolError", Str.ofString "plain_grammar"] Xt Yf Ya 5558 := by
  refine leftW (boot_open (by kernel_rfl) (by kernel_rfl) (by intro s; kernel_rfl)) e4 e5 e6 e7 ?_
  rw [PySem.W.Fast.te10156331382660048174, PySem.W.Fast.te14364793385576792824, PySem.W.Fast.te11892475500146522536, PySem.W.Fast.te4187177175401517315]
  exact run
end
set_option maxRecDepth 100000 in
set_option maxHeartbeats 0 in
noncomputable def headL (H : Hook) (hl : LeftO PySem.Challenge.rw_on0168_01.row.prog vw [Str.ofString "ToolError", Str.ofString "plain_grammar"] (fun s => xlAt vw [] s && recOk (RowW.records (OpenRow.toRowW PySem.Challenge.rw_on0168_01.row)) s) (Hook.obs H) (Hook.val H) 5558) (k1 : PySem.Challenge.rw_on0168_01.row.wellSaid = true) :=
  PySem.W.holds_open (r := PySem.Challenge.rw_on0168_01.row) (q := vw) (loose := [Str.ofString "ToolError", Str.ofString "plain_grammar"]) (Xt := fun s => xlAt vw [] s && recOk (RowW.records (OpenRow.toRowW PySem.Challenge.rw_on0168_01.row)) s) (XP := XL vw []) (Yf := Hook.obs H) (Ya := Hook.val H) (YP := Hook.says H) (N := 5558) hl (Hook.of H) (Hook.keeps H) (fun s e => xl_of s (Bool.and_eq_true_iff.mp e).1) XL.keeps (by rfl) (by rfl) (by rfl) (fun s e => recFacts_of (Bool.and_eq_true_iff.mp e).2) (by rfl) k1 (by decide +kernel) ⟨rfl, rfl, rfl, rfl, rfl, by decide +kernel⟩
section
local macro_rules | `(tactic| o_head $H) => `(tactic| (
  refine headL $H ?hl (by assumption) ?hw ?hc
  (case hl => exact leftV (by intro w os; kernel_rfl))))
local macro_rules | `(tactic| o_law) => `(tactic| refine holds_law said fun said => ?_)
set_option maxRecDepth 100000 in
set_option maxHeartbeats 8000000 in
open_top hd for PySem.Challenge.rw_on0168_01
end

section
open PySem.Calls
set_option maxRecDepth 100000
noncomputable abbrev lse : List Str := looseW vw [Str.ofString "ToolError", Str.ofString "plain_grammar"]


/-- room for calls -/
structure Room (A : Around) (d : Nat) : Prop where
  handled : A.handled = none
  depth : A.depth + d ≤ 900
  units : A.units + 10 * d ≤ 9000

section
variable {prog : Program} {w : World} {A : Around} {s : Shared} {h₀ : Heap} {L : Addr} {m : Str → Option Value} {news : List (Addr × Obj)} {K : Frag} {mg mb : Str → Option Value} {p : Program} {loose : List Str} {mean : ExcName → Option Value}
  {R : Result → Shared → Prop} {name qual : Str} {params : Arguments} {body : List Stmt} {scope : Scope} {dV kV doc pm cdv ct oc : Value} {an od : Option Addr} {osl : Array (Option Value)} {f : Addr} {args : Args} {binds : List (Str × Value)}

theorem groundN (F : Fr h₀ L s.heap m) (N : News h₀ L s.heap news) :
    Fr h₀ L (hideAll s.heap (news.map (·.1))) m ∧ h₀.StaysIn (hideAll s.heap (news.map (·.1))) ∧
      ∀ v s', LeaveK h₀ L m (hideAll s.heap (news.map (·.1))) R v s' → R (.ok (.ret v)) s' := by
  have nm : ∀ b o, h₀.get? b = some o → b ∉ news.map (·.1) := fun b o e q => by
    obtain ⟨p, hp, rfl⟩ := List.mem_map.mp q
    rw [(N p hp).2.2] at e; cases e
  have st : h₀.StaysIn (hideAll s.heap (news.map (·.1))) := fun b o e => hideAll_get _ (F.keep b o e) (nm b o e)
  obtain ⟨oL, es, ep, hL, hLd, hLk, hLf⟩ := F.ns
  have nL : L ∉ news.map (·.1) := fun q => by
    obtain ⟨p, hp, e⟩ := List.mem_map.mp q
    exact (N p hp).2.1 e
  have hLg := hideAll_get (news.map (·.1)) hL nL
  refine ⟨⟨⟨oL, es, ep, hLg, hLd, hLk, hLf⟩, st, F.above⟩, st, fun v s' hl => ?_⟩
  obtain ⟨L', m', news', F', N', k⟩ := hl
  refine k ⟨⟨oL, es, ep, F'.keep L oL hLg, hLd, hLk, hLf⟩, fun b o e => F'.keep b o (st b o e), F.above⟩ fun p hp => ⟨(N' p hp).1, fun q => ?_, ?_⟩
  · have := (N' p hp).2.2; rw [q, hLg] at this; cases this
  · cases q : h₀.get? p.1 with
    | none => rfl
    | some o => have := (N' p hp).2.2; rw [st _ _ q] at this; cases this

/-- a call of a def of the text without cells: the body is to be walked -/
theorem enterN (F : Fr h₀ L s.heap m) (X₀ : K.In h₀) (N : News h₀ L s.heap news) (T : Top p loose mean mg mb h₀)
    (ho : K.lookup f = some ⟨oc, od, .func (fnOf name qual params body scope dV kV doc pm an cdv ct), osl⟩) (hcd : codeIn K cdv qual = true) (hroom : A.depth < recursionLimit)
    (hbind : BindsTo s (fnOf name qual params body scope dV kV doc pm an cdv ct) args binds) (hloc : ∀ y ∈ binds, scope.names.lookup y.1 = some .local)
    (h : ∀ g L' h₁, Fr h₀ L g m → Fr g L' h₁ (fun y => binds.reverse.lookup y) → News g L' h₁ news → K.In g → Top p loose mean mg mb g → (∀ p ∈ news, p.1 < L') →
      wpAny (model prog w) (A.deeper (envOf qual scope L' f cdv)) (execs body (envOf qual scope L' f cdv))
        (fun fl s' => LeaveK h₀ L m g R (match fl with | .ret v => v | _ => .none) s') (fun _ _ => False)
        { s with heap := h₁, toks := s.toks + binds.length })
    (hco : scope.isCoroutine = false) (hgen : scope.isGenerator = false) (hk : scope.kind = .function)
    (hcell : ∀ x ∈ scope.names, x.2 ≠ .cell) : codeAny (model prog w) A (.call (.ref f) args) R s := by
  obtain ⟨FG, st, lv⟩ := groundN (R := R) F N
  refine codeAny_call_def (fd := fnOf name qual params body scope dV kV doc pm an cdv ct) (body := body) (binds := binds) hroom ((X₀.keeps F.keep) _ _ ho) rfl (T.nolimit.keeps F.keep) (codeRec_of (X₀.keeps F.keep) hcd) rfl hbind hcell hloc (fun h₁ hns hk₁ => ?_) hco hgen hk
  exact wpAny_mono (h _ s.heap.objs.size h₁ FG ⟨hns, fun b o e => hk₁ b o (of_hideAll _ e), Nat.le_of_eq (hideAll_size _ _)⟩
    (fun p hp => ⟨hk₁ _ _ (N p hp).1, Nat.ne_of_lt (Heap.lt_size (N p hp).1), hideAll_none _ (List.mem_map_of_mem hp)⟩) (X₀.keeps st) (T.keeps st) (fun p hp => Heap.lt_size (N p hp).1)) (fun fl s' hl => lv _ _ hl) fun _ _ y => y.elim
end
end

section
open PySem.Calls
set_option maxRecDepth 100000
theorem fmod_bounds {a b : Int} (hb : 0 < b) : 0 ≤ a.fmod b ∧ a.fmod b < b := ⟨Int.fmod_nonneg_of_pos a hb, Int.fmod_lt_of_pos a hb⟩
theorem fdiv_bounds {a b : Int} (ha : 0 ≤ a) (hb : 0 < b) : 0 ≤ a.fdiv b ∧ a.fdiv b ≤ a := by
  rw [Int.fdiv_eq_ediv_of_nonneg _ (Int.le_of_lt hb)]
  exact ⟨Int.ediv_nonneg ha (Int.le_of_lt hb), Int.ediv_le_self _ ha⟩

section
local macro_rules | `(tactic| k_all) => `(tactic| assumption)

set_option maxHeartbeats 4000000 in
theorem draw_spec : ∀ {w : World} {A : Around} {s : Shared} {h₀ : Heap} {L : Addr} {m mg mb : Str → Option Value} {mean : ExcName → Option Value} {tl : List (Addr × Obj)} {pen : Addr} {n k many : Int} {tn tk tm : Tok} {e : Nat} {Q E : Value → Shared → Prop}
    (_ : Room A 3) (_ : Fr h₀ L s.heap m) (_ : (hd.heap_1 w.params).In h₀) (_ : Top vw lse mean mg mb h₀) (_ : News h₀ L s.heap ((pen, listOf #[.int n tn, .int k tk] e) :: tl)) (_ : ∀ p ∈ tl, p.1 ≠ pen) (_ : 0 ≤ n) (_ : 0 ≤ k) (_ : k ≤ 1000) (_ : 1 ≤ many) (_ : many ≤ 10)
    (_ : ∀ d td n' tn' tk' e' h' t', 0 ≤ d → d < many → 0 ≤ n' → Fr h₀ L h' m → News h₀ L h' ((pen, listOf #[.int n' tn', .int (k + 1) tk'] e') :: tl) → Q (.int d td) { s with heap := h', toks := t' }),
    wpAny (model Challenge.rw_on0168_01.row.prog w) A (call (.ref 351) [.ref pen, .int many tm]) Q E s := by
  try row_walk
  k_fill
  intro w A s h₀ L m mg mb mean tl pen n k many tn tk tm e Q E R F X T N hd1 hn hk hk2 hm hm2 ret
  obtain ⟨hh, dp, fr, gd, un⟩ := A
  obtain ⟨R1, R2, R3⟩ := R
  dsimp only at R1 R2 R3
  subst R1
  refine wpAny_call ?_
  refine enterN F X N T (by k_is) (by k_is) (by show dp < 1000; omega) (BindsTo.of_eq rfl) (locs rfl) ?_ rfl rfl rfl (by decide)
  intro g L' h' FG' F' N' X' T' l1
  dsimp only
  k_fold
  k_steps
  · have b1 := fmod_bounds (a := n) (b := many) (by omega)
    have b2 := fdiv_bounds (a := n) (b := many) hn (by omega)
    exact ret _ _ _ _ _ _ _ _ b1.1 b1.2 b2.1 (by assumption) (by assumption)
  · refine mul_int (a := k + 1) (b := k + 1) ?_ (IntMulOk.of_left (intBits_le_64 (by omega) (by omega)))
    k_steps
    have b1 := fmod_bounds (a := (k + 1) * (k + 1) + 1) (b := many) (by omega)
    exact ret _ _ _ _ _ _ _ _ b1.1 b1.2 hn (by assumption) (by assumption)
end
end

section
open PySem.Calls
set_option maxRecDepth 100000
noncomputable def Stop (P : Prop) : Prop := P
theorem stopHere {P : Prop} (h : Stop P) : P := h
theorem stopGo {P : Prop} (h : P) : Stop P := h

/-- two frames' maps agree off the scratch names -/
noncomputable def Agr (S : List Str) (m m' : Str → Option Value) : Prop := ∀ y, S.contains y = false → m y = m' y
theorem Agr.rfl {S : List Str} {m : Str → Option Value} : Agr S m m := fun _ _ => Eq.refl _
theorem Agr.set {S : List Str} {m m' : Str → Option Value} {x : Str} {v : Option Value} (h : Agr S m m') (hx : S.contains x = true) : Agr S (fun y => if y = x then v else m y) m' := fun y hy => by
  have : y ≠ x := fun e => by rw [e, hx] at hy; cases hy
  simp only [if_neg this]; exact h y hy
theorem Agr.scr {S S' : List Str} {u m m' : Str → Option Value} (h : Agr S m m') (hs : (S'.all fun x => S.contains x) = true) : Agr S (fun y => if S'.contains y then u y else m y) m' := fun y hy => by
  have : S'.contains y = false := by
    cases e : S'.contains y with
    | false => rfl
    | true =>
      have := List.all_eq_true.mp hs y (by simpa using e)
      rw [this] at hy; cases hy
  simp only [this]; exact h y hy
theorem Agr.eq {S : List Str} {m m' : Str → Option Value} (h : Agr S m m') : m = fun y => if S.contains y then m y else m' y := by
  funext y
  cases e : S.contains y with
  | true => simp
  | false => simp only [Bool.false_eq_true, if_false]; exact h y e

theorem Agr.cong {S : List Str} {m m' : Str → Option Value} {x : Str} {v : Option Value} (h : Agr (x :: S) m m') : Agr S (fun y => if y = x then v else m y) (fun y => if y = x then v else m' y) := fun y hy => by
  by_cases e : y = x
  · simp only [if_pos e]
  · simp only [if_neg e]
    exact h y (by rw [List.contains_cons, hy, Bool.or_false]; simpa using e)
theorem own_apart {tl own : List (Addr × Obj)} {It c : Addr} (hown : ∀ p ∈ own, p.1 = It) (hne : ∀ p ∈ tl, p.1 ≠ c) (hit : c ≠ It) : ∀ p ∈ tl ++ own, p.1 ≠ c := fun p hp => (List.mem_append.mp hp).elim (hne p) fun h => (hown p h) ▸ Ne.symm hit
theorem own_apart2 {tl own : List (Addr × Obj)} {It src c : Addr} (hown : ∀ p ∈ own, p.1 = It ∨ p.1 = src) (hne : ∀ p ∈ tl, p.1 ≠ c) (hit : c ≠ It) (hsrc : src ≠ c) : ∀ p ∈ tl ++ own, p.1 ≠ c := fun p hp => (List.mem_append.mp hp).elim (hne p) fun h => (hown p h).elim (fun e => e ▸ Ne.symm hit) fun e => e ▸ hsrc
theorem mem_id {α : Type} {a : α} {l : List α} (h : a ∈ l) : List.Mem a l := h
theorem sub_l {α : Type} {a b : List α} : ∀ p ∈ a, p ∈ a ++ b := fun _ h => List.mem_append.mpr (.inl h)
theorem sub_r {α : Type} {a b : List α} : ∀ p ∈ b, p ∈ a ++ b := fun _ h => List.mem_append.mpr (.inr h)
theorem sub_tl {α : Type} {a b : List α} {c : α} (h : ∀ p ∈ a, p ∈ b) : ∀ p ∈ a, p ∈ c :: b := fun p hp => List.Mem.tail _ (h p hp)
theorem sub_rf {α : Type} {a : List α} : ∀ p ∈ a, p ∈ a := fun _ h => h
theorem sub_cons {α : Type} {a b : List α} {c : α} (hc : c ∈ b) (h : ∀ p ∈ a, p ∈ b) : ∀ p ∈ c :: a, p ∈ b := fun p hp => (List.mem_cons.mp hp).elim (fun e => e ▸ hc) (h p)
theorem sub_nil {α : Type} {b : List α} : ∀ p ∈ ([] : List α), p ∈ b := fun _ h => nomatch h
theorem ne_cons {a : List (Addr × Obj)} {c : Addr × Obj} {d : Addr} (hc : c.1 ≠ d) (h : ∀ p ∈ a, p.1 ≠ d) : ∀ p ∈ c :: a, p.1 ≠ d := fun p hp => (List.mem_cons.mp hp).elim (fun e => e ▸ hc) (h p)
theorem ne_ltAll' {d e : Addr} {l : List (Addr × Obj)} (h : ∀ p ∈ l, p.1 < d) (hde : d ≤ e) : ∀ p ∈ l, p.1 ≠ e := fun p hp => Nat.ne_of_lt (Nat.lt_of_lt_of_le (h p hp) hde)
theorem take_foldl {α β : Type} (f : β → α → β) (a : β) {l : List α} {i : Nat} {x : α} (h : l[i]? = some x) : (l.take (i + 1)).foldl f a = f ((l.take i).foldl f a) x := by
  rw [List.take_add_one, h, List.foldl_append]; rfl
theorem ne_of_ltAll {d : Addr} {l : List (Addr × Obj)} (h : ∀ p ∈ l, p.1 < d) : ∀ p ∈ l, p.1 ≠ d := fun p hp => Nat.ne_of_lt (h p hp)
theorem ne_of_AllLt {d : Addr} : ∀ {l : List (Addr × Obj)}, AllLt d l → ∀ p ∈ l, p.1 ≠ d
  | [], _, _, hp => nomatch hp
  | _ :: _, h, _, hp => (List.mem_cons.mp hp).elim (fun e => by subst e; exact Nat.ne_of_lt h.1) (fun m => ne_of_AllLt h.2 _ m)

noncomputable def TurnOk (h₀ : Heap) (L : Addr) (it : Addr) (own : List (Addr × Obj)) (S : List Str) {σ : Type} (mE : σ → Str → Option Value) (I : σ → List (Addr × Obj) → Prop) (s₁ s₂ : Shared) : Prop :=
  ∃ x h' tk m' led news', s₂ = { s₁ with heap := h', toks := tk } ∧ Fr h₀ L h' m' ∧ News h₀ L h' led ∧ (∀ p ∈ news', p ∈ led) ∧ (∀ p ∈ own, p ∈ led) ∧ (∀ p ∈ news', p.1 ≠ it) ∧ Agr S m' (mE x) ∧ I x news'
theorem TurnOk.intro {h₀ : Heap} {L it : Addr} {own : List (Addr × Obj)} {S : List Str} {σ : Type} {mE : σ → Str → Option Value} {I : σ → List (Addr × Obj) → Prop} {s₁ : Shared} {h' : Heap} {tk : Nat} {m' : Str → Option Value} {led : List (Addr × Obj)}
    (F : Fr h₀ L h' m') (N : News h₀ L h' led) (x : σ) (news' : List (Addr × Obj)) (hm : Agr S m' (mE x)) (hI : I x news') (h1 : ∀ p ∈ news', p ∈ led) (h2 : ∀ p ∈ own, p ∈ led) (h3 : ∀ p ∈ news', p.1 ≠ it) : TurnOk h₀ L it own S mE I s₁ { s₁ with heap := h', toks := tk } :=
  ⟨x, h', tk, m', led, news', rfl, F, N, h1, h2, h3, hm, hI⟩
noncomputable def TurnPost (h₀ : Heap) (L : Addr) (it : Addr) (own : List (Addr × Obj)) (S : List Str) {σ : Type} (mE : σ → Str → Option Value) (I : σ → List (Addr × Obj) → Prop) (s₁ : Shared) (Q : Flow → Shared → Prop) (f : Flow) (s₂ : Shared) : Prop :=
  match f with
  | .ret v => Q (.ret v) s₂
  | .brk => Q .next s₂
  | _ => TurnOk h₀ L it own S mE I s₁ s₂

theorem TurnPost.ok {h₀ : Heap} {L it : Addr} {own : List (Addr × Obj)} {S : List Str} {σ : Type} {mE : σ → Str → Option Value} {I : σ → List (Addr × Obj) → Prop} {s₁ : Shared} {h' : Heap} {tk : Nat} {m' : Str → Option Value} {led : List (Addr × Obj)} {Q : Flow → Shared → Prop}
    (F : Fr h₀ L h' m') (N : News h₀ L h' led) (x : σ) (news' : List (Addr × Obj)) (hm : Agr S m' (mE x)) (hI : I x news') (h1 : ∀ p ∈ news', p ∈ led) (h2 : ∀ p ∈ own, p ∈ led) (h3 : ∀ p ∈ news', p.1 ≠ it) : TurnPost h₀ L it own S mE I s₁ Q .next { s₁ with heap := h', toks := tk } :=
  TurnOk.intro F N x news' hm hI h1 h2 h3
theorem ne_head {a : List (Addr × Obj)} {c : Addr} {o o' : Obj} {d : Addr} (h : ∀ p ∈ (c, o) :: a, p.1 ≠ d) : ∀ p ∈ (c, o') :: a, p.1 ≠ d := fun p hp => (List.mem_cons.mp hp).elim (fun e => by subst e; exact h (c, o) (.head _)) (fun m => h p (.tail _ m))
/-- between two statements: what holds, the frame's map up to scratch names, the ledger -/
noncomputable def Mid (h₀ : Heap) (L : Addr) (S : List Str) (m : Str → Option Value) (P : List (Addr × Obj) → Prop) (s : Shared) (f : Flow) (s' : Shared) : Prop :=
  f = .next ∧ ∃ h' tk m' news', s' = { s with heap := h', toks := tk } ∧ Fr h₀ L h' m' ∧ News h₀ L h' news' ∧ Agr S m' m ∧ P news'
theorem Mid.intro {h₀ : Heap} {L : Addr} {S : List Str} {m : Str → Option Value} {P : List (Addr × Obj) → Prop} {s : Shared} {h' : Heap} {tk : Nat} {m' : Str → Option Value} {news' : List (Addr × Obj)}
    (F : Fr h₀ L h' m') (N : News h₀ L h' news') (hm : Agr S m' m) (hP : P news') : Mid h₀ L S m P s .next { s with heap := h', toks := tk } := ⟨rfl, h', tk, m', news', rfl, F, N, hm, hP⟩
theorem exec_mid {M : Model} {A : Around} {E : Value → Shared → Prop} {s : Shared} {env : Env} {h₀ : Heap} {L : Addr} {m : Str → Option Value} {st : Stmt} {rest : List Stmt} {Q : Flow → Shared → Prop} (F : Fr h₀ L s.heap m) (S : List Str) (P : List (Addr × Obj) → Prop)
    (h1 : wpAny M A (exec st env) (Mid h₀ L S m P s) E s)
    (h2 : ∀ h' tk (u : Str → Option Value) news', Fr h₀ L h' (fun z => if S.contains z then u z else m z) → News h₀ L h' news' → P news' → wpAny M A (execs rest env) Q E { s with heap := h', toks := tk }) : wpAny M A (execs (st :: rest) env) Q E s := by
  refine wpAny_execs_cons (wpAny_mono h1 (fun f s' hm => ?_) fun _ _ x => x)
  obtain ⟨rfl, h', tk, m', news', rfl, F', N', hm, hP⟩ := hm
  rw [hm.eq] at F'
  exact h2 h' tk m' news' F' N' hP

section
variable {prog : Program} {w : World} {A : Around} {E : Value → Shared → Prop} {s : Shared} {env : Env} {h₀ : Heap} {x : Str} {body : List Stmt} {Q : Flow → Shared → Prop} {σ : Type}

theorem loop_core {It : Addr} {fp : List Addr} {n : Nat} {P : Nat → Value → Prop} {St : Nat → Heap → Prop} (W : Walks prog w A It fp [It] n P St)
    {m : Str → Option Value} {news : List (Addr × Obj)} (hLf : env.locals ∉ fp) (hit : h₀.get? It = none) (hnw : ∀ p ∈ news, p.1 ≠ It) (hst : St 0 s.heap) (hIf : It ∈ fp) (hlive : ∀ i h, St i h → ∃ o, h.get? It = some o) (F : Fr h₀ env.locals s.heap m) (N : News h₀ env.locals s.heap news)
    (S : List Str) (mE : σ → Str → Option Value) (I : Nat → σ → List (Addr × Obj) → Prop) (x0 : σ) (hm : Agr S m (mE x0)) (hI : I 0 x0 news)
    (turn : ∀ i v y (u : Str → Option Value) news₁ h tk own, i < n → P i v → I i y news₁ → (∀ p ∈ news₁, p.1 ≠ It) → (∀ p ∈ own, p.1 ∈ fp) → (∃ o, (It, o) ∈ own) → Fr h₀ env.locals h (fun z => if z = x then some v else if S.contains z then u z else mE y z) → News h₀ env.locals h (news₁ ++ own) →
      wpAny (model prog w) A (execs body env) (TurnPost h₀ env.locals It own S mE (I (i + 1)) { s with heap := h, toks := tk } Q) E { s with heap := h, toks := tk })
    (done : ∀ h tk y (u : Str → Option Value) news', Fr h₀ env.locals h (fun z => if S.contains z then u z else mE y z) → News h₀ env.locals h news' → I n y news' → Q .next { s with heap := h, toks := tk }) :
    LoopAtV prog w A h₀ env x body Q E (.ref It) s := by
  refine ⟨It, fp, [It], n, P, St, m, news, fun i m₁ news₁ => ∃ y, Agr S m₁ (mE y) ∧ I i y news₁, rfl, W, hLf, ?_, ?_, hst, F, N, ⟨x0, hm, hI⟩, ?_, ?_⟩
  · intro b hb; rw [List.mem_singleton.mp hb]; exact hit
  · intro p hp hb; exact hnw p hp (List.mem_singleton.mp hb)
  · rintro i v m₁ news₁ s₁ own ⟨h, tk, rfl⟩ hi hP ⟨y, hm₁, hI₁⟩ hnw₁ hown _ hall hst₁ F₁ N₁
    have e := hm₁.eq
    rw [e] at F₁
    refine wpAny_mono (turn i v y m₁ news₁ h tk own hi hP hI₁ (fun p hp e => hnw₁ p hp (List.mem_singleton.mpr e)) hown (let ⟨o, ho⟩ := hlive _ _ hst₁; ⟨o, hall It hIf hit o ho⟩) F₁ (fun p hp => N₁ p ((List.mem_append.mp hp).elim (fun h => List.mem_append.mpr (.inr h)) fun h => List.mem_append.mpr (.inl h)))) (fun f s₂ p => ?_) fun _ _ e => e
    have fin : TurnOk h₀ env.locals It own S mE (I (i + 1)) { s with heap := h, toks := tk } s₂ → LoopStepU h₀ env.locals [It] own (fun m₁ news₁ => ∃ y, Agr S m₁ (mE y) ∧ I (i + 1) y news₁) { s with heap := h, toks := tk } .next s₂ := by
      rintro ⟨y', h', tk', m', led, news', rfl, F', N', h1, h2, h3, hm', hI'⟩
      exact ⟨rfl, h', tk', m', news', rfl, F', fun p hp => N' p ((List.mem_append.mp hp).elim (h2 p) (h1 p)), fun p hp e => h3 p hp (List.mem_singleton.mp e), y', hm', hI'⟩
    cases f with
    | ret v => exact .ret p
    | brk => exact .brk p
    | next => exact .next (fin p)
    | cont => exact .cont (fin p)
  · rintro h' tk m' news' F' N' _ ⟨y, hm', hI'⟩
    rw [hm'.eq] at F'
    exact done h' tk y m' news' F' N' hI'

theorem range_n (a b : Int) : Builtin.Range.rangeSize a b 1 = ((b - a).toNat : Int) := by
  unfold Builtin.Range.rangeSize
  rw [if_pos (by decide)]
  split
  · rw [Int.ediv_one]; omega
  · omega
theorem range_small {a b : Int} (ha : -1000 ≤ a) (ha' : a ≤ 1000) (hb : -1000 ≤ b) (hb' : b ≤ 1000) : Builtin.Range.small a b 1 = true := by
  unfold Builtin.Range.small
  rw [range_n]
  have fit : ∀ x : Int, -10000 ≤ x → x ≤ 10000 → Builtin.Range.rangeFitsLong x = true := by
    intro x h1 h2
    unfold Builtin.Range.rangeFitsLong
    simp only [Bool.and_eq_true, decide_eq_true_eq]
    omega
  rw [fit a (by omega) (by omega), fit b (by omega) (by omega), fit 1 (by decide) (by decide), fit _ (by omega) (by omega), if_pos (by decide), fit _ (by omega) (by omega)]
  simp
/-- over a range by ones -/
theorem loop_range {r : Addr} {a b : Int} {t u v : Tok} {m : Str → Option Value} {news : List (Addr × Obj)} (hh : A.handled = none) (F : Fr h₀ env.locals s.heap m) (N : News h₀ env.locals s.heap news)
    (hr : IsRange s.heap r a b 1 t u v) (hsmall : Builtin.Range.small a b 1 = true) (n : Nat) (hn : Builtin.Range.rangeSize a b 1 = n)
    (S : List Str) (mE : σ → Str → Option Value) (I : Nat → σ → List (Addr × Obj) → Prop) (x0 : σ) (hm : Agr S m (mE x0)) (hI : I 0 x0 news)
    (turn : ∀ i t y (u : Str → Option Value) news₁ h tk It own, i < n → I i y news₁ → (∀ p ∈ news₁, p.1 ≠ It) → (∀ p ∈ own, p.1 = It) → (∃ o, (It, o) ∈ own) → Fr h₀ env.locals h (fun z => if z = x then some (.int (a + (i : Nat)) t) else if S.contains z then u z else mE y z) → News h₀ env.locals h (news₁ ++ own) →
      wpAny (model prog w) A (execs body env) (TurnPost h₀ env.locals It own S mE (I (i + 1)) { s with heap := h, toks := tk } Q) E { s with heap := h, toks := tk })
    (done : ∀ h tk y (u : Str → Option Value) news', Fr h₀ env.locals h (fun z => if S.contains z then u z else mE y z) → News h₀ env.locals h news' → I n y news' → Q .next { s with heap := h, toks := tk }) :
    wpAny (model prog w) A (pyIter (.ref r)) (fun it s₂ => LoopAtV prog w A h₀ env x body Q E it s₂) E s := by
  refine wpAny_pyIter_range hr hsmall ?_
  have W := Walks.range (prog := prog) (w := w) hh s.heap.objs.size a 1 n
  refine loop_core W ?_ (next_is_new F) (fun p hp e => absurd (Heap.lt_size (N p hp).1) (e ▸ Nat.lt_irrefl _)) ?_ (List.mem_cons_self ..) ?_ (F.push _) (fun p hp => ⟨Heap.get?_push_of_some _ (N p hp).1, (N p hp).2⟩) S mE I x0 hm hI ?_ ?_
  · intro hm; exact absurd F.ns.lt ((List.mem_singleton.mp hm) ▸ Nat.lt_irrefl _)
  · show IsRangeIter _ _ _ _ _
    rw [hn]
    simp only [Int.natCast_zero, Int.zero_mul, Int.add_zero, Int.sub_zero]
    exact Heap.get?_push_size _ rfl
  · intro i h st; exact ⟨_, st⟩
  · rintro i v y u news₁ h tk own hi ⟨t', rfl⟩ hI₁ h1 h2 hIo F₁ N₁
    rw [Int.mul_one] at F₁
    exact turn i t' y u news₁ h tk _ own hi hI₁ h1 (fun p hp => List.mem_singleton.mp (h2 p hp)) hIo F₁ N₁
  · intro h tk y u news' F₁ N₁ hI₁
    exact done h tk y u news' F₁ N₁ hI₁

/-- over a tuple -/
theorem loop_tuple {r : Addr} {items : Array Value} {m : Str → Option Value} {news : List (Addr × Obj)} (hh : A.handled = none) (F : Fr h₀ env.locals s.heap m) (N : News h₀ env.locals s.heap news)
    (hr : s.heap.IsTuple r items) (hrL : r ≠ env.locals)
    (S : List Str) (mE : σ → Str → Option Value) (I : Nat → σ → List (Addr × Obj) → Prop) (x0 : σ) (hm : Agr S m (mE x0)) (hI : I 0 x0 news)
    (turn : ∀ i v y (u : Str → Option Value) news₁ h tk It own, items[i]? = some v → I i y news₁ → (∀ p ∈ news₁, p.1 ≠ It) → (∀ p ∈ own, p.1 = It ∨ p.1 = r) → (∃ o, (It, o) ∈ own) → Fr h₀ env.locals h (fun z => if z = x then some v else if S.contains z then u z else mE y z) → News h₀ env.locals h (news₁ ++ own) →
      wpAny (model prog w) A (execs body env) (TurnPost h₀ env.locals It own S mE (I (i + 1)) { s with heap := h, toks := tk } Q) E { s with heap := h, toks := tk })
    (done : ∀ h tk y (u : Str → Option Value) news', Fr h₀ env.locals h (fun z => if S.contains z then u z else mE y z) → News h₀ env.locals h news' → I items.size y news' → Q .next { s with heap := h, toks := tk }) :
    wpAny (model prog w) A (pyIter (.ref r)) (fun it s₂ => LoopAtV prog w A h₀ env x body Q E it s₂) E s := by
  obtain ⟨ol, hol, hol'⟩ := id hr
  have hlt := Heap.lt_size hol
  refine wpAny_pyIter_tuple hr ?_
  have W := Walks.tuple (prog := prog) (w := w) hh s.heap.objs.size r (Nat.ne_of_lt hlt) items
  refine loop_core W ?_ (next_is_new F) (fun p hp e => absurd (Heap.lt_size (N p hp).1) (e ▸ Nat.lt_irrefl _)) ?_ (List.mem_cons_self ..) ?_ (F.push _) (fun p hp => ⟨Heap.get?_push_of_some _ (N p hp).1, (N p hp).2⟩) S mE I x0 hm hI ?_ ?_
  · intro hm
    rcases List.mem_cons.mp hm with e | e
    · exact absurd F.ns.lt (e ▸ Nat.lt_irrefl _)
    · exact hrL (List.mem_singleton.mp e).symm
  · exact ⟨⟨_, Heap.get?_push_size _ rfl, rfl, rfl⟩, ⟨ol, Heap.get?_push_of_some _ hol, hol'⟩⟩
  · intro i h st; exact let ⟨o, ho, _⟩ := st.1; ⟨o, ho⟩
  · rintro i v y u news₁ h tk own hi hP hI₁ h1 h2 hIo F₁ N₁
    exact turn i v y u news₁ h tk _ own hP hI₁ h1 (fun p hp => by simpa using h2 p hp) hIo F₁ N₁
  · intro h tk y u news' F₁ N₁ hI₁
    exact done h tk y u news' F₁ N₁ hI₁

/-- over a list that the loop leaves as it is -/
theorem loop_list {r : Addr} {items : Array Value} {m : Str → Option Value} {news : List (Addr × Obj)} (hh : A.handled = none) (F : Fr h₀ env.locals s.heap m) (N : News h₀ env.locals s.heap news)
    (hr : s.heap.IsList r items) (hrL : r ≠ env.locals)
    (S : List Str) (mE : σ → Str → Option Value) (I : Nat → σ → List (Addr × Obj) → Prop) (x0 : σ) (hm : Agr S m (mE x0)) (hI : I 0 x0 news)
    (turn : ∀ i v y (u : Str → Option Value) news₁ h tk It own, items[i]? = some v → I i y news₁ → (∀ p ∈ news₁, p.1 ≠ It) → (∀ p ∈ own, p.1 = It ∨ p.1 = r) → (∃ o, (It, o) ∈ own) → Fr h₀ env.locals h (fun z => if z = x then some v else if S.contains z then u z else mE y z) → News h₀ env.locals h (news₁ ++ own) →
      wpAny (model prog w) A (execs body env) (TurnPost h₀ env.locals It own S mE (I (i + 1)) { s with heap := h, toks := tk } Q) E { s with heap := h, toks := tk })
    (done : ∀ h tk y (u : Str → Option Value) news', Fr h₀ env.locals h (fun z => if S.contains z then u z else mE y z) → News h₀ env.locals h news' → I items.size y news' → Q .next { s with heap := h, toks := tk }) :
    wpAny (model prog w) A (pyIter (.ref r)) (fun it s₂ => LoopAtV prog w A h₀ env x body Q E it s₂) E s := by
  obtain ⟨ol, hol, hol'⟩ := id hr
  have hlt := Heap.lt_size hol
  refine wpAny_pyIter_list hr ?_
  have W := Walks.list (prog := prog) (w := w) hh s.heap.objs.size r (Nat.ne_of_lt hlt) items
  refine loop_core W ?_ (next_is_new F) (fun p hp e => absurd (Heap.lt_size (N p hp).1) (e ▸ Nat.lt_irrefl _)) ?_ (List.mem_cons_self ..) ?_ (F.push _) (fun p hp => ⟨Heap.get?_push_of_some _ (N p hp).1, (N p hp).2⟩) S mE I x0 hm hI ?_ ?_
  · intro hm
    rcases List.mem_cons.mp hm with e | e
    · exact absurd F.ns.lt (e ▸ Nat.lt_irrefl _)
    · exact hrL (List.mem_singleton.mp e).symm
  · exact ⟨⟨_, Heap.get?_push_size _ rfl, rfl, rfl⟩, ⟨ol, Heap.get?_push_of_some _ hol, hol'⟩⟩
  · intro i h st; exact let ⟨o, ho, _⟩ := st.1; ⟨o, ho⟩
  · rintro i v y u news₁ h tk own hi hP hI₁ h1 h2 hIo F₁ N₁
    exact turn i v y u news₁ h tk _ own hP hI₁ h1 (fun p hp => by simpa using h2 p hp) hIo F₁ N₁
  · intro h tk y u news' F₁ N₁ hI₁
    exact done h tk y u news' F₁ N₁ hI₁

/-- over the keys of a dict of int keys that the loop leaves as it is -/
theorem loop_keys {r : Addr} {kvs : List (Int × Value)} {m : Str → Option Value} {news : List (Addr × Obj)} (hh : A.handled = none) (F : Fr h₀ env.locals s.heap m) (N : News h₀ env.locals s.heap news)
    (hr : s.heap.DictOf (intKind prog w) r kvs) (hsys : (r == sysModules) = false) (hrL : r ≠ env.locals)
    (S : List Str) (mE : σ → Str → Option Value) (I : Nat → σ → List (Addr × Obj) → Prop) (x0 : σ) (hm : Agr S m (mE x0)) (hI : I 0 x0 news)
    (turn : ∀ i k t val y (u : Str → Option Value) news₁ h tk It own, kvs[i]? = some (k, val) → I i y news₁ → (∀ p ∈ news₁, p.1 ≠ It) → (∀ p ∈ own, p.1 = It ∨ p.1 = r) → (∃ o, (It, o) ∈ own) → Fr h₀ env.locals h (fun z => if z = x then some (.int k t) else if S.contains z then u z else mE y z) → News h₀ env.locals h (news₁ ++ own) →
      wpAny (model prog w) A (execs body env) (TurnPost h₀ env.locals It own S mE (I (i + 1)) { s with heap := h, toks := tk } Q) E { s with heap := h, toks := tk })
    (done : ∀ h tk y (u : Str → Option Value) news', Fr h₀ env.locals h (fun z => if S.contains z then u z else mE y z) → News h₀ env.locals h news' → I kvs.length y news' → Q .next { s with heap := h, toks := tk }) :
    wpAny (model prog w) A (pyIter (.ref r)) (fun it s₂ => LoopAtV prog w A h₀ env x body Q E it s₂) E s := by
  obtain ⟨ep, hat⟩ := hr.dictAt
  have hlt := hat.lt_size
  refine wpAny_pyIter_dict hsys hat ?_
  have W := Walks.dictKeys (prog := prog) (w := w) (knd := intKind prog w) hh s.heap.objs.size r (Nat.ne_of_lt hlt) kvs ep
  refine loop_core W ?_ (next_is_new F) (fun p hp e => absurd (Heap.lt_size (N p hp).1) (e ▸ Nat.lt_irrefl _)) ?_ (List.mem_cons_self ..) ?_ (F.push _) (fun p hp => ⟨Heap.get?_push_of_some _ (N p hp).1, (N p hp).2⟩) S mE I x0 hm hI ?_ ?_
  · intro hm
    rcases List.mem_cons.mp hm with e | e
    · exact absurd F.ns.lt (e ▸ Nat.lt_irrefl _)
    · exact hrL (List.mem_singleton.mp e).symm
  · exact ⟨⟨_, Heap.get?_push_size _ rfl, rfl, rfl⟩, hat.push _⟩
  · intro i h st; exact let ⟨o, ho, _⟩ := st.1; ⟨o, ho⟩
  · rintro i v y u news₁ h tk own hi ⟨k, val, hk, hv⟩ hI₁ h1 h2 hIo F₁ N₁
    have : ∃ t, v = .int k t := by
      cases v <;> simp [intKind, Value.isInt] at hv
      exact ⟨_, by rw [hv]⟩
    obtain ⟨t, rfl⟩ := this
    exact turn i k t val y u news₁ h tk _ own hk hI₁ h1 (fun p hp => by simpa using h2 p hp) hIo F₁ N₁
  · intro h tk y u news' F₁ N₁ hI₁
    exact done h tk y u news' F₁ N₁ hI₁
end
end

section
open PySem.Calls
set_option maxRecDepth 100000
/-! assoc lists by int keys, with their order -/
section
variable {α : Type}
noncomputable def gG (l : List (Int × α)) (k : Int) : Option α := (l.find? fun p => decide (p.1 = k)).map (·.2)
noncomputable def stG (l : List (Int × α)) (k : Int) (v : α) : List (Int × α) :=
  if l.any (fun p => decide (p.1 = k)) then l.map (fun p => if p.1 = k then (p.1, v) else p) else l ++ [(k, v)]
theorem gG_map {β : Type} (f : α → β) (l : List (Int × α)) (k : Int) : gG (l.map fun p => (p.1, f p.2)) k = (gG l k).map f := by
  induction l with
  | nil => rfl
  | cons p r ih =>
    simp only [gG, List.map_cons, List.find?_cons] at ih ⊢
    by_cases h : p.1 = k
    · simp [h]
    · simp only [h, decide_false]; exact ih
theorem stG_map {β : Type} (f : α → β) (l : List (Int × α)) (k : Int) (v : α) : stG (l.map fun p => (p.1, f p.2)) k (f v) = (stG l k v).map fun p => (p.1, f p.2) := by
  unfold stG
  have e : ((l.map fun p => (p.1, f p.2)).any fun p => decide (p.1 = k)) = l.any fun p => decide (p.1 = k) := by rw [List.any_map]; rfl
  rw [e]
  split
  · rw [List.map_map, List.map_map]
    congr 1; funext p
    simp only [Function.comp]
    by_cases h : p.1 = k <;> simp [h]
  · simp
theorem stG_length_le (l : List (Int × α)) (k : Int) (v : α) : (stG l k v).length ≤ l.length + 1 := by unfold stG; split <;> simp
theorem gG_stG (l : List (Int × α)) (k j : Int) (v : α) : gG (stG l k v) j = if j = k then some v else gG l j := by
  unfold stG
  by_cases ha : (l.any fun p => decide (p.1 = k)) = true
  · rw [if_pos ha]
    induction l with
    | nil => cases ha
    | cons p r ih =>
      simp only [List.map_cons, gG, List.find?_cons]
      by_cases hp : p.1 = k
      · subst hp
        by_cases hj : j = p.1
        · subst hj; simp
        · have : ¬ p.1 = j := fun e => hj e.symm
          simp only [if_true, this, decide_false, hj, if_false]
          clear ih ha
          induction r with
          | nil => rfl
          | cons q r ih =>
            simp only [List.map_cons, List.find?_cons]
            by_cases hq : q.1 = p.1
            · have : ¬ q.1 = j := fun e => hj (by rw [← e, hq])
              simp [hq, this, ‹¬ p.1 = j›]
              simpa using ih
            · by_cases hqj : q.1 = j
              · have : ¬ j = p.1 := hj
                simp [hqj, this]
              · simp only [hq, if_false, hqj, decide_false]; exact ih
      · have hr : (r.any fun p => decide (p.1 = k)) = true := by simpa [hp] using ha
        simp only [if_neg hp]
        by_cases hpj : p.1 = j
        · have : ¬ j = k := fun e => hp (hpj.trans e)
          simp [hpj, this]
        · simp only [hpj, decide_false]
          exact ih hr
  · rw [if_neg ha]
    have hno : ∀ p ∈ l, ¬ p.1 = k := by
      intro p hp e
      exact ha (List.any_eq_true.mpr ⟨p, hp, by simpa using e⟩)
    unfold gG
    rw [List.find?_append]
    by_cases hj : j = k
    · subst hj
      have : l.find? (fun p => decide (p.1 = j)) = none := by
        rw [List.find?_eq_none]; intro p hp h; exact hno p hp (of_decide_eq_true h)
      simp [this]
    · have : ¬ k = j := fun e => hj e.symm
      simp only [if_neg hj]
      cases h : l.find? (fun p => decide (p.1 = j)) with
      | some x => simp
      | none => simp [this]
theorem mem_stG {l : List (Int × α)} {k : Int} {v : α} {p : Int × α} (h : p ∈ stG l k v) : p = (k, v) ∨ p ∈ l := by
  unfold stG at h
  split at h
  · obtain ⟨q, hq, rfl⟩ := List.mem_map.mp h
    by_cases e : q.1 = k
    · left; simp [e]
    · right; simpa [e] using hq
  · rcases List.mem_append.mp h with h | h
    · exact .inr h
    · exact .inl (List.mem_singleton.mp h)
theorem stG_keys (l : List (Int × α)) (k : Int) (v : α) (hn : (l.map (·.1)).Nodup) : ((stG l k v).map (·.1)).Nodup := by
  unfold stG
  split
  · have : (l.map fun p => if p.1 = k then (p.1, v) else p).map (·.1) = l.map (·.1) := by
      rw [List.map_map]; congr 1; funext p; simp only [Function.comp]; split <;> rfl
    rw [this]; exact hn
  · rename_i h
    rw [List.map_append, List.nodup_append]
    refine ⟨hn, by simp, ?_⟩
    intro a ha b hb e
    simp at hb
    subst hb e
    obtain ⟨p, hp, e⟩ := List.mem_map.mp ha
    exact h (List.any_eq_true.mpr ⟨p, hp, by simpa using e⟩)
theorem gG_of_get {l : List (Int × α)} (hn : (l.map (·.1)).Nodup) {i : Nat} {k : Int} {v : α} (h : l[i]? = some (k, v)) : gG l k = some v := by
  induction l generalizing i with
  | nil => simp at h
  | cons p r ih =>
    rw [List.map_cons, List.nodup_cons] at hn
    cases i with
    | zero => simp at h; subst h; simp [gG]
    | succ j =>
      simp only [List.getElem?_cons_succ] at h
      have hne : ¬ p.1 = k := fun e => hn.1 (List.mem_map.mpr ⟨(k, v), List.mem_of_getElem? h, e.symm⟩)
      have := ih hn.2 h
      simpa [gG, List.find?_cons, hne] using this
end

/-- the dict's pairs: ints by ints -/
noncomputable def dv (g : List (Int × Int × Tok)) : List (Int × Value) := g.map fun p => (p.1, Value.int p.2.1 p.2.2)
noncomputable def de (g : List (Int × Int × Tok)) : List (Int × Int) := g.map fun p => (p.1, p.2.1)
theorem valueAt_gG (l : List (Int × Value)) (k : Int) : valueAt l k = gG l k := rfl
theorem stored_stG (l : List (Int × Value)) (k : Int) (v : Value) : stored l k v = stG l k v := rfl
theorem dv_st (g : List (Int × Int × Tok)) (k n : Int) (t : Tok) : stored (dv g) k (.int n t) = dv (stG g k (n, t)) := by
  rw [stored_stG]; exact stG_map (fun q : Int × Tok => Value.int q.1 q.2) g k (n, t)
theorem de_st (g : List (Int × Int × Tok)) (k n : Int) (t : Tok) : de (stG g k (n, t)) = stG (de g) k n := (stG_map (fun q : Int × Tok => q.1) g k (n, t)).symm
theorem dv_get (g : List (Int × Int × Tok)) (k : Int) (t : Tok) : ∃ t', (valueAt (dv g) k).getD (.int 0 t) = .int ((gG (de g) k).getD 0) t' := by
  have e1 : valueAt (dv g) k = (gG g k).map (fun q : Int × Tok => Value.int q.1 q.2) := gG_map (fun q : Int × Tok => Value.int q.1 q.2) g k
  have e2 : gG (de g) k = (gG g k).map (fun q : Int × Tok => q.1) := gG_map (fun q : Int × Tok => q.1) g k
  rw [e1, e2]
  cases gG g k with
  | none => exact ⟨t, rfl⟩
  | some q => exact ⟨q.2, rfl⟩

section
variable {prog : Program} {w : World} {A : Around} {E : Value → Shared → Prop} {s : Shared} {h₀ : Heap} {L d : Addr} {m : Str → Option Value} {news : List (Addr × Obj)} {o : Obj}
theorem isDict_nil : Obj.IsDictOf (intKind prog w) (dictOf [] 0) [] := ⟨#[], 0, ⟨rfl, rfl, rfl⟩, rfl, fun _ h => by simp at h, .nil, .nil⟩
theorem kdgI {pl : Sem Bool} {Q : Value × List Value → Shared → Prop} {kvs : List (Int × Value)} (N : News h₀ L s.heap news) (hp : (d, o) ∈ news) (hd : o.IsDictOf (intKind prog w) kvs) (h : Q (.builtin "dict.get", [.ref d]) s) : wpAny (model prog w) A (getMethod (.ref d) "get" pl) Q E s := kdg_method (knd := intKind prog w) N hp hd h
theorem isDict_nodup {K : Type} [DecidableEq K] {knd : KeyKind prog w K} {kvs : List (K × Value)} (h : o.IsDictOf knd kvs) : (kvs.map (·.1)).Nodup := by
  obtain ⟨_, _, _, _, _, _, hn⟩ := h
  exact hn
theorem idict_get {g : List (Int × Int × Tok)} {k : Int} {t u : Tok} {Q : Value → Shared → Prop} (N : News h₀ L s.heap news) (hp : (d, o) ∈ news) (hd : o.IsDictOf (intKind prog w) (dv g)) (lo : (d == sysModules) = false)
    (h : ∀ t', Q (.int ((gG (de g) k).getD 0) t') { s with toks := s.toks + 1 }) : wpAny (model prog w) A (call (.builtin "dict.get") [.ref d, .int k u, .int 0 t]) Q E s := by
  obtain ⟨t', e⟩ := dv_get g k t
  exact kdg_get2 (knd := intKind prog w) N hp hd lo (intKind_is prog w k u) _ rfl (by rw [e]; exact h t')
theorem idict_set {g : List (Int × Int × Tok)} {k n : Int} {t u : Tok} {g' : Obj → List (Addr × Obj)} {Q : Unit → Shared → Prop} (F : Fr h₀ L s.heap m) (N : News h₀ L s.heap news) (U : UpdF d o news g') (hd : o.IsDictOf (intKind prog w) (dv g)) (hsz : g.length ≤ 100000)
    (h : ∀ h' o', Fr h₀ L h' m → News h₀ L h' (g' o') → o'.IsDictOf (intKind prog w) (dv (stG g k (n, t))) → Q () { s with heap := h', toks := s.toks + 1 }) : wpAny (model prog w) A (setItem (.ref d) (.int k u) (.int n t)) Q E s :=
  kda_set F N U hd (intKind_is prog w k u) (by rw [sizeLine_eq]; simp only [dv, List.length_map]; omega) (fun h' o' F' N' hd' => h h' o' F' N' (by rw [dv_st] at hd'; exact hd'))
end

/-! dicts by tuples of three ints -/
noncomputable abbrev tupO (vs : List Value) (n : Nat) : Obj := { cls := .type "tuple", data := .seq vs.toArray n }
noncomputable abbrev K3 := Int × Int × Int
noncomputable def k3 (k : K3) : List Int := [k.1, k.2.1, k.2.2]
theorem k3_inj {a b : K3} (h : k3 a = k3 b) : a = b := by
  obtain ⟨a1, a2, a3⟩ := a; obtain ⟨b1, b2, b3⟩ := b
  simp [k3] at h; simp [h]
/-- the ledger bears at d a dict by tuples: keys, the tuples' places, the values -/
structure TK (prog : Program) (w : World) (led : List (Addr × Obj)) (d : Addr) (xs : List (K3 × Addr × Value)) : Prop where
  obj : ∃ es ep, (d, ({ cls := .type "dict", data := .dict es ep } : Obj)) ∈ led ∧ es.toList = xs.map (fun x => entryOfKey (tupleKind (intKind prog w)) (k3 x.1, x.2))
  keys : ∀ x ∈ xs, ∃ t1 t2 t3 n, (x.2.1, tupO [.int x.1.1 t1, .int x.1.2.1 t2, .int x.1.2.2 t3] n) ∈ led
  nodup : (xs.map (·.1)).Nodup
  sys : (d == sysModules) = false
theorem TK.mono {prog : Program} {w : World} {led led' : List (Addr × Obj)} {d : Addr} {xs : List (K3 × Addr × Value)} (H : TK prog w led d xs) (h : ∀ p ∈ led, p ∈ led') : TK prog w led' d xs :=
  ⟨let ⟨es, ep, h1, h2⟩ := H.obj; ⟨es, ep, h _ h1, h2⟩, fun x hx => let ⟨t1, t2, t3, n, h1⟩ := H.keys x hx; ⟨t1, t2, t3, n, h _ h1⟩, H.nodup, H.sys⟩
noncomputable def atK (xs : List (K3 × Addr × Value)) (k : K3) : Option Value := (xs.find? fun x => decide (x.1 = k)).map (·.2.2)
theorem atK_is (xs : List (K3 × Addr × Value)) (k : K3) : ((atKey (xs.map fun x => (k3 x.1, x.2)) (k3 k)).map (·.2)) = atK xs k := by
  induction xs with
  | nil => rfl
  | cons x r ih =>
    simp only [atKey, atK, List.map_cons, List.find?_cons] at ih ⊢
    by_cases h : x.1 = k
    · simp [h]
    · have : ¬ k3 x.1 = k3 k := fun e => h (k3_inj e)
      simp only [h, this, decide_false]; exact ih
section
variable {prog : Program} {w : World} {A : Around} {E : Value → Shared → Prop} {s : Shared} {h h₀ : Heap} {L d T : Addr} {m : Str → Option Value} {led : List (Addr × Obj)} {xs : List (K3 × Addr × Value)}
theorem isKey_of {a b c : Int} {ta tb tc : Tok} {n : Nat} (N : News h₀ L h led) (hT : (T, tupO [.int a ta, .int b tb, .int c tc] n) ∈ led) : IsTupleKey (intKind prog w) h (k3 (a, b, c)) T :=
  ⟨_, _, n, (N _ hT).1, rfl, rfl, .cons (intKind_is ..) (.cons (intKind_is ..) (.cons (intKind_is ..) .nil))⟩
theorem TK.dictOf (H : TK prog w led d xs) (N : News h₀ L h led) : h.DictOfH (tupleKind (intKind prog w)) d (xs.map fun x => (k3 x.1, x.2)) := by
  obtain ⟨es, ep, h1, h2⟩ := H.obj
  refine ⟨_, es, ep, (N _ h1).1, ⟨rfl, rfl, rfl⟩, rfl, by rw [h2, List.map_map]; rfl, ?_, ?_⟩
  · intro y hy
    obtain ⟨x, hx, rfl⟩ := List.mem_map.mp hy
    obtain ⟨t1, t2, t3, n, hk⟩ := H.keys x hx
    exact isKey_of N hk
  · rw [List.map_map]
    have := H.nodup
    rw [show (List.map ((fun x : List Int × Addr × Value => x.1) ∘ fun x : K3 × Addr × Value => (k3 x.1, x.2)) xs) = (xs.map (·.1)).map k3 by rw [List.map_map]; rfl]
    exact List.Pairwise.map _ (fun a b hab e => hab (k3_inj e)) this
theorem tk_get {a b c : Int} {ta tb tc : Tok} {n : Nat} {dflt : Value} {Q : Value → Shared → Prop} (N : News h₀ L s.heap led) (H : TK prog w led d xs) (hT : (T, tupO [.int a ta, .int b tb, .int c tc] n) ∈ led) (hu : A.units + 1 < cLine)
    (h : Q ((atK xs (a, b, c)).getD dflt) { s with toks := s.toks + 4 }) : wpAny (model prog w) A (call (.builtin "dict.get") [.ref d, .ref T, dflt]) Q E s := by
  have hD := H.dictOf N
  refine call_meetsIn PySem.F.slot_dict_get hD.typeIs PySem.F.entry_dict_get (PySem.F.args_dict_get_3 _ _ _) (meetsH_dict_get_default (tupleKind (intKind prog w)) d T H.sys dflt) ⟨?_, k3 (a, b, c), _, isKey_of N hT, hD, ?_⟩
  · exact tupleKind_room_in1 (by simpa using hu)
  · rw [atK_is]; exact h
theorem tk_method {pl : Sem Bool} {Q : Value × List Value → Shared → Prop} (N : News h₀ L s.heap led) (H : TK prog w led d xs) (h : Q (.builtin "dict.get", [.ref d]) s) : wpAny (model prog w) A (getMethod (.ref d) "get" pl) Q E s := by
  have hD := H.dictOf N
  obtain ⟨es, ep, h1, h2⟩ := H.obj
  exact getMethod_builtin hD.typeIs PySem.F.plainAttrs_dict PySem.F.slot_dict_get PySem.F.type_dict_get (fun b e => by cases e; exact ⟨_, (N _ h1).1, rfl⟩) h
end
end


/-! the walk's lines, made by plain definitions (a quoted line is dear: see NOTES) -/
abbrev TM := Lean.MacroM (Lean.TSyntax `tactic)
abbrev TT := Lean.MacroM (Lean.TSyntax `term)
def has (a b : String) : Bool := (a.splitOn ("|" ++ b ++ "|")).length > 1
def hid (n : Lean.Name) : Lean.MacroM Lean.Ident := return Lean.mkIdent (← Lean.Macro.addMacroScope n)
def nt (k : Lean.Name) (a : String) (xs : Array Lean.Syntax := #[]) : TM := do
  let i := Lean.SourceInfo.fromRef (← Lean.MonadRef.getRef)
  return ⟨.node i k (#[.atom i a] ++ xs)⟩
def opt0 : Lean.Syntax := .node .none ``Lean.Parser.Tactic.optConfig #[.node .none `null #[]]
def hole : TT := `(_)
def apA (f : Lean.Name) (as : Array (Lean.TSyntax `term)) : TT := do
  let f := Lean.mkIdent f
  if as.isEmpty then return f else `($f $as*)
def asmT : TM := nt ``Lean.Parser.Tactic.assumption "assumption"
def rflT : TM := nt ``Lean.Parser.Tactic.tacticRfl "rfl"
def wsub (n : String) : TM := nt ``PyProof.Rows.tacticWalk_at_ "walk_at" #[Lean.Syntax.mkStrLit ("mine " ++ n)]
def thn (a b : TM) : TM := do
  let a ← a
  let b ← b
  `(tactic| ($a; $b))
def oth (a b : TM) : TM := do
  let a ← a
  let b ← b
  `(tactic| first | $a:tactic | $b:tactic)
def inA (as : Array (Lean.TSyntax `term)) : TM := `(tactic| intro $as*)
def inw (n : Nat) : TM := do inA (Array.replicate n (← hole))
def wr (t : TM) : TM := do nt ``Lean.Parser.Tactic.withReducible "with_reducible" #[← seq1 (← t)]
where seq1 (t : Lean.TSyntax `tactic) : Lean.MacroM Lean.Syntax := return .node .none ``Lean.Parser.Tactic.tacticSeq #[.node .none ``Lean.Parser.Tactic.tacticSeq1Indented #[.node .none `null #[t.raw]]]
def trT (t : TM) : TM := do nt ``Lean.Parser.Tactic.tacticTry_ "try" #[← wr.seq1 (← t)]
def tacW (c : Char) : TM := match c with
  | 'a' => nt ``PySem.W.tacticK_asm "k_asm"
  | 'm' => nt ``PySem.W.tacticK_mem "k_mem"
  | 'o' => nt ``Lean.Parser.Tactic.omega "omega" #[opt0]
  | 's' => asmT
  | 'r' => rflT
  | 'f' => nt ``PySem.W.tacticK_updF "k_updF"
  | 'k' => nt ``PySem.W.tacticK_is "k_is"
  | 'e' => nt ``PySem.W.tacticKf_find "kf_find"
  | 'c' => nt ``PySem.W.tacticKf_int "kf_int"
  | 'D' => nt ``Lean.Parser.Tactic.decide "decide" #[opt0]
  | 'd' => `(tactic| decide +kernel)
  | 'i' => thn (inw 1) rflT
  | 'S' => oth asmT rflT
  | 'b' => wsub "sub"
  | 'u' => wsub "units"
  | _ => wsub "room"
def tm0 (c : Char) : TT := do
  if c == '_' then return ← hole
  if c == '?' then return ← `(?_)
  let t ← tacW c
  `(by $t:tactic)
def ap0 (f : Lean.Name) (spec : String) : TT := do apA f (← spec.toList.toArray.mapM tm0)
def tmW (c : Char) : TT := match c with
  | 'F' => return ⟨(← hid `kF).raw⟩
  | 'n' => return Lean.mkIdent ``PassesOwn.never
  | 'I' => ap0 ``intKind_is "____"
  | 'T' => ap0 ``TK.mono "ab"
  | 'L' => ap0 ``News.isList "am"
  | 'B' => ap0 ``Nat.le_of_ble_eq_true "r"
  | c => tm0 c
def rf (f : Lean.Name) (spec : String) : TM := do
  let t ← apA f (← spec.toList.toArray.mapM tmW)
  `(tactic| refine $t)
def dsT : TM := do trT (`(tactic| dsimp only))
def here (t : TM) : Lean.MacroM Lean.Syntax := do return (← thn (nt ``PySem.W.tacticK_here "k_here") t).raw
/-- names for what comes back, the facts of order among them looked through -/
def ord (n k : Nat) (two : Bool) (t : TM) : TM := do
  let x ← hid `l1
  let y ← hid `l2
  let w ← hole
  let lt := nt ``PySem.W.tacticK_lt_ "k_lt" #[x.raw]
  let as := Array.replicate n w ++ (if two then #[⟨x.raw⟩, ⟨y.raw⟩] else #[⟨x.raw⟩]) ++ Array.replicate k w
  thn t (thn (inA as) (if two then thn lt (nt ``PySem.W.tacticK_lt2_ "k_lt2" #[y.raw]) else thn (trT lt) (trT (nt ``PySem.W.tacticK_sweep "k_sweep"))))
def inN (n k : Nat) : TM := do
  let x ← hid `N'
  let w ← hole
  thn (inA (Array.replicate n w ++ #[⟨x.raw⟩] ++ Array.replicate k w)) (trT (`(tactic| dsimp only at $x:ident)))
def stopT : TM := rf ``stopHere "?"
def stp (a : String) (s : Lean.TSyntax `str) : Lean.MacroM Lean.Syntax := if has a s.getString then here stopT else Lean.Macro.throwUnsupported
def rnT (g : TT) (x : Lean.Name) : TM := do
  let g ← g
  let x ← hid x
  wr (`(tactic| rename $g => $x))
def mkd (g : Lean.Name) (t : TM) : TM := thn (rnT (apA g #[]) `stX) t
def frT (t : TM) : TM := thn (rnT (ap0 ``Fr "____") `kF) t
def fvT : TM := rf ``For_invVF "Frr?in"
def ftT : TM := rf ``For_invTF "F?in"
def fvf (a : String) (s : Lean.TSyntax `str) : Lean.MacroM Lean.Syntax := if has a s.getString then here (frT fvT) else Lean.Macro.throwUnsupported
def crT (n : Nat) (t : TM) : TM := do
  let w ← hole
  let g ← apA ``wpAny #[w, w, ← apA ``call #[← apA ``Value.ref #[Lean.quote n], w], w, w, w]
  thn (wr (`(tactic| show $g))) t
def kallT : TM := oth asmT (oth (rf ``ne_of_ltAll "s") (rf ``ne_of_AllLt "s"))
def kmemT : TM := thn (rf ``mem_id "?") (nt ``PySem.W.tacticKtr_member "ktr_member")
def agrT : TM := do
  let t ← oth (wr (rf ``Agr.rfl "")) (oth (rf ``Agr.set "?r") (oth (rf ``Agr.scr "?r") (rf ``Agr.rfl "")))
  `(tactic| repeat $t:tactic)
local macro_rules | `(tactic| walk_at "mine sub") => oth asmT (oth (rf ``sub_rf "") (oth (rf ``sub_nil "") (oth (thn (rf ``sub_tl "?") (wsub "sub")) (rf ``sub_cons "mb"))))
local macro_rules | `(tactic| walk_at "mine agr") => agrT
local macro_rules | `(tactic| walk_at "mine units") => `(tactic| (simp only [depth_deeper, depth_in1, Around.deeper_units, Around.in1_units, cLine]; omega))
section
local macro_rules | `(tactic| k_all) => kallT
local macro_rules | `(tactic| k_mem) => kmemT
local macro_rules | `(tactic| walk_at "mine room") => rf ``Room.mk "ruu"

section
open PySem.Calls
set_option maxRecDepth 100000
/-! what ways reckons -/
noncomputable def cntP (cs : List (K3 × Int)) (k : K3) : Int := ((cs.find? fun x => decide (x.1 = k)).map (·.2)).getD 0
noncomputable def wGoal (C : K3 → Int) (sym spot val : Int) (later : List (Int × Int)) (goal : Int) : List (Int × Int) :=
  if C (sym, spot, goal) > 0 then stG later goal ((gG later goal).getD 0 + val * C (sym, spot, goal)) else later
noncomputable def wLeaf (word : List Int) (e sym : Int) (later : List (Int × Int)) (p : Int × Int) : List (Int × Int) :=
  if p.1 < e ∧ word.getD p.1.toNat 0 = sym then stG later (p.1 + 1) ((gG later (p.1 + 1)).getD 0 + p.2) else later
noncomputable def wSpot (C : K3 → Int) (word : List Int) (e sym : Int) (later : List (Int × Int)) (p : Int × Int) : List (Int × Int) :=
  (List.range (e + 1 - p.1).toNat).foldl (fun l (i : Nat) => wGoal C sym p.1 p.2 l (p.1 + i)) (wLeaf word e sym later p)
noncomputable def wStep (C : K3 → Int) (word : List Int) (e : Int) (reach : List (Int × Int)) (sym : Int) : List (Int × Int) := reach.foldl (wSpot C word e sym) []
noncomputable def waysP (C : K3 → Int) (word : List Int) (b e : Int) (right : List Int) : Int := (gG (right.foldl (wStep C word e) [(b, 1)]) e).getD 0

noncomputable def tv (l : List (Int × Tok)) : List Value := l.map fun p => .int p.1 p.2
noncomputable def ti (l : List (Int × Tok)) : List Int := l.map (·.1)
noncomputable def cx (cs : List (K3 × Addr × Int × Tok)) : List (K3 × Addr × Value) := cs.map fun c => (c.1, c.2.1, .int c.2.2.1 c.2.2.2)
noncomputable def ci (cs : List (K3 × Addr × Int × Tok)) : List (K3 × Int) := cs.map fun c => (c.1, c.2.2.1)
theorem cx_get (cs : List (K3 × Addr × Int × Tok)) (k : K3) (t : Tok) : ∃ t', (atK (cx cs) k).getD (.int 0 t) = .int (cntP (ci cs) k) t' := by
  induction cs with
  | nil => exact ⟨t, rfl⟩
  | cons c r ih =>
    by_cases h : c.1 = k
    · exact ⟨c.2.2.2, by simp [atK, cx, ci, cntP, h]⟩
    · obtain ⟨t', e⟩ := ih
      refine ⟨t', ?_⟩
      simp only [atK, cx, ci, cntP, List.map_cons, List.find?_cons, h, decide_false] at e ⊢
      exact e

section
variable {prog : Program} {w : World} {A : Around} {E : Value → Shared → Prop} {s : Shared} {h h₀ : Heap} {L d T : Addr} {m : Str → Option Value} {led : List (Addr × Obj)}
theorem cntP_bd {cs : List (K3 × Addr × Int × Tok)} (hc : ∀ c ∈ cs, 0 ≤ c.2.2.1 ∧ c.2.2.1 ≤ 1000) (k : K3) : 0 ≤ cntP (ci cs) k ∧ cntP (ci cs) k ≤ 1000 := by
  induction cs with
  | nil => simp [cntP, ci]
  | cons c r ih =>
    by_cases h : c.1 = k
    · have := hc c (.head _)
      simpa [ci, cntP, h] using this
    · have := ih fun d hd => hc d (.tail _ hd)
      simp only [ci, cntP, List.map_cons, List.find?_cons, h, decide_false] at this ⊢
      exact this
theorem cx_call {cs : List (K3 × Addr × Int × Tok)} {a b c : Int} {ta tb tc t : Tok} {n : Nat} {Q : Value → Shared → Prop} {tl : List (Addr × Obj)} (H : TK prog w tl d (cx cs)) (N : News h₀ L s.heap led) (hs : ∀ p ∈ tl, p ∈ led) (hT : (T, tupO [.int a ta, .int b tb, .int c tc] n) ∈ led) (hu : A.units + 1 < cLine)
    (hc : ∀ c ∈ cs, 0 ≤ c.2.2.1 ∧ c.2.2.1 ≤ 1000)
    (h : ∀ t', 0 ≤ cntP (ci cs) (a, b, c) → cntP (ci cs) (a, b, c) ≤ 1000 → Q (.int (cntP (ci cs) (a, b, c)) t') { s with toks := s.toks + 4 }) : wpAny (model prog w) A (call (.builtin "dict.get") [.ref d, .ref T, .int 0 t]) Q E s := by
  obtain ⟨t', e⟩ := cx_get cs (a, b, c) t
  exact tk_get N (H.mono hs) hT hu (by rw [e]; exact h t' (cntP_bd hc _).1 (cntP_bd hc _).2)
theorem tup_item {value slice : PySem.Expr} {ws : List (Int × Tok)} {n : Nat} {k : Int} {u : Tok} {Q : Value → Shared → Prop} (N : News h₀ L s.heap led) (hT : (T, tupO (tv ws) n) ∈ led) (h0 : 0 ≤ k) (hk : k < ws.length) (hl : ws.length ≤ 100000)
    (h : ∀ t, Q (.int ((ti ws).getD k.toNat 0) t) s) (hs : subscripted slice false (.ref T) (.int k u) = operate [.ref T, .int k u] (getItem (.ref T) (.int k u)) := by with_unfolding_all rfl) :
    wpAny (model prog w) A (subscriptTail value slice (.ref T) (.int k u)) Q E s := by
  have hj : k.toNat < ws.length := by omega
  refine item_tupleT (j := k.toNat) (l := tv ws) (x := .int ((ti ws).getD k.toNat 0) (ws[k.toNat]'hj).2) ⟨_, (N _ hT).1, rfl, n, rfl⟩ (by omega) (by omega) ?_ ?_ (h _) hs
  · unfold seqIndex?
    simp only [tv, List.length_map]
    (repeat' split) <;> first | omega | rfl | skip
    all_goals simp_all
  · simp [tv, ti, hj]
end


noncomputable def waysM (r wd C : Addr) (b e : Int) (tb te : Tok) : Str → Option Value := fun z => List.lookup z (List.reverse ([(Str.ofString "right", .ref r), (Str.ofString "word", .ref wd), (Str.ofString "begin", .int b tb), (Str.ofString "end", .int e te), (Str.ofString "counts", .ref C)] : List (Str × Value)))
section
local macro_rules | `(tactic| walk_at $s) => stp "|pyIter ref|" s
local macro_rules | `(tactic| walk_at $s) => fvf "|exec For Name Name cons nil|exec For Name Call cons nil|" s
local macro_rules | `(tactic| walk_at "subscriptTail Name Name ref int") => here (oth (thn (rf ``tup_item "amooo?") (inw 1)) (rf ``kda_item "amaIs?"))
local macro_rules | `(tactic| walk_at "getMethod ref") => here (oth (rf ``kdgI "ama?") (rf ``tk_method "aT?"))
local macro_rules | `(tactic| walk_at "call builtin:dict.get") => here (oth (thn (rf ``idict_get "amaa?") (inw 1)) (thn (rf ``cx_call "aabmua?") (inw 3)))
local macro_rules | `(tactic| walk_at "setItem ref int") => here (thn (rf ``idict_set "aafao?") (inN 3 1))

set_option maxHeartbeats 4000000 in
theorem ways_spec : ∀ {w : World} {A : Around} {s : Shared} {h₀ : Heap} {L : Addr} {m mg mb : Str → Option Value} {mean : ExcName → Option Value} {tl : List (Addr × Obj)} {r wd C : Addr} {rs ws : List (Int × Tok)} {nr nw : Nat} {b e : Int} {tb te : Tok} {cs : List (K3 × Addr × Int × Tok)} {Q E : Value → Shared → Prop}
    (_ : Room A 3) (_ : Fr h₀ L s.heap m) (_ : (hd.heap_1 w.params).In h₀) (_ : Top vw lse mean mg mb h₀) (_ : News h₀ L s.heap tl)
    (_ : (r, tupO (tv rs) nr) ∈ tl) (_ : (wd, tupO (tv ws) nw) ∈ tl) (_ : TK Challenge.rw_on0168_01.row.prog w tl C (cx cs))
    (_ : rs.length ≤ 3) (_ : ws.length ≤ 4) (_ : 0 ≤ b) (_ : b ≤ e) (_ : e ≤ ws.length) (_ : ∀ c ∈ cs, 0 ≤ c.2.2.1 ∧ c.2.2.1 ≤ 1000)
    (_ : ∀ t h' t', Fr h₀ L h' m → News h₀ L h' tl → Q (.int (waysP (cntP (ci cs)) (ti ws) b e (ti rs)) t) { s with heap := h', toks := t' }),
    wpAny (model Challenge.rw_on0168_01.row.prog w) A (call (.ref 212) [.ref r, .ref wd, .int b tb, .int e te, .ref C]) Q E s := by
  try row_walk
  k_fill
  intro w A s h₀ L m mg mb mean tl r wd C rs ws nr nw b e tb te cs Q E R F X T N hr hw hC hr3 hw4 hb hbe he hc ret
  obtain ⟨hh, dp, fr, gd, un⟩ := A
  obtain ⟨R1, R2, R3⟩ := R
  dsimp only at R1 R2 R3
  subst R1
  refine wpAny_call ?_
  refine enterN (binds := [(Str.ofString "right", .ref r), (Str.ofString "word", .ref wd), (Str.ofString "begin", .int b tb), (Str.ofString "end", .int e te), (Str.ofString "counts", .ref C)]) F X N T (by k_is) (by k_is) (by show dp < 1000; omega) (BindsTo.of_eq rfl) (locs rfl) ?_ rfl rfl rfl (by decide)
  intro g L' h' FG' F' N' X' T' l1
  change Fr g L' h' (waysM r wd C b e tb te) at F'
  (try dsimp only)
  k_fold
  k_steps
  refine kdn_eval (knd := intKind _ _) F' N' (Top.nolimit T') rfl rfl (List.cons_ne_nil _ _) (by decide) ?_
  intro R hR oR F1 N1 l2 lo2 hd2
  k_steps
  rename Fr _ _ _ _ => F2
  rename News _ _ _ _ => N2
  rename Obj => o2
  (with_reducible rename PyProof.V.FlatPairs _ _ _ => hff); clear hff
  rename Obj.IsDictOf _ _ _ => hd3
  have hne : ∀ p ∈ tl, p.1 ≠ R := ne_of_ltAll l2
  refine stopGo ?_
  refine loop_tuple (by rfl) F2 N2 (items := (tv rs).toArray) ⟨_, (N2 _ (.tail _ hr)).1, rfl, nr, rfl⟩ (N2 _ (.tail _ hr)).2.1
    [Str.ofString "symbol", Str.ofString "later", Str.ofString "spot", Str.ofString "goal", Str.ofString "many"]
    (fun y : Addr × List (Int × Int × Tok) => fun z => if z = Str.ofString "reach" then some (.ref y.1) else waysM r wd C b e tb te z)
    (fun i y news => ∃ o, news = (y.1, o) :: tl ∧ o.IsDictOf (intKind Challenge.rw_on0168_01.row.prog w) (dv y.2) ∧ (y.1 == sysModules) = false ∧ (∀ p ∈ tl, p.1 ≠ y.1) ∧ de y.2 = ((ti rs).take i).foldl (wStep (cntP (ci cs)) (ti ws) e) [(b, 1)] ∧ (∀ p ∈ y.2, b ≤ p.1 ∧ p.1 ≤ e) ∧ y.2.length ≤ 6 ^ i)
    (R, [(b, 1, _)]) Agr.rfl ⟨o2, rfl, hd3, lo2, hne, rfl, by intro p hp; rw [List.mem_singleton.mp hp]; exact ⟨Int.le_refl _, hbe⟩, by simp⟩ ?_ ?_
  · clear hd3 hne l2 lo2 F2 N2
    intro i v y u news₁ h tk It own hv hI hnit hown hItO F3 N3
    obtain ⟨R, gs⟩ := y
    obtain ⟨oR, rfl, hdR, loR, hne, hde, hrg, hlen⟩ := hI
    dsimp only at hdR loR hne hde hrg hlen
    have hi : i < rs.length := by
      have := (List.getElem?_eq_some_iff.mp (by simpa using hv)).1
      simpa [tv] using this
    obtain ⟨⟨sym, ts⟩, hq⟩ : ∃ q : Int × Tok, rs[i]? = some q := ⟨_, List.getElem?_eq_getElem hi⟩
    obtain rfl : v = .int sym ts := by simp [tv, hq] at hv; exact hv.symm
    simp only [List.cons_append] at N3
    have hs3 : ∀ p ∈ tl, p ∈ tl ++ own := sub_l
    have ho3 : ∀ p ∈ own, p ∈ tl ++ own := sub_r
    have hne3 : ∀ p ∈ tl ++ own, p.1 ≠ R := own_apart2 hown hne (hnit _ (.head _)) (hne _ hr)
    generalize tl ++ own = tl3 at N3 hs3 ho3 hne3
    have hr3' := hs3 _ hr
    have hw3 := hs3 _ hw
    have hC3 := hC.mono hs3
    k_unmd
    k_fold
    k_steps
    (with_reducible rename PyProof.V.FlatPairs _ _ _ => hff); clear hff
    (with_reducible rename PyProof.V.FlatPairs _ _ _ => hff); clear hff
    (with_reducible rename Obj.IsDictOf (PySem.strKind _ _) _ _ => hff); clear hff
    rename Fr _ _ _ _ => F4
    rename News _ _ _ _ => N4
    rename Obj.IsDictOf _ _ _ => hdD
    rename _ ∧ AllLt _ _ => l4
    rename (_ == sysModules) = false => loD
    rename Addr => D
    have hneD : ∀ p ∈ tl3, p.1 ≠ D := ne_of_AllLt l4.2
    have hRD : R ≠ D := Nat.ne_of_lt l4.1
    have h36 : gs.length ≤ 36 := Nat.le_trans hlen (Nat.pow_le_pow_right (n := 6) (j := 2) (by decide) (by omega))
    refine stopGo ?_
    refine loop_keys (by rfl) F4 N4 (kda_dict N4 (.tail _ (.head _)) hdR) loR (N4 _ (.tail _ (.head _))).2.1
      [Str.ofString "spot", Str.ofString "goal", Str.ofString "many"] (fun _ : List (Int × Int × Tok) => _)
      (fun j y news => ∃ o, news = (D, o) :: (R, oR) :: tl3 ∧ o.IsDictOf (intKind Challenge.rw_on0168_01.row.prog w) (dv y) ∧ de y = ((de gs).take j).foldl (wSpot (cntP (ci cs)) (ti ws) e sym) [] ∧ (∀ p ∈ y, b ≤ p.1 ∧ p.1 ≤ e) ∧ y.length ≤ 6 * j)
      [] Agr.rfl ⟨_, rfl, hdD, rfl, by simp, by simp⟩ ?_ ?_
    · clear F4 N4
      intro j k tk4 val y u4 news₁ h4 tk5 It4 own4 hk hI hnit4 hown4 hItO4 F5 N5
      obtain ⟨oD, rfl, hdD, hdey, hrgy, hleny⟩ := hI
      obtain ⟨n, t, hgj, rfl⟩ : ∃ n t, gs[j]? = some (k, n, t) ∧ val = .int n t := by
        simp only [dv, List.getElem?_map] at hk
        cases q : gs[j]? with
        | none => rw [q] at hk; cases hk
        | some p => rw [q] at hk; cases hk; exact ⟨_, _, rfl, rfl⟩
      have hval : valueAt (dv gs) k = some (.int n t) := gG_of_get (isDict_nodup hdR) hk
      have hkr := hrg _ (List.mem_of_getElem? hgj)
      have hj : j < gs.length := (List.getElem?_eq_some_iff.mp hgj).1
      dsimp only at hkr
      simp only [List.cons_append] at N5
      have hs5 : ∀ p ∈ tl3, p ∈ tl3 ++ own4 := sub_l
      have ho5 : ∀ p ∈ own4, p ∈ tl3 ++ own4 := sub_r
      have hne5 : ∀ p ∈ tl3 ++ own4, p.1 ≠ D := own_apart2 hown4 hneD (hnit4 _ (.head _)) hRD
      generalize tl3 ++ own4 = tl5 at N5 hs5 ho5 hne5
      have hr5 := hs5 _ hr3'
      have hw5 := hs5 _ hw3
      have hC5 := hC3.mono hs5
      refine exec_mid F5 [] (fun news => ∃ o' y', news = (D, o') :: (R, oR) :: tl5 ∧ o'.IsDictOf (intKind Challenge.rw_on0168_01.row.prog w) (dv y') ∧ de y' = wLeaf (ti ws) e sym (de y) (k, n) ∧ (∀ p ∈ y', b ≤ p.1 ∧ p.1 ≤ e) ∧ y'.length ≤ 6 * j + 1) ?_ ?_
      · k_fold
        k_steps
        · rename k < e => c1
          rename List.getD _ _ _ = sym => c2
          rename Obj.IsDictOf _ _ _ => hdn
          refine Mid.intro (by assumption) (by assumption) Agr.rfl ⟨_, _, rfl, hdn, ?_, ?_, ?_⟩
          · rw [de_st]; simp only [wLeaf]; rw [if_pos ⟨c1, c2⟩]
          · intro p hp
            rcases mem_stG hp with rfl | hp
            · dsimp only; omega
            · exact hrgy p hp
          · exact Nat.le_trans (stG_length_le _ _ _) (by omega)
        · rename List.getD _ _ _ ≠ sym => c2
          refine Mid.intro (by assumption) (by assumption) Agr.rfl ⟨_, _, rfl, hdD, ?_, hrgy, by omega⟩
          simp only [wLeaf]; rw [if_neg (fun h => c2 h.2)]
        · rename ¬ k < e => c2
          refine Mid.intro (by assumption) (by assumption) Agr.rfl ⟨_, _, rfl, hdD, ?_, hrgy, by omega⟩
          simp only [wLeaf]; rw [if_neg (fun h => c2 h.1)]
      · clear F5 N5 hdD hrgy hleny
        rintro h6 tk6 u6 news6 F6 N6 ⟨o6, y6, rfl, hdD, hde6, hrgy, hleny⟩
        k_fold
        k_steps
        refine stopGo ?_
        (rename IsRange _ _ _ _ _ _ _ _ => hR6)
        (with_reducible rename Fr _ _ _ _ => F6)
        (with_reducible rename News _ _ _ _ => N6)
        refine loop_range (by rfl) F6 N6 hR6 (range_small (by omega) (by omega) (by omega) (by omega)) (e + 1 - k).toNat (range_n _ _)
          [Str.ofString "goal", Str.ofString "many"] (fun _ : List (Int × Int × Tok) => _)
          (fun i y news => ∃ o, news = (D, o) :: (R, oR) :: tl5 ∧ o.IsDictOf (intKind Challenge.rw_on0168_01.row.prog w) (dv y) ∧ de y = (List.range i).foldl (fun l (i : Nat) => wGoal (cntP (ci cs)) sym k n l (k + i)) (de y6) ∧ (∀ p ∈ y, b ≤ p.1 ∧ p.1 ≤ e) ∧ y.length ≤ 6 * j + 1 + i)
          y6 Agr.rfl ⟨_, rfl, hdD, rfl, hrgy, by omega⟩ ?_ ?_
        · clear F6 N6 hR6 hdD hrgy hleny hde6
          intro i7 t7 y7 u7 news7 h7 tk7 It7 own7 hi7 hI hnit7 hown7 hItO7 F7 N7
          obtain ⟨o7, rfl, hdD, hde7, hrg7, hlen7⟩ := hI
          simp only [List.cons_append] at N7
          have hs7 : ∀ p ∈ tl5, p ∈ tl5 ++ own7 := sub_l
          have ho7 : ∀ p ∈ own7, p ∈ tl5 ++ own7 := sub_r
          have hne7 : ∀ p ∈ tl5 ++ own7, p.1 ≠ D := own_apart hown7 hne5 (hnit7 _ (.head _))
          generalize tl5 ++ own7 = tl7 at N7 hs7 ho7 hne7
          have hC7 := hC5.mono hs7
          k_unmd
          k_fold
          k_steps
          · rename cntP _ _ > 0 => c7
            rename Obj.IsDictOf _ _ _ => hdn
            refine TurnPost.ok (by assumption) (by assumption) _ ((D, _) :: (R, oR) :: tl5) (by walk_at "mine agr") ⟨_, rfl, hdn, ?_, ?_, ?_⟩ (by walk_at "mine sub") (by walk_at "mine sub") (ne_head hnit7)
            · rw [de_st, hde7, List.range_succ, List.foldl_append]
              simp only [List.foldl_cons, List.foldl_nil]
              rw [wGoal, if_pos c7]
            · intro p hp
              rcases mem_stG hp with rfl | hp
              · dsimp only; omega
              · exact hrg7 p hp
            · exact Nat.le_trans (stG_length_le _ _ _) (by omega)
          · rename ¬ _ > 0 => c7
            refine TurnPost.ok (by assumption) (by assumption) y7 ((D, _) :: (R, oR) :: tl5) (by walk_at "mine agr") ⟨_, rfl, hdD, ?_, hrg7, by omega⟩ (by walk_at "mine sub") (by walk_at "mine sub") (ne_head hnit7)
            rw [hde7, List.range_succ, List.foldl_append]
            simp only [List.foldl_cons, List.foldl_nil]
            rw [wGoal, if_neg c7]
        · clear F6 N6 hR6 hdD hrgy hleny
          rintro h8 tk8 y8 u8 news8 F8 N8 ⟨o8, rfl, hd8, hde8, hrg8, hlen8⟩
          k_unmd
          k_steps
          refine TurnPost.ok (by assumption) (by assumption) y8 ((D, _) :: (R, oR) :: tl3) (by walk_at "mine agr") ⟨_, rfl, hd8, ?_, hrg8, by omega⟩ ?_ ?_ (ne_head hnit4)
          · rw [hde8, hde6, hdey]
            have hgj' : (de gs)[j]? = some (k, n) := by simp [de, hgj]
            rw [take_foldl _ _ hgj']; rfl
          · exact sub_cons (.head _) (sub_cons (.tail _ (.head _)) (sub_tl (sub_tl hs5)))
          · exact sub_tl (sub_tl ho5)
    · clear F4 N4
      rintro h9 tk9 y9 u9 news9 F9 N9 ⟨o9, rfl, hd9, hde9, hrg9, hlen9⟩
      k_unmd
      k_steps
      refine TurnPost.ok (by assumption) (by assumption) (D, y9) ((D, o9) :: tl) ?_ ⟨_, rfl, hd9, loD, fun p hp => hneD p (hs3 p hp), ?_, hrg9, ?_⟩ ?_ ?_ ?_
      · refine Agr.cong ?_
        walk_at "mine agr"
      · have hq' : (ti rs)[i]? = some sym := by simp [ti, hq]
        rw [take_foldl _ _ hq', ← hde]
        show de y9 = _
        rw [hde9, wStep]
        have : (dv gs).length = (de gs).length := by simp [dv, de]
        rw [this, List.take_length]
      · have : (dv gs).length = gs.length := by simp [dv]
        show y9.length ≤ _
        rw [this] at hlen9
        rw [Nat.pow_succ]; omega
      · exact sub_cons (.head _) (sub_tl (sub_tl hs3))
      · exact sub_tl (sub_tl ho3)
      · exact ne_cons (fun e => by obtain ⟨o, ho⟩ := hItO; exact hneD _ (ho3 _ ho) e.symm) fun p hp => hnit p (.tail _ hp)
  · clear F2 N2
    rintro h9 tk9 ⟨R9, y9⟩ u9 news9 F9 N9 ⟨o9, rfl, hd9, lo9, hne9, hde9, hrg9, hlen9⟩
    k_unmd
    k_steps
    have e : (gG (de y9) e).getD 0 = waysP (cntP (ci cs)) (ti ws) b e (ti rs) := by
      unfold waysP
      dsimp only at hde9
      rw [hde9]
      have : (tv rs).toArray.size = (ti rs).length := by simp [tv, ti]
      rw [this, List.take_length]
    (try dsimp only)
    rw [e]
    exact ret _ _ _ (by assumption) (fun p hp => (by assumption : News h₀ L _ ((R9, o9) :: tl)) p (.tail _ hp))
end
end

section
open PySem.Calls
set_option maxRecDepth 100000
/-! what stands in the rows: marked trees and leaves -/
inductive Node where
  | tree (k : Int)
  | leaf (s : Int)
noncomputable def symName (s : Int) : Str := if s = 3 then Str.ofString "a" else Str.ofString "b"

inductive NodeIn (led : List (Addr × Obj)) : Value → Node → Prop
  | tree {x d : Addr} {es : List DictEntry} {n : Nat} {k : Int} {t : Tok} : (x, instObj 161 d) ∈ led → (d, dictOf es n) ∈ led → getL (Str.ofString "is_leaf") es = some none → getL (Str.ofString "rule") es = some (some (.int k t)) → NodeIn led (.ref x) (.tree k)
  | leaf {x d y c : Addr} {es es' : List DictEntry} {n n' : Nat} {s : Int} {t : Tok} : (s = 3 ∨ s = 4) → (x, instObj 196 d) ∈ led → (d, dictOf es n) ∈ led → getL (Str.ofString "is_leaf") es = some none → getL (Str.ofString "token") es = some (some (.ref y)) →
      (y, instObj 93 c) ∈ led → (c, dictOf es' n') ∈ led → getL (Str.ofString "kind") es' = some (some (.str (symName s) t)) → NodeIn led (.ref x) (.leaf s)

/-- an object that is no list -/
noncomputable def NL (o : Obj) : Prop := o.cls ≠ .type "list"
theorem nl_tup {vs : List Value} {n : Nat} : NL (tupO vs n) := by simp [NL]
theorem nl_dict {es : List DictEntry} {n : Nat} : NL (dictOf es n) := by simp [NL]
theorem nl_inst {C d : Addr} : NL (instObj C d) := by simp [NL]
theorem NodeIn.monoNL {led led' : List (Addr × Obj)} (hs : ∀ p ∈ led, NL p.2 → p ∈ led') {v : Value} {n : Node} (h : NodeIn led v n) : NodeIn led' v n := by
  cases h with
  | tree a b c d => exact .tree (hs _ a nl_inst) (hs _ b nl_dict) c d
  | leaf z a b c d e f g => exact .leaf z (hs _ a nl_inst) (hs _ b nl_dict) c d (hs _ e nl_inst) (hs _ f nl_dict) g

theorem Paired.imp {α β : Type} {F G : α → β → Prop} (h : ∀ a b, F a b → G a b) : ∀ {l₁ : List α} {l₂ : List β}, Paired F l₁ l₂ → Paired G l₁ l₂ := by
  intro l₁ l₂ p
  induction p with
  | nil => exact .nil
  | cons a _ ih => exact .cons (h _ _ a) ih
theorem Paired.get {α β : Type} {F : α → β → Prop} : ∀ {l₁ : List α} {l₂ : List β}, Paired F l₁ l₂ → ∀ {i : Nat} {a : α}, l₁[i]? = some a → ∃ b, l₂[i]? = some b ∧ F a b := by
  intro l₁ l₂ p
  induction p with
  | nil => intro i a e; simp at e
  | cons h _ ih =>
    intro i a e
    cases i with
    | zero => simp at e; exact ⟨_, rfl, e ▸ h⟩
    | succ i => simp at e; obtain ⟨b, e', hb⟩ := ih e; exact ⟨b, by simpa using e', hb⟩

/-- a tuple of nodes -/
noncomputable def RowIn (led : List (Addr × Obj)) (v : Value) (ns : List Node) : Prop := ∃ a vs n, v = .ref a ∧ (a, tupO vs n) ∈ led ∧ Paired (NodeIn led) vs ns
theorem RowIn.monoNL {led led' : List (Addr × Obj)} (hs : ∀ p ∈ led, NL p.2 → p ∈ led') {v : Value} {ns : List Node} : RowIn led v ns → RowIn led' v ns := by
  rintro ⟨a, vs, n, e, h, p⟩
  exact ⟨a, vs, n, e, hs _ h nl_tup, Paired.imp (fun _ _ => NodeIn.monoNL hs) p⟩
/-- a list of nodes at a place -/
noncomputable def NodesAt (led : List (Addr × Obj)) (a : Addr) (ns : List Node) : Prop := ∃ vs n, (a, listOf vs.toArray n) ∈ led ∧ Paired (NodeIn led) vs ns
/-- a list of rows at a place -/
noncomputable def RowsAt (led : List (Addr × Obj)) (a : Addr) (rows : List (List Node)) : Prop := ∃ vs n, (a, listOf vs.toArray n) ∈ led ∧ Paired (RowIn led) vs rows
theorem NodesAt.mono {led led' : List (Addr × Obj)} (hs : ∀ p ∈ led, p ∈ led') {a : Addr} {ns : List Node} : NodesAt led a ns → NodesAt led' a ns
  | ⟨vs, n, h, p⟩ => ⟨vs, n, hs _ h, Paired.imp (fun _ _ => NodeIn.monoNL fun p hp _ => hs p hp) p⟩
theorem RowsAt.mono {led led' : List (Addr × Obj)} (hs : ∀ p ∈ led, p ∈ led') {a : Addr} {rows : List (List Node)} : RowsAt led a rows → RowsAt led' a rows
  | ⟨vs, n, h, p⟩ => ⟨vs, n, hs _ h, Paired.imp (fun _ _ => RowIn.monoNL fun p hp _ => hs p hp) p⟩
/-- the places that are no list, and this one's own -/
theorem RowsAt.monoAt {led led' : List (Addr × Obj)} (hs : ∀ p ∈ led, NL p.2 → p ∈ led') {a : Addr} (ha : ∀ o, (a, o) ∈ led → (a, o) ∈ led') {rows : List (List Node)} : RowsAt led a rows → RowsAt led' a rows
  | ⟨vs, n, h, p⟩ => ⟨vs, n, ha _ h, Paired.imp (fun _ _ => RowIn.monoNL hs) p⟩

section
variable {h h₀ : Heap} {L a b : Addr} {o o' : Obj} {led : List (Addr × Obj)}
theorem News.same (N : News h₀ L h led) (h1 : (a, o) ∈ led) (h2 : (a, o') ∈ led) : o = o' := Option.some.inj ((N _ h1).1.symm.trans (N _ h2).1)
theorem News.apart (N : News h₀ L h led) (h1 : (a, o) ∈ led) (h2 : (b, o') ∈ led) (hc : o.cls ≠ o'.cls) : a ≠ b := fun e => hc (by subst e; rw [News.same N h1 h2])
theorem News.subset {led' : List (Addr × Obj)} (N : News h₀ L h led) (hs : ∀ p ∈ led', p ∈ led) : News h₀ L h led' := fun p hp => N p (hs p hp)
/-- what does not stand at a -/
noncomputable def off (a : Addr) (led : List (Addr × Obj)) : List (Addr × Obj) := led.filter fun p => p.1 != a
theorem mem_off {p : Addr × Obj} : p ∈ off a led ↔ p ∈ led ∧ p.1 ≠ a := by simp [off]
theorem off_ne : ∀ p ∈ off a led, p.1 ≠ a := fun _ hp => (mem_off.mp hp).2
theorem off_sub : ∀ p ∈ off a led, p ∈ led := fun _ hp => (mem_off.mp hp).1
theorem focus (N : News h₀ L h led) (ha : (a, o) ∈ led) : News h₀ L h ((a, o) :: off a led) := fun p hp => (List.mem_cons.mp hp).elim (fun e => e ▸ N _ ha) fun hp => N _ (off_sub _ hp)
theorem off_NL (N : News h₀ L h led) (ha : (a, o) ∈ led) (hl : ¬ NL o) : ∀ p ∈ led, NL p.2 → p ∈ off a led := fun p hp hn => mem_off.mpr ⟨hp, fun e => hl (by
  have : o = p.2 := News.same N ha (by rw [← e]; exact hp)
  rw [this]; exact hn)⟩
end

/-! what rows_over reckons -/
noncomputable def pushCap (most : Int) (rows : List (List Node)) (r : List Node) : List (List Node) := if (rows.length : Int) < most then rows ++ [r] else rows
noncomputable def rRow (most : Int) (aheads : List (List Node)) (some : List Node) (rows : List (List Node)) : List (List Node) := aheads.foldl (fun rows a => some.foldl (fun rows o => pushCap most rows (a ++ [o])) rows) rows
noncomputable def rLeaf (word : List Int) (e sym spot : Int) : List (Int × List Node) := if spot < e ∧ word.getD spot.toNat 0 = sym then [(spot + 1, [.leaf sym])] else []
noncomputable def rEnds (T : K3 → Option (List Node)) (word : List Int) (e sym spot : Int) : List (Int × List Node) :=
  (List.range (e + 1 - spot).toNat).foldl (fun l (i : Nat) => match T (sym, spot, spot + i) with | some ns => l ++ [(spot + i, ns)] | none => l) (rLeaf word e sym spot)
noncomputable def rEnd (most : Int) (aheads : List (List Node)) (later : List (Int × List (List Node))) (p : Int × List Node) : List (Int × List (List Node)) :=
  stG later p.1 (rRow most aheads p.2 ((gG later p.1).getD []))
noncomputable def rSpot (T : K3 → Option (List Node)) (word : List Int) (e most sym : Int) (reach later : List (Int × List (List Node))) (spot : Int) : List (Int × List (List Node)) :=
  (rEnds T word e sym spot).foldl (rEnd most ((gG reach spot).getD [])) later
noncomputable def srt (l : List Int) : List Int := l.mergeSort fun a b => decide (a ≤ b)
noncomputable def rStep (T : K3 → Option (List Node)) (word : List Int) (e most : Int) (reach : List (Int × List (List Node))) (sym : Int) : List (Int × List (List Node)) :=
  (srt (reach.map (·.1))).foldl (rSpot T word e most sym reach) []
noncomputable def rowsP (T : K3 → Option (List Node)) (word : List Int) (b e most : Int) (right : List Int) : List (List Node) :=
  (gG (right.foldl (rStep T word e most) [(b, [[]])]) e).getD []

theorem srt_is {a l : List Int} (hp : a.Perm l) (ha : a.Pairwise (· ≤ ·)) : a = srt l := by
  refine lks_uniq (hp.trans (List.mergeSort_perm l _).symm) ha ?_
  have := List.pairwise_mergeSort (le := fun a b : Int => decide (a ≤ b)) (fun a b c h1 h2 => by simp at *; omega) (fun a b => by simp; omega) l
  exact this.imp fun h => by simpa using h
end

section
open PySem.Calls
set_option maxRecDepth 100000
section
variable {prog : Program} {w : World} {A : Around} {E : Value → Shared → Prop} {s : Shared} {env : Env} {h₀ : Heap} {L : Addr} {m : Str → Option Value} {news led : List (Addr × Obj)}

noncomputable def TurnT (h₀ : Heap) (L : Addr) (it : Addr) (own : List (Addr × Obj)) (S : List Str) {σ : Type} (mE : σ → Str → Option Value) (I : σ → List (Addr × Obj) → Prop) (s₁ : Shared) (f : Flow) (s₂ : Shared) : Prop :=
  f = .next ∧ TurnOk h₀ L it own S mE I s₁ s₂
theorem TurnT.ok {it : Addr} {own : List (Addr × Obj)} {S : List Str} {σ : Type} {mE : σ → Str → Option Value} {I : σ → List (Addr × Obj) → Prop} {s₁ s₃ : Shared} {h' : Heap} {tk : Nat} {m' : Str → Option Value}
    (F : Fr h₀ L h' m') (N : News h₀ L h' led) (x : σ) (news' : List (Addr × Obj)) (hm : Agr S m' (mE x)) (hI : I x news') (h1 : ∀ p ∈ news', p ∈ led) (h2 : ∀ p ∈ own, p ∈ led) (h3 : ∀ p ∈ news', p.1 ≠ it) (e : s₃ = { s₁ with heap := h', toks := tk } := by rfl) : TurnT h₀ L it own S mE I s₁ .next s₃ :=
  ⟨rfl, e ▸ TurnOk.intro F N x news' hm hI h1 h2 h3⟩

/-- between two statements, with a letter for what stands in the frame -/
noncomputable def MidG (h₀ : Heap) (L : Addr) (S : List Str) {σ : Type} (mE : σ → Str → Option Value) (P : σ → List (Addr × Obj) → Prop) (s : Shared) (f : Flow) (s' : Shared) : Prop :=
  f = .next ∧ ∃ x h' tk m' news', s' = { s with heap := h', toks := tk } ∧ Fr h₀ L h' m' ∧ News h₀ L h' news' ∧ Agr S m' (mE x) ∧ P x news'
theorem MidG.intro {S : List Str} {σ : Type} {mE : σ → Str → Option Value} {P : σ → List (Addr × Obj) → Prop} {h' : Heap} {tk : Nat} {m' : Str → Option Value} {news' : List (Addr × Obj)}
    (F : Fr h₀ L h' m') (N : News h₀ L h' news') (x : σ) (hm : Agr S m' (mE x)) (hP : P x news') : MidG h₀ L S mE P s .next { s with heap := h', toks := tk } := ⟨rfl, x, h', tk, m', news', rfl, F, N, hm, hP⟩
theorem exec_midG {M : Model} {σ : Type} {st : Stmt} {rest : List Stmt} {Q : Flow → Shared → Prop} (S : List Str) (mE : σ → Str → Option Value) (P : σ → List (Addr × Obj) → Prop)
    (h1 : wpAny M A (exec st env) (MidG h₀ L S mE P s) E s)
    (h2 : ∀ x h' tk (u : Str → Option Value) news', Fr h₀ L h' (fun z => if S.contains z then u z else mE x z) → News h₀ L h' news' → P x news' → wpAny M A (execs rest env) Q E { s with heap := h', toks := tk }) : wpAny M A (execs (st :: rest) env) Q E s := by
  refine wpAny_execs_cons (wpAny_mono h1 (fun f s' hm => ?_) fun _ _ x => x)
  obtain ⟨rfl, x, h', tk, m', news', rfl, F', N', hm, hP⟩ := hm
  rw [hm.eq] at F'
  exact h2 x h' tk m' news' F' N' hP

theorem exec_midF {M : Model} {σ : Type} {st : Stmt} {rest : List Stmt} {Q : Flow → Shared → Prop} (F : Fr h₀ L s.heap m) (S : List Str) (f : σ → (Str → Option Value) → Str → Option Value) (P : σ → List (Addr × Obj) → Prop)
    (h1 : wpAny M A (exec st env) (MidG h₀ L S (fun x => f x m) P s) E s)
    (h2 : ∀ x h' tk (u : Str → Option Value) news', Fr h₀ L h' (fun z => if S.contains z then u z else f x m z) → News h₀ L h' news' → P x news' → wpAny M A (execs rest env) Q E { s with heap := h', toks := tk }) : wpAny M A (execs (st :: rest) env) Q E s := exec_midG S (fun x => f x m) P h1 h2

theorem exec_mid1 {M : Model} {σ : Type} {st : Stmt} {rest : List Stmt} {Q : Flow → Shared → Prop} (S : List Str) (mE : σ → Str → Option Value) (P : σ → List (Addr × Obj) → Prop)
    (h1 : wpAny M A (exec st env) (MidG h₀ L S mE P s) E s)
    (h2 : ∀ x h' tk (u : Str → Option Value) news', Fr h₀ L h' (fun z => if S.contains z then u z else mE x z) → News h₀ L h' news' → P x news' → wpAny M A (execs rest env) Q E { s with heap := h', toks := tk }) :
    wpAny M A (exec st env) (fun f s' => match f with | .next => wpAny M A (execs rest env) Q E s' | f => Q f s') E s := by
  refine wpAny_mono h1 (fun f s' hm => ?_) fun _ _ x => x
  obtain ⟨rfl, x, h', tk, m', news', rfl, F', N', hm, hP⟩ := hm
  rw [hm.eq] at F'
  exact h2 x h' tk m' news' F' N' hP

/-- over a list, the target a tuple of names -/
theorem loop_listT {σ : Type} {elts : List Expr} {tk0 : Nat} {tpos : Pos} {body : List Stmt} {Q : Flow → Shared → Prop} {r : Addr} {items : Array Value} (hh : A.handled = none) (F : Fr h₀ env.locals s.heap m) (N : News h₀ env.locals s.heap news)
    (hr : s.heap.IsList r items) (hrL : r ≠ env.locals)
    (S : List Str) (mE : σ → Str → Option Value) (I : Nat → σ → List (Addr × Obj) → Prop) (x0 : σ) (hm : Agr S m (mE x0)) (hI : I 0 x0 news)
    (turn : ∀ i v y (u : Str → Option Value) news₁ (s₁ : Shared) It own, items[i]? = some v → I i y news₁ → (∀ p ∈ news₁, p.1 ≠ It) → (∀ p ∈ own, p.1 = It ∨ p.1 = r) → (∃ o, (It, o) ∈ own) → Fr h₀ env.locals s₁.heap (fun z => if S.contains z then u z else mE y z) → News h₀ env.locals s₁.heap (news₁ ++ own) →
      wpAny (model prog w) A (assign (.Tuple elts tk0 tpos) env v) (fun _ s₃ => wpAny (model prog w) A (execs body env) (TurnT h₀ env.locals It own S mE (I (i + 1)) s₁) E s₃) E s₁)
    (done : ∀ h tk y (u : Str → Option Value) news', Fr h₀ env.locals h (fun z => if S.contains z then u z else mE y z) → News h₀ env.locals h news' → I items.size y news' → Q .next { s with heap := h, toks := tk }) :
    wpAny (model prog w) A (pyIter (.ref r)) (fun it s₂ => LoopAtT prog w A h₀ env (.Tuple elts tk0 tpos) body Q E it s₂) E s := by
  obtain ⟨ol, hol, hol'⟩ := id hr
  have hlt := Heap.lt_size hol
  refine wpAny_pyIter_list hr ?_
  have W := Walks.list (prog := prog) (w := w) hh s.heap.objs.size r (Nat.ne_of_lt hlt) items
  have hit0 := next_is_new F
  refine ⟨s.heap.objs.size, _, _, items.size, _, _, m, news, fun i m₁ news₁ => (∃ y, Agr S m₁ (mE y) ∧ I i y news₁), rfl, W, ?_, ?_, ?_, ⟨⟨_, Heap.get?_push_size _ rfl, rfl, rfl⟩, ⟨ol, Heap.get?_push_of_some _ hol, hol'⟩⟩, F.push _, (fun p hp => ⟨Heap.get?_push_of_some _ (N p hp).1, (N p hp).2⟩), ?_, ⟨x0, hm, hI⟩, ?_, ?_⟩
  · intro hm
    rcases List.mem_cons.mp hm with e | e
    · exact absurd F.ns.lt (e ▸ Nat.lt_irrefl _)
    · exact hrL (List.mem_singleton.mp e).symm
  · intro b hb; rw [List.mem_singleton.mp hb]; exact hit0
  · intro p hp hb; exact absurd (Heap.lt_size (N p hp).1) ((List.mem_singleton.mp hb) ▸ Nat.lt_irrefl _)
  · intro i s' v Q' st hq
    cases v with
    | ref a => exact wpAny_letOwnedTupleGo_listiter st.1 hq
    | _ => exact wpAny_pure hq
  · rintro i v m₁ news₁ s₁ own hi hP ⟨y, hm₁, hI₁⟩ hnw₁ hown _ hall hst₁ F₁ N₁
    rw [hm₁.eq] at F₁
    have hIo : ∃ o, (s.heap.objs.size, o) ∈ own := let ⟨⟨o, ho, _⟩, _⟩ := hst₁; ⟨o, hall _ (.head _) hit0 o ho⟩
    refine wpAny_mono (turn i v y m₁ news₁ s₁ s.heap.objs.size own hP hI₁ (fun p hp e => hnw₁ p hp (List.mem_singleton.mpr e)) (fun p hp => by simpa using hown p hp) hIo F₁
      (fun p hp => N₁ p ((List.mem_append.mp hp).elim (fun h => List.mem_append.mpr (.inr h)) fun h => List.mem_append.mpr (.inl h)))) (fun _ s₃ h₃ => wpAny_mono h₃ (fun f s₂ p => ?_) fun _ _ e => e) fun _ _ e => e
    obtain ⟨rfl, y', h', tk', m', led, news', rfl, F', N', h1, h2, h3, hm', hI'⟩ := p
    exact ⟨rfl, h', tk', m', news', rfl, F', fun p hp => N' p ((List.mem_append.mp hp).elim (h2 p) (h1 p)), fun p hp e => h3 p hp (List.mem_singleton.mp e), y', hm', hI'⟩
  · rintro h' tk m' news' F' N' _ ⟨y, hm', hI'⟩
    rw [hm'.eq] at F'
    exact done h' tk y m' news' F' N' hI'

theorem assign_pair {Q : Unit → Shared → Prop} {x y : Str} {px py pt : Pos} {tk0 : Nat} {T : Addr} {a b : Value} {n : Nat} (hh : A.handled = none) (F : Fr h₀ env.locals s.heap m) (N : News h₀ env.locals s.heap led) (hT : (T, tupO [a, b] n) ∈ led)
    (hx : env.kindOf x = some .local) (hy : env.kindOf y = some .local) (hp : (env.scope.kind == .class || (env.scope.kind == .module && env.locals != env.globals)) = false)
    (h : ∀ h' tk, Fr h₀ env.locals h' (fun z => if z = y then some b else if z = x then some a else m z) → News h₀ env.locals h' led → Q () { s with heap := h', toks := tk }) :
    wpAny (model prog w) A (assign (.Tuple [.Name x px, .Name y py] tk0 pt) env (.ref T)) Q E s := by
  refine wpAny_assign_Tuple hh (items := [a, b].toArray) ⟨_, (N _ hT).1, rfl, n, rfl⟩ rfl rfl fun h' hx' => ?_
  have old : ∀ p, h₀.get? p = none ∨ ∃ o, h₀.get? p = some o := fun p => by cases h₀.get? p <;> simp
  have kp : ∀ b o, s.heap.get? b = some o → h'.get? b = some o := fun b o e => hx' b o (Nat.ne_of_lt (Heap.lt_size e)) e
  have F1 : Fr h₀ env.locals h' m := F.keeps kp
  have N1 : News h₀ env.locals h' led := fun p hp => ⟨kp _ _ (N p hp).1, (N p hp).2⟩
  show wpAny _ _ (assignInOrder [assign (.Name x px) env, assign (.Name y py) env] [a, b]) Q E _
  refine wpAny_assignInOrder_more (wpAny_assign_Name (wpAny_storeName_local hx F1.ns (fun h2 hn2 hs2 => ?_) hp))
  refine wpAny_assignInOrder_more (wpAny_assign_Name (wpAny_storeName_local hy hn2 (fun h3 hn3 hs3 => ?_) hp))
  refine wpAny_assignInOrder_none ?_
  exact h h3 _ ((F1.set hn2 hs2).set hn3 hs3) ((N1.set hs2).set hs3)

theorem ints_of {kvs : List (Int × Value)} {vs : List Value} (hl : vs.length = kvs.length) (hv : ∀ (j : Nat) (v : Value), vs[j]? = some v → ∃ k x, kvs[j]? = some (k, x) ∧ (intKind prog w).is k v = true) : IntsAre vs (kvs.map (·.1)) := by
  induction kvs generalizing vs with
  | nil => rw [List.length_nil] at hl; rw [List.eq_nil_of_length_eq_zero hl]; exact .nil
  | cons p r ih =>
    cases vs with
    | nil => cases hl
    | cons v vs =>
      obtain ⟨k, x, h1, h2⟩ := hv 0 v rfl
      simp only [List.getElem?_cons_zero, Option.some.injEq] at h1
      subst h1
      have : ∃ t, v = .int k t := by
        cases v <;> simp [intKind, Value.isInt] at h2
        exact ⟨_, by rw [h2]⟩
      obtain ⟨t, rfl⟩ := this
      exact .cons k t (ih (by simpa using hl) fun j v hj => hv (j + 1) v (by simpa using hj))

theorem sorted_keys {Q : Value → Shared → Prop} {d : Addr} {o : Obj} {kvs : List (Int × Value)} (hh : A.handled = none) (F : Fr h₀ L s.heap m) (N : News h₀ L s.heap led) (hp : (d, o) ∈ led) (hd : o.IsDictOf (intKind prog w) kvs) (lo : (d == sysModules) = false) (hlen : kvs.length < 64)
    (h : ∀ B vs c h' tk, Fr h₀ L h' m → News h₀ L h' ((B, listOf (List.toArray vs) c) :: led) → (∀ q ∈ led, q.1 < B) → IntsAre vs (srt (kvs.map (·.1))) → Q (.ref B) { s with heap := h', toks := tk }) :
    wpAny (model prog w) A (call (.builtin "sorted") [.ref d]) Q E s := by
  obtain ⟨ep, hat⟩ := (kda_dict N hp hd).dictAt
  refine kdu_sorted (kdl_dict (knd := intKind prog w) (kvs := kvs) (ep := ep) lo) hh F N hat (by rw [sizeLine_eq]; omega) fun D h' tk vs F' N' l1 hl hv => ?_
  have hI : IntsAre vs (kvs.map (·.1)) := ints_of hl hv
  refine ksk_lsort (news' := fun o => (D, o) :: led) F' N' (fun o => .head (ne_of_ltAll l1)) (by simp) hI (by simpa using hlen) fun vs' ns' c h'' F'' N'' i' _ p' o' _ => ?_
  exact h D vs' c h'' tk F'' N'' l1 (by rw [← srt_is p' o']; exact i')

theorem kdg_setdefault {pl : Sem Bool} {Q : Value × List Value → Shared → Prop} {d : Addr} {o : Obj} {kvs : List (Int × Value)} (N : News h₀ L s.heap led) (hp : (d, o) ∈ led) (hd : o.IsDictOf (intKind prog w) kvs) (h : Q (.builtin "dict.setdefault", [.ref d]) s) : wpAny (model prog w) A (getMethod (.ref d) "setdefault" pl) Q E s :=
  have hD := kda_dict N hp hd
  getMethod_builtin hD.typeIs PySem.F.plainAttrs_dict PySem.F.slot_dict_setdefault PySem.F.type_dict_setdefault hD.mapOf.noDict h
theorem setdef {Q : Value → Shared → Prop} {D : Addr} {o : Obj} {rest : List (Addr × Obj)} {kvs : List (Int × Value)} {k : Int} {u : Tok} {dflt : Value} (F : Fr h₀ L s.heap m) (N : News h₀ L s.heap ((D, o) :: rest)) (hne : ∀ p ∈ rest, p.1 ≠ D) (hd : o.IsDictOf (intKind prog w) kvs) (lo : (D == sysModules) = false) (hsz : kvs.length ≤ 100000)
    (h1 : ∀ v, valueAt kvs k = some v → Q v { s with toks := s.toks + 1 })
    (h2 : valueAt kvs k = none → ∀ h' o', Fr h₀ L h' m → News h₀ L h' ((D, o') :: rest) → o'.IsDictOf (intKind prog w) (stored kvs k dflt) → Q dflt { s with heap := h', toks := s.toks + 1 }) :
    wpAny (model prog w) A (call (.builtin "dict.setdefault") [.ref D, .int k u, dflt]) Q E s := by
  have hD := kda_dict N (.head _) hd
  have hm := N _ (List.Mem.head _)
  refine call_meetsIn PySem.F.slot_dict_setdefault hD.typeIs PySem.F.entry_dict_setdefault (PySem.F.args_dict_setdefault_3 _ _ _) (kt_meets_setdefault (intKind prog w) D (intKind_is prog w k u) lo dflt)
    ⟨kvs, hD, by rw [sizeLine_eq]; omega, h1, fun hn h' hmm hs => ?_⟩
  obtain ⟨o', ho', hd'⟩ := Heap.dictOf_iff.mp hmm
  exact h2 hn h' o' (F.change hs hm.2.1 hm.2.2) (N.setIn (own := []) (fun _ h => nomatch h) hne hs ho') hd'

theorem tk_in {d T : Addr} {xs : List (K3 × Addr × Value)} {a b c : Int} {ta tb tc : Tok} {n : Nat} {Q : Value → Shared → Prop} {tl : List (Addr × Obj)} (H : TK prog w tl d xs) (N : News h₀ L s.heap led) (hs : ∀ p ∈ tl, p ∈ led) (hT : (T, tupO [.int a ta, .int b tb, .int c tc] n) ∈ led) (hu : A.units + 1 < cLine)
    (h : Q (.bool (atK xs (a, b, c)).isSome) { s with toks := s.toks + 4 }) : wpAny (model prog w) A (compareOp .In (.ref T) (.ref d)) Q E s := by
  have H := H.mono hs
  refine wpAny_in_heap (tupleKind_room_in1 (by simpa using hu)) (isKey_of N hT) H.sys (H.dictOf N) ?_
  have e : (atKey (xs.map fun x => (k3 x.1, x.2)) (k3 (a, b, c))).isSome = (atK xs (a, b, c)).isSome := by rw [← atK_is, Option.isSome_map]
  rw [e]
  exact h
theorem tk_in' {d T : Addr} {xs : List (K3 × Addr × Value)} {a b c : Int} {ta tb tc : Tok} {n : Nat} {Q : Value → Shared → Prop} {tl : List (Addr × Obj)} {bb : Bool} (H : TK prog w tl d xs) (N : News h₀ L s.heap led) (hs : ∀ p ∈ tl, p ∈ led) (hT : (T, tupO [.int a ta, .int b tb, .int c tc] n) ∈ led) (hu : A.units + 1 < cLine)
    (hb : (atK xs (a, b, c)).isSome = bb) (h : Q (.bool bb) { s with toks := s.toks + 4 }) : wpAny (model prog w) A (compareOp .In (.ref T) (.ref d)) Q E s := tk_in H N hs hT hu (hb ▸ h)
theorem tk_item {value slice : PySem.Expr} {d T : Addr} {xs : List (K3 × Addr × Value)} {a b c : Int} {ta tb tc : Tok} {n : Nat} {v : Value} {Q : Value → Shared → Prop} {tl : List (Addr × Obj)} (H : TK prog w tl d xs) (N : News h₀ L s.heap led) (hs : ∀ p ∈ tl, p ∈ led) (hT : (T, tupO [.int a ta, .int b tb, .int c tc] n) ∈ led) (hu : A.units + 1 < cLine)
    (hv : atK xs (a, b, c) = some v) (h : Q v { s with toks := s.toks + 4 })
    (hss : subscripted slice false (.ref d) (.ref T) = operate [.ref d, .ref T] (getItem (.ref d) (.ref T)) := by with_unfolding_all rfl) :
    wpAny (model prog w) A (subscriptTail value slice (.ref d) (.ref T)) Q E s := by
  have H := H.mono hs
  have hD := H.dictOf N
  rw [← atK_is] at hv
  obtain ⟨p, hp, rfl⟩ := Option.map_eq_some_iff.mp hv
  exact tail_any hD.typeIs slot_dict_getitem.lookup (wpAny_getItem_heap (tupleKind_room_in1 (by simpa using hu)) (isKey_of N hT) hD hp h) hss

theorem list_item {value slice : PySem.Expr} {T : Addr} {vs : List Value} {x : Value} {n : Nat} {k : Int} {u : Tok} {Q : Value → Shared → Prop} (N : News h₀ L s.heap led) (hT : (T, listOf (List.toArray vs) n) ∈ led) (h0 : 0 ≤ k) (hk : k < 2 ^ 63) (hx : vs[k.toNat]? = some x)
    (h : Q x s) (hs : subscripted slice false (.ref T) (.int k u) = operate [.ref T, .int k u] (getItem (.ref T) (.int k u)) := by with_unfolding_all rfl) :
    wpAny (model prog w) A (subscriptTail value slice (.ref T) (.int k u)) Q E s :=
  have hl : s.heap.IsList T vs.toArray := ⟨_, (N _ hT).1, rfl, n, rfl⟩
  tail_any hl.typeIs slot_list_getitem.lookup (wpAny_getItem_list hl h0 hk (by simpa using hx) h) hs

/-- t + (x,) of tuples -/
theorem cat_one {t b : Addr} {vs : List Value} {x : Value} {n n2 : Nat} {Q : Value → Shared → Prop} (F : Fr h₀ L s.heap m) (N : News h₀ L s.heap led) (ht : (t, tupO vs n) ∈ led) (hb : (b, tupO [x] n2) ∈ led) (hl : vs.length ≤ 100000)
    (h : ∀ T nT h', Fr h₀ L h' m → News h₀ L h' ((T, tupO (vs ++ [x]) nT) :: led) → (∀ p ∈ led, p.1 ≠ b → p.1 ≠ T) → Q (.ref T) { s with heap := h' }) : wpAny (model prog w) A (binaryOp .Add (.ref t) (.ref b)) Q E s := by
  refine add_tuples F N ⟨_, (N _ ht).1, rfl, n, rfl⟩ ⟨_, (N _ hb).1, rfl, n2, rfl⟩ (fun e => ?_) (fun _ e => by cases e) (fun _ _ h' F' N' => ?_) (by rw [sizeLine_eq]; simp; omega)
  · subst e
    exact h b n2 s.heap F (fun p hp => (List.mem_cons.mp hp).elim (fun e => by subst e; exact N _ hb) (N p)) fun p _ e => e
  · exact h _ 0 h' F' N' fun p hp _ => Nat.ne_of_lt (Heap.lt_size (N p hp).1)
end
end

section
open PySem.Calls
set_option maxRecDepth 100000
noncomputable def GramIn (led : List (Addr × Obj)) (g : Addr) : Prop := ∃ d es n nl nvs nn ta tb, (g, instObj 320 d) ∈ led ∧ (d, dictOf es n) ∈ led ∧ getL (Str.ofString "names") es = some (some (.ref nl)) ∧ (nl, listOf (List.toArray nvs) nn) ∈ led ∧
  nvs[3]? = some (.str (Str.ofString "a") ta) ∧ nvs[4]? = some (.str (Str.ofString "b") tb)
theorem GramIn.mono {led led' : List (Addr × Obj)} (hs : ∀ p ∈ led, p ∈ led') {g : Addr} : GramIn led g → GramIn led' g := by
  rintro ⟨d, es, n, nl, nvs, nn, ta, tb, a, b, c, e, f, i⟩
  exact ⟨d, es, n, nl, nvs, nn, ta, tb, hs _ a, hs _ b, c, hs _ e, f, i⟩

theorem GramIn.name {led : List (Addr × Obj)} {g : Addr} (h : GramIn led g) {s : Int} (hs : s = 3 ∨ s = 4) : ∃ d es n nl nvs nn t, (g, instObj 320 d) ∈ led ∧ (d, dictOf es n) ∈ led ∧ getL (Str.ofString "names") es = some (some (.ref nl)) ∧ (nl, listOf (List.toArray nvs) nn) ∈ led ∧
    nvs[s.toNat]? = some (.str (symName s) t) := by
  obtain ⟨d, es, n, nl, nvs, nn, ta, tb, a, b, c, e, f, i⟩ := h
  rcases hs with rfl | rfl
  · exact ⟨d, es, n, nl, nvs, nn, ta, a, b, c, e, f⟩
  · exact ⟨d, es, n, nl, nvs, nn, tb, a, b, c, e, i⟩

/-- the trees handed in: key, the key's place, the list's place, the nodes -/
noncomputable abbrev TS := List (K3 × Addr × Addr × List Node)
noncomputable def tx (ts : TS) : List (K3 × Addr × Value) := ts.map fun t => (t.1, t.2.1, .ref t.2.2.1)
noncomputable def tP (ts : TS) (k : K3) : Option (List Node) := (ts.find? fun t => decide (t.1 = k)).map (·.2.2.2)
theorem tx_get {ts : TS} {k : K3} {P : Addr → List Node → Prop} (hP : ∀ t ∈ ts, P t.2.2.1 t.2.2.2) : (atK (tx ts) k = none ∧ tP ts k = none) ∨ ∃ l ns, atK (tx ts) k = some (.ref l) ∧ tP ts k = some ns ∧ P l ns := by
  induction ts with
  | nil => exact .inl ⟨rfl, rfl⟩
  | cons t r ih =>
    by_cases h : t.1 = k
    · exact .inr ⟨t.2.2.1, t.2.2.2, by simp [atK, tx, h], by simp [tP, h], hP t (.head _)⟩
    · have := ih fun t ht => hP t (.tail _ ht)
      simpa [atK, tx, tP, h] using this

/-- a dict of lists of rows by ints: key, the list's place, the rows -/
noncomputable abbrev RG := List (Int × Addr × List (List Node))
noncomputable def kvG (g : RG) : List (Int × Value) := g.map fun p => (p.1, Value.ref p.2.1)
noncomputable def rG (g : RG) : List (Int × List (List Node)) := g.map fun p => (p.1, p.2.2)
structure Lat (prog : Program) (w : World) (st frz mid : List (Addr × Obj)) (D : Addr) (o : Obj) (g : RG) : Prop where
  dict : o.IsDictOf (intKind prog w) (kvG g)
  rows : ∀ p ∈ g, ∃ vs n, (p.2.1, listOf (List.toArray vs) n) ∈ mid ∧ Paired (RowIn (mid ++ st)) vs p.2.2
  sep : ∀ q ∈ mid, ∀ p ∈ frz, p.1 ≠ q.1
  nodup : (g.map (·.2.1)).Nodup
  off : ∀ q ∈ mid ++ frz, q.1 ≠ D
theorem fresh_of {En D d e : Addr} {tl : List (Addr × Obj)} (h1 : En < d) (h2 : D < d) (h3 : AllLt d tl) (he : d ≤ e) : e ≠ En ∧ e ≠ D ∧ ∀ p ∈ tl, p.1 ≠ e := by
  refine ⟨fun q => ?_, fun q => ?_, ?_⟩
  · subst q; exact absurd (Nat.lt_of_lt_of_le h1 he) (Nat.lt_irrefl _)
  · subst q; exact absurd (Nat.lt_of_lt_of_le h2 he) (Nat.lt_irrefl _)
  · intro p hp q
    have : ∀ {l : List (Addr × Obj)}, AllLt d l → p ∈ l → p.1 < d := by
      intro l hl hm
      induction l with
      | nil => cases hm
      | cons a r ih =>
        cases hm with
        | head => exact hl.1
        | tail _ hm => exact ih hl.2 hm
    have := this h3 hp
    rw [q] at this
    exact absurd (Nat.lt_of_lt_of_le this he) (Nat.lt_irrefl _)
theorem nodup_len : ∀ (n : Nat) (l : List Int), l.Nodup → (∀ x ∈ l, 0 ≤ x ∧ x < n) → l.length ≤ n
  | 0, l, _, h => by cases l with
    | nil => exact Nat.le_refl _
    | cons a r => have := h a (.head _); omega
  | n + 1, l, hn, h => by
    have := nodup_len n (l.erase (n : Int)) (hn.erase _) fun x hx => by
      have h1 := h x (List.mem_of_mem_erase hx)
      have h2 : x ≠ (n : Int) := fun e => by subst e; exact hn.not_mem_erase hx
      omega
    have h2 : l.length ≤ (l.erase (n : Int)).length + 1 := by
      rw [List.length_erase]; split <;> omega
    omega
theorem Paired.len {α β : Type} {F : α → β → Prop} : ∀ {l₁ : List α} {l₂ : List β}, Paired F l₁ l₂ → l₁.length = l₂.length := by
  intro l₁ l₂ p
  induction p with
  | nil => rfl
  | cons _ _ ih => exact congrArg (· + 1) ih
theorem Paired.snoc {α β : Type} {F : α → β → Prop} {a : α} {b : β} (h : F a b) : ∀ {l₁ : List α} {l₂ : List β}, Paired F l₁ l₂ → Paired F (l₁ ++ [a]) (l₂ ++ [b]) := by
  intro l₁ l₂ p
  induction p with
  | nil => exact .cons h .nil
  | cons x _ ih => exact .cons x ih
theorem stG_fresh {α : Type} {l : List (Int × α)} {k : Int} {v v' : α} (h : gG l k = none) : stG (l ++ [(k, v)]) k v' = stG l k v' := by
  have hno : ∀ p ∈ l, p.1 ≠ k := fun p hp e => by
    have := List.find?_eq_none.mp (Option.map_eq_none_iff.mp h) p hp
    simp at this; exact this e
  have h1 : ¬ (l.any fun p => decide (p.1 = k)) = true := by
    intro h; rw [List.any_eq_true] at h; obtain ⟨p, hp, e⟩ := h; exact hno p hp (of_decide_eq_true e)
  have h2 : ((l ++ [(k, v)]).any fun p => decide (p.1 = k)) = true := by simp
  unfold stG
  rw [if_pos h2, if_neg h1, List.map_append]
  congr 1
  · refine (List.map_congr_left fun p hp => ?_).trans (List.map_id _)
    rw [if_neg (hno p hp)]; rfl
  · simp
theorem pushCap_mem {mo : Int} {rows : List (List Node)} {x r : List Node} (h : r ∈ pushCap mo rows x) : r ∈ rows ∨ r = x := by
  unfold pushCap at h
  split at h
  · rcases List.mem_append.mp h with h | h
    · exact .inl h
    · exact .inr (List.mem_singleton.mp h)
  · exact .inl h
theorem rRow_len {mo : Int} {aheads : List (List Node)} {some : List Node} {rows : List (List Node)} {n : Nat} (ha : ∀ x ∈ aheads, x.length ≤ n) (hr : ∀ x ∈ rows, x.length ≤ n + 1) : ∀ x ∈ rRow mo aheads some rows, x.length ≤ n + 1 := by
  unfold rRow
  induction aheads generalizing rows with
  | nil => exact hr
  | cons a r ih =>
    refine ih (fun x hx => ha x (.tail _ hx)) ?_
    have hal := ha a (.head _)
    clear ih ha
    induction some generalizing rows with
    | nil => exact hr
    | cons o os ih =>
      refine ih fun x hx => ?_
      rcases pushCap_mem hx with hx | rfl
      · exact hr x hx
      · simp; omega
theorem pushCap_len {mo : Int} {rows : List (List Node)} {x : List Node} (h : (rows.length : Int) ≤ mo) : ((pushCap mo rows x).length : Int) ≤ mo := by
  unfold pushCap
  split
  · simp only [List.length_append, List.length_singleton]; omega
  · exact h
theorem pushes_len {mo : Int} {x : List Node} {som : List Node} {rows : List (List Node)} (h : (rows.length : Int) ≤ mo) : ((som.foldl (fun rows o => pushCap mo rows (x ++ [o])) rows).length : Int) ≤ mo := by
  induction som generalizing rows with
  | nil => exact h
  | cons o os ih => exact ih (pushCap_len h)
theorem rRow_cap {mo : Int} {aheads : List (List Node)} {som : List Node} {rows : List (List Node)} (h : (rows.length : Int) ≤ mo) : ((rRow mo aheads som rows).length : Int) ≤ mo := by
  unfold rRow
  induction aheads generalizing rows with
  | nil => exact h
  | cons a r ih => exact ih (pushes_len h)
theorem rEnds_keys {T : K3 → Option (List Node)} {word : List Int} {e sym spot : Int} (hse : spot ≤ e) : ∀ p ∈ rEnds T word e sym spot, spot ≤ p.1 ∧ p.1 ≤ e := by
  unfold rEnds
  have h0 : ∀ p ∈ rLeaf word e sym spot, spot ≤ p.1 ∧ p.1 ≤ e := by
    intro p hp
    unfold rLeaf at hp
    split at hp
    · rename_i h
      rw [List.mem_singleton.mp hp]
      dsimp only; omega
    · cases hp
  have : ∀ (is : List Nat) (l : List (Int × List Node)), (∀ i ∈ is, i < (e + 1 - spot).toNat) → (∀ p ∈ l, spot ≤ p.1 ∧ p.1 ≤ e) →
      ∀ p ∈ is.foldl (fun l (i : Nat) => match T (sym, spot, spot + i) with | some ns => l ++ [(spot + i, ns)] | none => l) l, spot ≤ p.1 ∧ p.1 ≤ e := by
    intro is
    induction is with
    | nil => intro l _ h; exact h
    | cons i r ih =>
      intro l hi h
      refine ih _ (fun i hi' => hi i (.tail _ hi')) ?_
      have := hi i (.head _)
      dsimp only
      split
      · intro p hp
        rcases List.mem_append.mp hp with hp | hp
        · exact h p hp
        · rw [List.mem_singleton.mp hp]; dsimp only; omega
      · exact h
  exact this _ _ (fun i hi => List.mem_range.mp hi) h0
theorem ints_get {vs : List Value} {ns : List Int} (h : IntsAre vs ns) : ∀ {j : Nat} {v : Value}, vs[j]? = some v → ∃ k, ns[j]? = some k ∧ ∃ t, v = .int k t := by
  induction h with
  | nil => intro j v h; simp at h
  | cons k t r ih =>
    intro j v h
    cases j with
    | zero => simp at h; exact ⟨k, rfl, t, h.symm⟩
    | succ j => simp at h; obtain ⟨k', a, b⟩ := ih h; exact ⟨k', by simpa using a, b⟩
theorem kvG_keys (g : RG) : (kvG g).map (·.1) = g.map (·.1) := by rw [kvG, List.map_map]; rfl
theorem rG_keys (g : RG) : (rG g).map (·.1) = g.map (·.1) := by rw [rG, List.map_map]; rfl
theorem mem_srt {l : List Int} {k : Int} (h : k ∈ srt l) : k ∈ l := (List.mergeSort_perm l _).mem_iff.mp h
theorem kvG_at {g : RG} (hn : (g.map (·.1)).Nodup) {k : Int} {a : Addr} {rows : List (List Node)} (hm : (k, a, rows) ∈ g) : valueAt (kvG g) k = some (.ref a) := by
  obtain ⟨i, hi⟩ := List.mem_iff_getElem?.mp hm
  rw [valueAt_gG]
  refine gG_of_get (i := i) ?_ (by simp [kvG, hi])
  rw [kvG_keys]; exact hn
theorem take_all {α : Type} {l : List α} {n : Nat} (h : n = l.length) : l.take n = l := by rw [h, List.take_length]
/-- the ends list's tuples -/
noncomputable def EndsIn (led : List (Addr × Obj)) (vs : List Value) (ps : List (Int × List Node)) : Prop := Paired (fun v p => ∃ T t l n, v = .ref T ∧ (T, tupO [.int p.1 t, .ref l] n) ∈ led ∧ NodesAt led l p.2) vs ps
theorem EndsIn.monoNL {led led' : List (Addr × Obj)} {vs : List Value} {ps : List (Int × List Node)} (hs : ∀ p ∈ led, p ∈ led') (h : EndsIn led vs ps) : EndsIn led' vs ps :=
  Paired.imp (fun _ _ ⟨T, t, l, n, e, a, b⟩ => ⟨T, t, l, n, e, hs _ a, b.mono hs⟩) h
theorem EndsIn.mono {led led' : List (Addr × Obj)} (hs : ∀ p ∈ led, p ∈ led') {vs : List Value} {ps : List (Int × List Node)} (h : EndsIn led vs ps) : EndsIn led' vs ps :=
  Paired.imp (fun _ _ ⟨T, t, l, n, e, a, b⟩ => ⟨T, t, l, n, e, hs _ a, b.mono hs⟩) h


theorem kvG_nodup {g : RG} {prog : Program} {w : World} {o : Obj} (h : o.IsDictOf (intKind prog w) (kvG g)) : (g.map (·.1)).Nodup := by
  have := isDict_nodup h
  rwa [kvG, List.map_map] at this
/-- the rows at a key changed, the places as they were -/
noncomputable def setRows (g : RG) (k : Int) (rows : List (List Node)) : RG := g.map fun p => if p.1 = k then (p.1, p.2.1, rows) else p
theorem kvG_setRows (g : RG) (k : Int) (rows : List (List Node)) : kvG (setRows g k rows) = kvG g := by
  unfold kvG setRows
  rw [List.map_map]
  refine List.map_congr_left fun p _ => ?_
  simp only [Function.comp]
  split <;> rfl
theorem adr_setRows (g : RG) (k : Int) (rows : List (List Node)) : (setRows g k rows).map (·.2.1) = g.map (·.2.1) := by
  unfold setRows
  rw [List.map_map]
  refine List.map_congr_left fun p _ => ?_
  simp only [Function.comp]
  split <;> rfl
theorem rG_setRows {g : RG} {k : Int} {a : Addr} {rows0 : List (List Node)} (hm : (k, a, rows0) ∈ g) (rows : List (List Node)) : rG (setRows g k rows) = stG (rG g) k rows := by
  have : ((rG g).any fun p => decide (p.1 = k)) = true := by
    rw [List.any_eq_true]
    exact ⟨(k, rows0), List.mem_map.mpr ⟨_, hm, rfl⟩, by simp⟩
  unfold stG
  rw [if_pos this]
  unfold rG setRows
  rw [List.map_map, List.map_map]
  refine List.map_congr_left fun p _ => ?_
  simp only [Function.comp]
  split <;> rfl
theorem mem_setRows {g : RG} {k : Int} {rows : List (List Node)} {p : Int × Addr × List (List Node)} (h : p ∈ setRows g k rows) : ∃ q ∈ g, p.1 = q.1 ∧ p.2.1 = q.2.1 ∧ (p.2.2 = rows ∨ p = q) := by
  obtain ⟨q, hq, rfl⟩ := List.mem_map.mp h
  refine ⟨q, hq, ?_⟩
  split
  · exact ⟨rfl, rfl, .inl rfl⟩
  · exact ⟨rfl, rfl, .inr rfl⟩
theorem rG_get {g : RG} {k : Int} {a : Addr} {rows0 : List (List Node)} (hn : (g.map (·.1)).Nodup) (hm : (k, a, rows0) ∈ g) : gG (rG g) k = some rows0 := by
  obtain ⟨i, hi⟩ := List.mem_iff_getElem?.mp hm
  refine gG_of_get (i := i) ?_ (by simp [rG, hi])
  rw [rG, List.map_map]; exact hn
theorem rG_none {g : RG} {k : Int} (h : valueAt (kvG g) k = none) : gG (rG g) k = none := by
  induction g with
  | nil => rfl
  | cons p r ih =>
    by_cases hp : p.1 = k
    · simp [kvG, valueAt, hp] at h
    · have : valueAt (kvG r) k = none := by simpa [kvG, valueAt, hp] using h
      simpa [rG, gG, hp] using ih this
theorem kvG_some {g : RG} {k : Int} {v : Value} (h : valueAt (kvG g) k = some v) : ∃ a rows, v = .ref a ∧ (k, a, rows) ∈ g := by
  induction g with
  | nil => cases h
  | cons p r ih =>
    by_cases hp : p.1 = k
    · simp [kvG, valueAt, hp] at h
      exact ⟨p.2.1, p.2.2, h.symm, by rw [← hp]; exact .head _⟩
    · have : valueAt (kvG r) k = some v := by simpa [kvG, valueAt, hp] using h
      obtain ⟨a, rows, e, m⟩ := ih this
      exact ⟨a, rows, e, .tail _ m⟩
theorem adr_inj {g : RG} (hn : (g.map (·.2.1)).Nodup) (hk : (g.map (·.1)).Nodup) {p q : Int × Addr × List (List Node)} (hp : p ∈ g) (hq : q ∈ g) (e : p.2.1 = q.2.1) : p.1 = q.1 := by
  obtain ⟨i, hi⟩ := List.mem_iff_getElem?.mp hp
  obtain ⟨j, hj⟩ := List.mem_iff_getElem?.mp hq
  have h1 : (g.map (·.2.1))[i]? = some p.2.1 := by simp [hi]
  have h2 : (g.map (·.2.1))[j]? = some p.2.1 := by simp [hj, e]
  have : i = j := (List.getElem?_inj (List.getElem?_eq_some_iff.mp h1).1 hn).mp (h1.trans h2.symm)
  subst this
  rw [hi] at hj; cases hj; rfl

section
variable {prog : Program} {w : World} {h h₀ : Heap} {L : Addr} {st frz mid : List (Addr × Obj)} {D : Addr} {o : Obj} {g : RG}
theorem Lat.nil {o : Obj} (hd : o.IsDictOf (intKind prog w) []) (hD : ∀ q ∈ frz, q.1 ≠ D) : Lat prog w st frz [] D o [] := ⟨hd, (fun _ h => nomatch h), (fun _ h => nomatch h), .nil, hD⟩
/-- more stands frozen -/
theorem Lat.more {st' frz' : List (Addr × Obj)} (X : Lat prog w st frz mid D o g) (hs : ∀ p ∈ st, p ∈ st') (hsep : ∀ q ∈ mid, ∀ p ∈ frz', p.1 ≠ q.1) (hD : ∀ q ∈ frz', q.1 ≠ D) : Lat prog w st' frz' mid D o g :=
  ⟨X.dict, fun p hp => let ⟨vs, n, a, b⟩ := X.rows p hp; ⟨vs, n, a, Paired.imp (fun _ _ => RowIn.monoNL fun q hq _ => (List.mem_append.mp hq).elim (fun z => sub_l _ z) fun z => sub_r _ (hs _ z)) b⟩, hsep, X.nodup,
    fun q hq => (List.mem_append.mp hq).elim (fun z => X.off q (sub_l _ z)) (hD q)⟩
/-- what was frozen goes to the lists' part -/
theorem Lat.melt {new frz' : List (Addr × Obj)} (X : Lat prog w (new ++ st) frz mid D o g) (hs : ∀ p ∈ frz', p ∈ frz) (hn : ∀ p ∈ new, p ∈ frz) (hsep : ∀ q ∈ new, ∀ p ∈ frz', p.1 ≠ q.1) : Lat prog w st frz' (mid ++ new) D o g :=
  ⟨X.dict, fun p hp => let ⟨vs, n, a, b⟩ := X.rows p hp; ⟨vs, n, sub_l _ a, by rw [List.append_assoc]; exact b⟩, fun q hq p hp => (List.mem_append.mp hq).elim (fun z => X.sep q z p (hs p hp)) (fun z => hsep q z p hp), X.nodup,
    fun q hq => X.off q ((List.mem_append.mp hq).elim (fun z => (List.mem_append.mp z).elim (fun z => sub_l _ z) fun z => sub_r _ (hn _ z)) fun z => sub_r _ (hs _ z))⟩
/-- a key with an empty list -/
theorem Lat.add {o' : Obj} {k : Int} {a : Addr} (X : Lat prog w st frz mid D o g) (hd : o'.IsDictOf (intKind prog w) (stored (kvG g) k (.ref a))) (hk : valueAt (kvG g) k = none) (ha : ∀ p ∈ mid ++ frz, p.1 ≠ a) (haD : a ≠ D) : Lat prog w st frz ((a, listOf #[] 0) :: mid) D o' (g ++ [(k, a, [])]) := by
  have hno : ¬ ((kvG g).any fun p => decide (p.1 = k)) = true := by
    intro h
    rw [List.any_eq_true] at h
    obtain ⟨p, hp, e⟩ := h
    have := List.find?_eq_none.mp (Option.map_eq_none_iff.mp hk) p hp
    exact this e
  refine ⟨?_, ?_, ?_, ?_, ?_⟩
  · have : stored (kvG g) k (.ref a) = kvG (g ++ [(k, a, [])]) := by
      unfold stored
      rw [if_neg hno]
      simp [kvG]
    rwa [this] at hd
  · intro p hp
    rcases List.mem_append.mp hp with hp | hp
    · obtain ⟨vs, n, x, y⟩ := X.rows p hp
      exact ⟨vs, n, .tail _ x, Paired.imp (fun _ _ => RowIn.monoNL fun q hq _ => .tail _ hq) y⟩
    · rw [List.mem_singleton.mp hp]
      exact ⟨[], 0, .head _, .nil⟩
  · intro q hq p hp
    rcases List.mem_cons.mp hq with rfl | hq
    · exact ha p (sub_r _ hp)
    · exact X.sep q hq p hp
  · rw [List.map_append, List.nodup_append]
    refine ⟨X.nodup, by simp, ?_⟩
    intro x hx y hy e
    simp at hy
    subst hy e
    obtain ⟨p, hp, e⟩ := List.mem_map.mp hx
    obtain ⟨vs, n, z, _⟩ := X.rows p hp
    exact ha _ (sub_l _ z) e
  · intro q hq
    rcases List.mem_cons.mp hq with rfl | hq
    · exact haD
    · exact X.off q hq
/-- one list grown -/
theorem Lat.put {k : Int} {a : Addr} {rows0 rows : List (List Node)} {new : List (Addr × Obj)} {vs : List Value} {n : Nat} {frz' : List (Addr × Obj)} {led : List (Addr × Obj)} (X : Lat prog w st frz mid D o g) (hm : (k, a, rows0) ∈ g) (N : News h₀ L h led) (hN : ∀ p ∈ mid ++ st, p ∈ led)
    (hp : Paired (RowIn (new ++ (Mine.off a mid ++ st))) vs rows) (hnew : ∀ q ∈ new, (∀ p ∈ frz', p.1 ≠ q.1) ∧ q.1 ≠ D) (hf : ∀ p ∈ frz', p ∈ frz) :
    Lat prog w st frz' ((a, listOf (List.toArray vs) n) :: (new ++ Mine.off a mid)) D o (setRows g k rows) := by
  obtain ⟨vs0, n0, hm0, hp0⟩ := X.rows _ hm
  have hkn := kvG_nodup X.dict
  have hNL : ∀ p ∈ mid ++ st, NL p.2 → p ∈ ((a, listOf (List.toArray vs) n) :: (new ++ Mine.off a mid)) ++ st := fun p hp hn => by
    rcases List.mem_append.mp hp with hq | hq
    · refine .tail _ (sub_l _ (sub_r _ (mem_off.mpr ⟨hq, fun e => hn ?_⟩)))
      have : listOf (List.toArray vs0) n0 = p.2 := News.same N (hN _ (sub_l _ hm0)) (by have := hN _ hp; rw [← e]; exact this)
      rw [← this]
    · exact .tail _ (sub_r _ hq)
  refine ⟨by rw [kvG_setRows]; exact X.dict, ?_, ?_, by rw [adr_setRows]; exact X.nodup, ?_⟩
  · intro p hp'
    obtain ⟨q, hq, rfl⟩ := List.mem_map.mp hp'
    by_cases e : q.1 = k
    · rw [if_pos e]
      have : q.2.1 = a := by
        obtain ⟨i, hi⟩ := List.mem_iff_getElem?.mp hq
        obtain ⟨j, hj⟩ := List.mem_iff_getElem?.mp hm
        have h1 : (g.map (·.1))[i]? = some k := by simp [hi, e]
        have h2 : (g.map (·.1))[j]? = some k := by simp [hj]
        have : i = j := (List.getElem?_inj (List.getElem?_eq_some_iff.mp h1).1 hkn).mp (h1.trans h2.symm)
        subst this
        rw [hi] at hj; cases hj; rfl
      rw [this]
      refine ⟨vs, n, .head _, Paired.imp (fun _ _ => RowIn.monoNL fun z hz _ => ?_) hp⟩
      rcases List.mem_append.mp hz with hz | hz
      · exact .tail _ (sub_l _ (sub_l _ hz))
      · rcases List.mem_append.mp hz with hz | hz
        · exact .tail _ (sub_l _ (sub_r _ hz))
        · exact .tail _ (sub_r _ hz)
    · rw [if_neg e]
      obtain ⟨vs1, n1, x, y⟩ := X.rows q hq
      refine ⟨vs1, n1, .tail _ (sub_r _ (mem_off.mpr ⟨x, fun z => e (adr_inj X.nodup hkn hq hm z)⟩)), Paired.imp (fun _ _ => RowIn.monoNL hNL) y⟩
  · intro q hq p hp'
    rcases List.mem_cons.mp hq with rfl | hq
    · exact X.sep (a, listOf (List.toArray vs0) n0) hm0 p (hf p hp')
    · rcases List.mem_append.mp hq with hq | hq
      · exact (hnew q hq).1 p hp'
      · exact X.sep q (off_sub _ hq) p (hf p hp')
  · intro q hq
    rcases List.mem_cons.mp hq with rfl | hq
    · exact X.off (a, listOf (List.toArray vs0) n0) (sub_l _ hm0)
    · rcases List.mem_append.mp hq with hq | hq
      · rcases List.mem_append.mp hq with hq | hq
        · exact (hnew q hq).2
        · exact X.off q (sub_l _ (off_sub _ hq))
      · exact X.off q (sub_r _ (hf q hq))
end
end

section
open PySem.Calls
set_option maxRecDepth 100000
theorem News.rest {h h₀ : Heap} {L : Addr} {c : Addr × Obj} {l : List (Addr × Obj)} (N : News h₀ L h (c :: l)) : News h₀ L h l := fun p hp => N p (.tail _ hp)

section
local macro_rules | `(tactic| k_get) => asmT

set_option maxHeartbeats 4000000 in
theorem token_spec : ∀ {w : World} {A : Around} {s : Shared} {h₀ : Heap} {L : Addr} {m mg mb : Str → Option Value} {mean : ExcName → Option Value} {tl : List (Addr × Obj)} {x : Str} {t : Tok} {Q E : Value → Shared → Prop}
    (_ : Room A 2) (_ : Fr h₀ L s.heap m) (_ : (hd.heap_1 w.params).In h₀) (_ : Top vw lse mean mg mb h₀) (_ : News h₀ L s.heap tl)
    (_ : ∀ y c es n h' t', Fr h₀ L h' m → News h₀ L h' ((y, instObj 93 c) :: (c, dictOf es n) :: tl) → (∀ p ∈ tl, p.1 < c) → c < y → getL (Str.ofString "kind") es = some (some (.str x t)) → Q (.ref y) { s with heap := h', toks := t' }),
    wpAny (model Challenge.rw_on0168_01.row.prog w) A (call (.ref 93) [.str x t, .str x t, .none]) Q E s := by
  try row_walk
  k_fill
  intro w A s h₀ L m mg mb mean tl x t Q E R F X T N ret
  obtain ⟨hh, dp, frs, gd, un⟩ := A
  obtain ⟨R1, R2, R3⟩ := R
  dsimp only at R1 R2 R3
  subst R1
  refine call_cls F X N (by k_is) (by k_is) (by k_is) ?_
  intro y c h1 F1 N1 l1 l2
  have l1' := l1
  have l2' := l2
  refine enterN F1 X N1 T (by k_is) (by k_is) (by simp only [depth_under_make]; show dp + 1 < 1000; omega) (binds_K (X.keeps F1.keep) rfl (by k_is) rfl rfl rfl) (locs rfl) ?_ rfl rfl rfl (by decide)
  intro g L' h' FG' F' N' X' T' l3
  have hyc : c ≠ y := Nat.ne_of_lt l2
  have hy : ∀ p ∈ tl, p.1 ≠ y := ne_ltAll' l1 (Nat.le_of_lt l2)
  have hc : ∀ p ∈ tl, p.1 ≠ c := ne_of_ltAll l1
  k_lt2 l2
  (try dsimp only)
  try k_fold
  k_steps
  exact ret _ _ _ _ _ _ (by assumption) (by assumption) l1' l2' (by k_get)

set_option maxHeartbeats 4000000 in
theorem leaf_spec : ∀ {w : World} {A : Around} {s : Shared} {h₀ : Heap} {L : Addr} {m mg mb : Str → Option Value} {mean : ExcName → Option Value} {tl : List (Addr × Obj)} {x : Str} {t : Tok} {y c : Addr} {es : List DictEntry} {n : Nat} {Q E : Value → Shared → Prop}
    (_ : Room A 2) (_ : Fr h₀ L s.heap m) (_ : (hd.heap_1 w.params).In h₀) (_ : Top vw lse mean mg mb h₀) (_ : News h₀ L s.heap tl) (_ : (y, instObj 93 c) ∈ tl) (_ : (c, dictOf es n) ∈ tl) (_ : getL (Str.ofString "kind") es = some (some (.str x t)))
    (_ : ∀ z d es' n' h' t', Fr h₀ L h' m → News h₀ L h' ((z, instObj 196 d) :: (d, dictOf es' n') :: tl) → (∀ p ∈ tl, p.1 < d) → d < z → getL (Str.ofString "is_leaf") es' = some none → getL (Str.ofString "token") es' = some (some (.ref y)) → Q (.ref z) { s with heap := h', toks := t' }),
    wpAny (model Challenge.rw_on0168_01.row.prog w) A (call (.ref 196) [.ref y]) Q E s := by
  try row_walk
  k_fill
  intro w A s h₀ L m mg mb mean tl x t y c es n Q E R F X T N hy1 hy2 hy3 ret
  obtain ⟨hh, dp, frs, gd, un⟩ := A
  obtain ⟨R1, R2, R3⟩ := R
  dsimp only at R1 R2 R3
  subst R1
  refine call_cls F X N (by k_is) (by k_is) (by k_is) ?_
  intro z d h1 F1 N1 l1 l2
  have l1' := l1
  have l2' := l2
  refine enterN F1 X N1 T (by k_is) (by k_is) (by simp only [depth_under_make]; show dp + 1 < 1000; omega) (BindsTo.of_eq (binds := [(Str.ofString "self", .ref z), (Str.ofString "token", .ref y)]) rfl) (locs rfl) ?_ rfl rfl rfl (by decide)
  intro g L' h' FG' F' N' X' T' l3
  have hzd : d ≠ z := Nat.ne_of_lt l2
  have hz : ∀ p ∈ tl, p.1 ≠ z := ne_ltAll' l1 (Nat.le_of_lt l2)
  have hd' : ∀ p ∈ tl, p.1 ≠ d := ne_of_ltAll l1
  k_lt2 l2
  (try dsimp only)
  try k_fold
  k_steps
  rename News _ _ _ _ => N9
  exact ret _ _ _ _ _ _ (by assumption) (News.rest N9) l1' l2' (by k_get) (by k_get)
end
end

section
open PySem.Calls
set_option maxRecDepth 100000
noncomputable def rowsM (gv r wd C : Addr) (b e mo : Int) (tb te tm : Tok) : Str → Option Value := fun z => List.lookup z (List.reverse ([(Str.ofString "grammar", .ref gv), (Str.ofString "right", .ref r), (Str.ofString "word", .ref wd), (Str.ofString "begin", .int b tb), (Str.ofString "end", .int e te), (Str.ofString "trees", .ref C), (Str.ofString "most", .int mo tm)] : List (Str × Value)))
section
local macro_rules | `(tactic| walk_at $s) => stp "|pyIter ref|call builtin:dict.get|call builtin:dict.setdefault|" s
local macro_rules | `(tactic| walk_at $s) => fvf "|exec For Name Name cons nil|exec For Name Call cons nil|exec For Name Subscript cons nil|" s
local macro_rules | `(tactic| walk_at "exec For Tuple Name cons nil") => here (frT ftT)
local macro_rules | `(tactic| walk_at "subscriptTail Name Name ref int") => here (oth (thn (rf ``tup_item "amooo?") (inw 1)) (oth (rf ``list_item "amoos?") (rf ``kda_item "amaIs?")))
local macro_rules | `(tactic| walk_at "compareOp In ref ref") => here (rf ``tk_in' "aabmus?")
local macro_rules | `(tactic| walk_at "subscriptTail Name Tuple ref ref") => here (rf ``tk_item "aabmus?")
local macro_rules | `(tactic| walk_at "call type:range") => here (thn (rf ``range2_rows "aa?") (inw 9))
local macro_rules | `(tactic| walk_at "call builtin:len") => here (rf ``call_len_list "Ls?")
local macro_rules | `(tactic| walk_at "call ref") => here (oth (ord 8 1 true (rf ``token_spec "Raaaa?")) (ord 8 2 true (rf ``leaf_spec "Raaaamma?")))
local macro_rules | `(tactic| k_get) => asmT
local macro_rules | `(tactic| walk_at "getMethod ref") => here (rf ``kdgI "ama?")
local macro_rules | `(tactic| walk_at "getMethod ref") => here (rf ``kdg_setdefault "ama?")
local macro_rules | `(tactic| walk_at "binaryOp Add ref ref") => here (thn (rf ``cat_one "aammo?") (inw 6))
local macro_rules | `(tactic| walk_at "call builtin:sorted") => here (ord 7 1 false (rf ``sorted_keys "raamaao?"))

set_option maxHeartbeats 4000000 in
theorem rows_spec : ∀ {w : World} {A : Around} {s : Shared} {h₀ : Heap} {L : Addr} {m mg mb : Str → Option Value} {mean : ExcName → Option Value} {tl : List (Addr × Obj)} {gv r wd C : Addr} {rs ws : List (Int × Tok)} {nr nw : Nat} {b e mo : Int} {tb te tm : Tok} {ts : TS} {Q E : Value → Shared → Prop}
    (_ : Room A 6) (_ : Fr h₀ L s.heap m) (_ : (hd.heap_1 w.params).In h₀) (_ : Top vw lse mean mg mb h₀) (_ : News h₀ L s.heap tl)
    (_ : GramIn tl gv) (_ : (r, tupO (tv rs) nr) ∈ tl) (_ : (wd, tupO (tv ws) nw) ∈ tl) (_ : TK Challenge.rw_on0168_01.row.prog w tl C (tx ts)) (_ : ∀ t ∈ ts, NodesAt tl t.2.2.1 t.2.2.2)
    (_ : rs.length ≤ 3) (_ : ws.length ≤ 4) (_ : ∀ p ∈ ws, p.1 = 3 ∨ p.1 = 4) (_ : 0 ≤ b) (_ : b ≤ e) (_ : e ≤ ws.length) (_ : 1 ≤ mo) (_ : mo ≤ 100000)
    (_ : ∀ a led h' t', Fr h₀ L h' m → News h₀ L h' led → (∀ p ∈ tl, p ∈ led) → RowsAt led a (rowsP (tP ts) (ti ws) b e mo (ti rs)) → Q (.ref a) { s with heap := h', toks := t' }),
    wpAny (model Challenge.rw_on0168_01.row.prog w) A (call (.ref 219) [.ref gv, .ref r, .ref wd, .int b tb, .int e te, .ref C, .int mo tm]) Q E s := by
  try row_walk
  k_fill
  intro w A s h₀ L m mg mb mean tl gv r wd C rs ws nr nw b e mo tb te tm ts Q E R F X T N hg hr hw hC hts hr3 hw4 hws hb hbe he hm1 hm2 ret
  obtain ⟨hh, dp, frs, gd, un⟩ := A
  obtain ⟨R1, R2, R3⟩ := R
  dsimp only at R1 R2 R3
  subst R1
  refine wpAny_call ?_
  refine enterN (binds := [(Str.ofString "grammar", .ref gv), (Str.ofString "right", .ref r), (Str.ofString "word", .ref wd), (Str.ofString "begin", .int b tb), (Str.ofString "end", .int e te), (Str.ofString "trees", .ref C), (Str.ofString "most", .int mo tm)]) F X N T (by k_is) (by k_is) (by show dp < 1000; omega) (BindsTo.of_eq rfl) (locs rfl) ?_ rfl rfl rfl (by decide)
  intro g L' h' FG' F' N' X' T' l1
  change Fr g L' h' (rowsM gv r wd C b e mo tb te tm) at F'
  (try dsimp only)
  k_fold
  k_steps
  refine kdn_eval (knd := intKind _ _) F' N' (Top.nolimit T') rfl rfl (List.cons_ne_nil _ _) (by decide) ?_
  intro R hR oR F1 N1 l2 lo2 hd2
  k_steps
  rename_i D0 _ a1 l0 _ a2 _ o2 hd3 _ F2 N2
  refine stopGo ?_
  have N2' : News g L' _ ((R, o2) :: (l0, listOf #[.ref D0] 0) :: (D0, tupO [] 0) :: tl) := News.subset N2 (by walk_at "mine sub")
  refine loop_tuple (by rfl) F2 N2' (items := (tv rs).toArray) ⟨_, (N2' _ (.tail _ (.tail _ (.tail _ hr)))).1, rfl, nr, rfl⟩ (N2' _ (.tail _ (.tail _ (.tail _ hr)))).2.1
    [Str.ofString "symbol", Str.ofString "later", Str.ofString "spot", Str.ofString "ends", Str.ofString "name", Str.ofString "goal", Str.ofString "some", Str.ofString "row", Str.ofString "ahead", Str.ofString "one"]
    (fun y : Addr × RG => fun z => if z = Str.ofString "reach" then some (.ref y.1) else rowsM gv r wd C b e mo tb te tm z)
    (fun i y news => ∃ o fr, news = (y.1, o) :: fr ∧ (∀ p ∈ tl, p ∈ fr) ∧ o.IsDictOf (intKind Challenge.rw_on0168_01.row.prog w) (kvG y.2) ∧ (y.1 == sysModules) = false ∧ (∀ p ∈ y.2, RowsAt fr p.2.1 p.2.2) ∧ rG y.2 = ((ti rs).take i).foldl (rStep (tP ts) (ti ws) e mo) [(b, [[]])] ∧ (∀ p ∈ y.2, b ≤ p.1 ∧ p.1 ≤ e) ∧ (∀ p ∈ y.2, ∀ ns ∈ p.2.2, ns.length ≤ i))
    (R, [(b, l0, [[]])]) Agr.rfl ⟨o2, _, rfl, by walk_at "mine sub", hd3, lo2, ?_, rfl, ?_, ?_⟩ ?_ ?_
  · intro p hp
    rw [List.mem_singleton.mp hp]
    exact ⟨_, 0, .head _, .cons ⟨D0, [], 0, rfl, .tail _ (.head _), .nil⟩ .nil⟩
  · intro p hp; rw [List.mem_singleton.mp hp]; exact ⟨Int.le_refl _, hbe⟩
  · intro p hp; rw [List.mem_singleton.mp hp]; intro ns hns; rw [List.mem_singleton.mp hns]; exact Nat.le_refl _
  --E
  · clear N2 N2' F2 hd3 a1 a2 l2 lo2 o2 D0 l0
    intro i v y u news₁ h tk It own hv hI hnit hown hItO F3 N3
    obtain ⟨R, gs⟩ := y
    obtain ⟨oR, fr, rfl, hfr, hdR, loR, hrows, hde, hrg, hrl⟩ := hI
    dsimp only at hdR loR hrows hde hrg hrl hnit
    have hi : i < rs.length := by
      have := (List.getElem?_eq_some_iff.mp (by simpa using hv)).1
      simpa [tv] using this
    obtain ⟨⟨sym, tsy⟩, hq⟩ : ∃ q : Int × Tok, rs[i]? = some q := ⟨_, List.getElem?_eq_getElem hi⟩
    obtain rfl : v = .int sym tsy := by simp [tv, hq] at hv; exact hv.symm
    simp only [List.cons_append] at N3
    have hs3 : ∀ p ∈ fr, p ∈ fr ++ own := sub_l
    have ho3 : ∀ p ∈ own, p ∈ fr ++ own := sub_r
    generalize fr ++ own = tl3 at N3 hs3 ho3
    have hkl : (kvG gs).length < 64 := by
      have := nodup_len 5 (gs.map (·.1)) (kvG_nodup hdR) fun x hx => by
        obtain ⟨p, hp, rfl⟩ := List.mem_map.mp hx
        have := hrg p hp; omega
      simp only [kvG, List.length_map] at this ⊢; omega
    k_unmd
    k_fold
    k_steps
    (with_reducible rename PyProof.V.FlatPairs _ _ _ => hff); clear hff
    (with_reducible rename PyProof.V.FlatPairs _ _ _ => hff); clear hff
    (with_reducible rename Obj.IsDictOf (PySem.strKind _ _) _ _ => hff); clear hff
    rename IntsAre _ _ => i1
    rename Fr _ _ _ _ => F4
    rename News _ _ _ _ => N4
    rename Obj.IsDictOf _ _ _ => hdD
    rename_i D hOld oD F00 N00 loD l4 hff2 B vs' cB hff3 tk4 lB
    have hDB : D ≠ B := Nat.ne_of_lt lB.1
    have hRB : R ≠ B := Nat.ne_of_lt lB.2.1
    have hRD : R ≠ D := Nat.ne_of_lt l4.1
    have hBt : ∀ p ∈ tl3, p.1 ≠ B := ne_of_AllLt lB.2.2
    have hDt : ∀ p ∈ tl3, p.1 ≠ D := ne_of_AllLt l4.2
    refine stopGo ?_
    obtain ⟨frz1, hfrz1⟩ : ∃ f, f = (B, W.listOf vs'.toArray cB) :: (R, oR) :: tl3 := ⟨_, rfl⟩
    have hB1 : (B, W.listOf vs'.toArray cB) ∈ frz1 := hfrz1 ▸ .head _
    have hR1 : (R, oR) ∈ frz1 := hfrz1 ▸ .tail _ (.head _)
    have hs1 : ∀ p ∈ tl3, p ∈ frz1 := hfrz1 ▸ fun p hp => .tail _ (.tail _ hp)
    have hD1 : ∀ p ∈ frz1, p.1 ≠ D := hfrz1 ▸ ne_cons hDB.symm (ne_cons hRD hDt)
    have N4' : News g L' _ ((D, oD) :: frz1) := News.subset N4 (by rw [hfrz1]; walk_at "mine sub")
    have hfr1 : ∀ p ∈ fr, p ∈ frz1 := fun p hp => hs1 p (hs3 p hp)
    have htl1 : ∀ p ∈ tl, p ∈ frz1 := fun p hp => hfr1 p (hfr p hp)
    have hgn := kvG_nodup hdR
    refine loop_list (by rfl) F4 N4' (r := B) (items := vs'.toArray) ⟨_, (N4' _ (.tail _ hB1)).1, rfl, cB, rfl⟩ (N4' _ (.tail _ hB1)).2.1
      [Str.ofString "spot", Str.ofString "ends", Str.ofString "name", Str.ofString "goal", Str.ofString "some", Str.ofString "row", Str.ofString "ahead", Str.ofString "one"] (fun _ : RG => _)
      (fun j y news => ∃ mid oD, news = (D, oD) :: (mid ++ frz1) ∧ Lat Challenge.rw_on0168_01.row.prog w fr frz1 mid D oD y ∧ rG y = ((srt (gs.map (·.1))).take j).foldl (rSpot (tP ts) (ti ws) e mo sym (rG gs)) [] ∧ (∀ p ∈ y, b ≤ p.1 ∧ p.1 ≤ e) ∧ (∀ p ∈ y, (p.2.2.length : Int) ≤ mo ∧ ∀ ns ∈ p.2.2, ns.length ≤ i + 1))
      [] Agr.rfl ⟨[], oD, rfl, Lat.nil hdD hD1, rfl, (fun _ h => nomatch h), (fun _ h => nomatch h)⟩ ?_ ?_
    · clear F4 N4 N4' F00 N00 hdD oD
      intro j v y u4 news₁ h4 tk5 It4 own4 hk hI hnit4 hown4 hItO4 F5 N5
      obtain ⟨mid, oD, rfl, X, hdey, hrgy, hlny⟩ := hI
      obtain ⟨k, hkj, kt, rfl⟩ : ∃ k, (srt (gs.map (·.1)))[j]? = some k ∧ ∃ kt, v = .int k kt := by
        have := ints_get i1 (j := j) (v := v) (by simpa using hk)
        rwa [kvG_keys] at this
      have hkg : ∃ la aheads, (k, la, aheads) ∈ gs := by
        obtain ⟨p, hp, rfl⟩ := List.mem_map.mp (mem_srt (List.mem_of_getElem? hkj))
        exact ⟨p.2.1, p.2.2, hp⟩
      obtain ⟨la, aheads, hkg⟩ := hkg
      have hval : valueAt (kvG gs) k = some (.ref la) := kvG_at hgn hkg
      have hgG : gG (rG gs) k = some aheads := rG_get hgn hkg
      have hkr := hrg _ hkg
      dsimp only at hkr
      simp only [List.cons_append] at N5
      have hDB' : D ≠ B := hDB
      obtain ⟨tl5, htl5⟩ : ∃ f, f = (mid ++ frz1) ++ own4 := ⟨_, rfl⟩
      rw [← htl5] at N5
      have hD5 : ∀ p ∈ tl5, p.1 ≠ D := htl5 ▸ own_apart2 hown4 X.off (hnit4 _ (.head _)) hDB.symm
      have h15 : ∀ p ∈ frz1, p ∈ tl5 := htl5 ▸ fun p hp => sub_l _ (sub_r _ hp)
      have hR5 := h15 _ hR1
      have hw5 := h15 _ (htl1 _ hw)
      have hC5 := hC.mono fun p hp => h15 p (htl1 p hp)
      have hg5 := hg.mono fun p hp => h15 p (htl1 p hp)
      refine exec_midF F5 [] (fun (En : Addr) m z => if z = Str.ofString "ends" then some (.ref En) else m z) (fun En news => news = (En, listOf #[] 0) :: (D, oD) :: tl5 ∧ (∀ p ∈ tl5, p.1 ≠ En) ∧ D ≠ En) ?_ ?_
      · k_fold
        k_steps
        rename _ ∧ AllLt _ _ => l6
        exact MidG.intro (by assumption) (by assumption) _ (by walk_at "mine agr") ⟨rfl, ne_of_AllLt l6.2, Nat.ne_of_lt l6.1⟩
      · clear F5 N5
        rintro En h6 tk6 u6 news6 F6 N6 ⟨rfl, hE5, hDE⟩
        dsimp only at F6
        refine exec_mid F6 [Str.ofString "name"] (fun news => ∃ ents n new, news = (En, listOf (List.toArray ents) n) :: (D, oD) :: (new ++ tl5) ∧ EndsIn (new ++ fr) ents (rLeaf (ti ws) e sym k) ∧ (∀ q ∈ new, q.1 ≠ En ∧ q.1 ≠ D ∧ ∀ p ∈ tl5, p.1 ≠ q.1)) ?_ ?_
        --A
        · by_cases hleaf : sym = 3 ∨ sym = 4
          · obtain ⟨gd', ges, gdn, gnl, gnv, gnn, gt, gm1, gm2, gm3, gm4, gm5⟩ := hg5.name hleaf
            k_fold
            k_steps
            · rename k < e => c1
              rename List.getD _ _ _ = sym => c2
              rename Fr _ _ _ _ => F7
              rename News _ _ _ _ => N7
              rename_i y' c' es1 n1 hh1 tk1 hk1 lc ly z' d' es2 n2 hh2 tk2 hk2 hk3 ld lz l' hh3 ll D' hh4 lD hh5
              obtain ⟨t1, N8⟩ : ∃ t1, News g L' _ ((En, listOf #[.ref D'] 1) :: (D, oD) :: ([(D', tupO [.int (k + 1) t1, .ref l'] 0), (l', listOf #[.ref z'] 0), (z', instObj 196 d'), (d', dictOf es2 n2), (y', instObj 93 c'), (c', dictOf es1 n1)] ++ tl5)) := ⟨_, News.subset N7 (by walk_at "mine sub")⟩
              refine Mid.intro F7 N8 (by walk_at "mine agr") ⟨[.ref D'], 1, [(D', tupO [.int (k + 1) t1, .ref l'] 0), (l', listOf #[.ref z'] 0), (z', instObj 196 d'), (d', dictOf es2 n2), (y', instObj 93 c'), (c', dictOf es1 n1)], rfl, ?_, ?_⟩
              · rw [rLeaf, if_pos ⟨c1, c2⟩]
                refine .cons ⟨D', _, l', 0, rfl, sub_l _ (by k_mem), ⟨[.ref z'], 0, sub_l _ (by k_mem), .cons (.leaf hleaf (sub_l _ (by k_mem)) (sub_l _ (by k_mem)) hk2 hk3 (sub_l _ (by k_mem)) (sub_l _ (by k_mem)) hk1) .nil⟩⟩ .nil
              · have q1 := fresh_of lc.1 lc.2.1 lc.2.2 (Nat.le_refl c')
                have q2 := fresh_of lc.1 lc.2.1 lc.2.2 (Nat.le_of_lt ly)
                have q3 := fresh_of ld.2.2.1 ld.2.2.2.1 ld.2.2.2.2 (Nat.le_refl d')
                have q4 := fresh_of ld.2.2.1 ld.2.2.2.1 ld.2.2.2.2 (Nat.le_of_lt lz)
                have q5 := fresh_of ll.2.2.2.2.1 ll.2.2.2.2.2.1 ll.2.2.2.2.2.2 (Nat.le_refl l')
                have q6 := fresh_of lD.2.2.2.2.2.1 lD.2.2.2.2.2.2.1 lD.2.2.2.2.2.2.2 (Nat.le_refl D')
                intro q hq
                simp only [List.mem_cons, List.not_mem_nil, or_false] at hq
                rcases hq with rfl | rfl | rfl | rfl | rfl | rfl
                · exact q6
                · exact q5
                · exact q4
                · exact q3
                · exact q2
                · exact q1
            · rename List.getD _ _ _ ≠ sym => c2
              refine Mid.intro (by assumption) (by assumption) (by walk_at "mine agr") ⟨[], 0, [], rfl, ?_, fun _ h => nomatch h⟩
              rw [rLeaf, if_neg (fun h => c2 h.2)]; exact .nil
            · rename ¬ k < e => c2
              refine Mid.intro (by assumption) (by assumption) (by walk_at "mine agr") ⟨[], 0, [], rfl, ?_, fun _ h => nomatch h⟩
              rw [rLeaf, if_neg (fun h => c2 h.1)]; exact .nil
          · k_fold
            k_steps
            · exfalso
              rename List.getD _ _ _ = sym => c2
              rename k < e => c1
              refine hleaf ?_
              have hkl' : k.toNat < ws.length := by omega
              rw [← c2, List.getD_eq_getElem?_getD, show (ti ws)[k.toNat]? = some (ws[k.toNat]'hkl').1 by simp [ti, hkl']]
              exact hws _ (List.getElem_mem hkl')
            · rename List.getD _ _ _ ≠ sym => c2
              refine Mid.intro (by assumption) (by assumption) (by walk_at "mine agr") ⟨[], 0, [], rfl, ?_, fun _ h => nomatch h⟩
              rw [rLeaf, if_neg (fun h => c2 h.2)]; exact .nil
            · rename ¬ k < e => c2
              refine Mid.intro (by assumption) (by assumption) (by walk_at "mine agr") ⟨[], 0, [], rfl, ?_, fun _ h => nomatch h⟩
              rw [rLeaf, if_neg (fun h => c2 h.1)]; exact .nil
        --/A
        · clear F6 N6
          rintro h7 tk7 u7 news7 F7 N7 ⟨ents0, ne0, new0, rfl, hents0, hnew0⟩
          k_fold
          k_steps
          refine stopGo ?_
          (rename IsRange _ _ _ _ _ _ _ _ => hR7)
          (with_reducible rename Fr _ _ _ _ => F7)
          (with_reducible rename News _ _ _ _ => N7)
          have N7' : News g L' _ ((En, listOf (List.toArray ents0) ne0) :: (D, oD) :: (new0 ++ tl5)) := News.subset N7 (by walk_at "mine sub")
          refine loop_range (by rfl) F7 N7' hR7 (range_small (by omega) (by omega) (by omega) (by omega)) (e + 1 - k).toNat (range_n _ _)
            [Str.ofString "goal"] (fun _ : Unit => _)
            (fun i _ news => ∃ ents n new, news = (En, listOf (List.toArray ents) n) :: (D, oD) :: (new ++ tl5) ∧ EndsIn (new ++ fr) ents ((List.range i).foldl (fun l (i : Nat) => match tP ts (sym, k, k + i) with | some ns => l ++ [(k + i, ns)] | none => l) (rLeaf (ti ws) e sym k)) ∧ (∀ q ∈ new, q.1 ≠ En ∧ q.1 ≠ D ∧ ∀ p ∈ tl5, p.1 ≠ q.1) ∧ ents.length ≤ 1 + i)
            () Agr.rfl ⟨_, _, _, rfl, hents0, hnew0, by
              have := Paired.len hents0
              rw [this, rLeaf]; split <;> simp⟩ ?_ ?_
          --C
          · clear F7 N7 N7' hR7 hents0 hnew0
            intro i8 t8 _ u8 news8 h8 tk8 It8 own8 hi8 hI hnit8 hown8 hItO8 F8 N8
            obtain ⟨ents, n8, new, rfl, hents, hnew, hel⟩ := hI
            simp only [List.cons_append] at N8
            have hE8 : ∀ p ∈ (new ++ tl5) ++ own8, p.1 ≠ En := own_apart hown8 (fun p hp => (List.mem_append.mp hp).elim (fun z => (hnew p z).1) fun z => hE5 p z) (hnit8 _ (.head _))
            have hs8 : ∀ p ∈ new ++ tl5, p ∈ (new ++ tl5) ++ own8 := sub_l
            have ho8 : ∀ p ∈ own8, p ∈ (new ++ tl5) ++ own8 := sub_r
            generalize (new ++ tl5) ++ own8 = tl8 at N8 hE8 hs8 ho8
            have hC8 := hC5.mono fun p hp => hs8 p (sub_r p hp)
            rcases tx_get (k := (sym, k, k + (i8 : Int))) hts with ⟨ha, hb'⟩ | ⟨l, ns, ha, hb', hns⟩
            · have hin : (atK (tx ts) (sym, k, k + (i8 : Int))).isSome = false := by rw [ha]; rfl
              k_unmd
              k_fold
              k_steps
              refine TurnPost.ok (by assumption) (by assumption) () ((En, listOf (List.toArray ents) n8) :: (D, oD) :: (new ++ tl5)) (by walk_at "mine agr") ⟨ents, n8, new, rfl, ?_, hnew, by omega⟩ (by walk_at "mine sub") (by walk_at "mine sub") hnit8
              rw [List.range_succ, List.foldl_append, List.foldl_cons, List.foldl_nil, hb']
              exact hents
            · have hin : (atK (tx ts) (sym, k, k + (i8 : Int))).isSome = true := by rw [ha]; rfl
              k_unmd
              k_fold
              k_steps
              rename Fr _ _ _ _ => F9
              rename News _ _ _ _ => N9
              rename_i D1 g1 d1 D2 g2 d2 D3 g3 d3 g4
              obtain ⟨t1, N9'⟩ : ∃ t1, News g L' _ ((En, listOf (List.toArray (ents ++ [.ref D3])) (n8 + 1)) :: (D, oD) :: (D3, tupO [.int (k + (i8 : Int)) t1, .ref l] 0) :: tl8) := ⟨_, News.subset N9 (by
                rw [show (List.toArray (ents ++ [Value.ref D3])) = (List.toArray ents).push (.ref D3) by simp]
                walk_at "mine sub")⟩
              have q3 := fresh_of d3.2.2.1 d3.2.2.2.1 d3.2.2.2.2 (Nat.le_refl D3)
              refine TurnPost.ok F9 N9' () ((En, listOf (List.toArray (ents ++ [.ref D3])) (n8 + 1)) :: (D, oD) :: ((D3, tupO [.int (k + (i8 : Int)) t1, .ref l] 0) :: new ++ tl5)) (by walk_at "mine agr") ⟨ents ++ [.ref D3], n8 + 1, (D3, tupO [.int (k + (i8 : Int)) t1, .ref l] 0) :: new, rfl, ?_, ?_, by simp; omega⟩ ?_ (by walk_at "mine sub") ?_
              · rw [List.range_succ, List.foldl_append, List.foldl_cons, List.foldl_nil, hb']
                refine Paired.snoc ⟨D3, t1, l, 0, rfl, .head _, hns.mono fun p hp => .tail _ (sub_r _ (hfr p hp))⟩ ?_
                exact hents.mono fun p hp => .tail _ hp
              · intro q hq
                rcases List.mem_cons.mp hq with rfl | hq
                · exact ⟨q3.1, q3.2.1, fun p hp => q3.2.2 p (hs8 p (sub_r p hp))⟩
                · exact hnew q hq
              · exact sub_cons (.head _) (sub_cons (.tail _ (.head _)) (sub_cons (.tail _ (.tail _ (.head _))) fun p hp => .tail _ (.tail _ (.tail _ (hs8 p hp)))))
              · refine ne_head (o := listOf (List.toArray ents) n8) (ne_cons (hnit8 _ (.head _)) (ne_cons (hnit8 _ (.tail _ (.head _))) (ne_cons ?_ fun p hp => hnit8 p (.tail _ (.tail _ hp)))))
                obtain ⟨oi, hoi⟩ := hItO8
                exact fun e => q3.2.2 _ (ho8 _ hoi) e.symm
          --/C
          · clear F7 N7 N7' hR7 hents0 hnew0
            rintro h9 tk9 _ u9 news9 F9 N9 ⟨ents, n9, new, rfl, hents, hnew, hel⟩
            have hpend : (List.range (e + 1 - k).toNat).foldl (fun l (i : Nat) => match tP ts (sym, k, k + i) with | some ns => l ++ [(k + i, ns)] | none => l) (rLeaf (ti ws) e sym k) = rEnds (tP ts) (ti ws) e sym k := rfl
            rw [hpend] at hents
            clear hpend
            generalize hpe : rEnds (tP ts) (ti ws) e sym k = pend at hents
            have hpk : ∀ p ∈ pend, b ≤ p.1 ∧ p.1 ≤ e := by
              intro p hp
              rw [← hpe] at hp
              have := rEnds_keys hkr.2 p hp
              omega
            obtain ⟨frz2, hfrz2⟩ : ∃ f, f = (En, listOf (List.toArray ents) n9) :: (new ++ (frz1 ++ own4)) := ⟨_, rfl⟩
            have hE2 : (En, listOf (List.toArray ents) n9) ∈ frz2 := hfrz2 ▸ .head _
            have hn2 : ∀ p ∈ new, p ∈ frz2 := hfrz2 ▸ fun p hp => .tail _ (sub_l _ hp)
            have h12 : ∀ p ∈ frz1, p ∈ frz2 := hfrz2 ▸ fun p hp => .tail _ (sub_r _ (sub_l _ hp))
            have ho2 : ∀ p ∈ own4, p ∈ frz2 := hfrz2 ▸ fun p hp => .tail _ (sub_r _ (sub_r _ hp))
            have hm5 : ∀ p ∈ mid, p ∈ tl5 := htl5 ▸ fun p hp => sub_l _ (sub_l _ hp)
            have ho5 : ∀ p ∈ own4, p ∈ tl5 := htl5 ▸ fun p hp => sub_r _ hp
            have hf2 : ∀ p ∈ frz2, p = (En, listOf (List.toArray ents) n9) ∨ p ∈ new ∨ p ∈ frz1 ∨ p ∈ own4 := hfrz2 ▸ fun p hp => by
              simp only [List.mem_cons, List.mem_append] at hp
              exact hp
            have X2 : Lat Challenge.rw_on0168_01.row.prog w (new ++ fr) frz2 mid D oD y := by
              refine X.more (fun p hp => sub_r _ hp) (fun q hq p hp => ?_) fun p hp => ?_
              · rcases hf2 p hp with rfl | hp | hp | hp
                · exact fun e => hE5 q (hm5 q hq) e.symm
                · exact fun e => (hnew p hp).2.2 q (hm5 q hq) e.symm
                · exact X.sep q hq p hp
                · exact (hown4 p hp).elim (fun e => e ▸ fun e' => hnit4 q (.tail _ (sub_l _ hq)) e'.symm) fun e => e ▸ X.sep q hq _ hB1
              · rcases hf2 p hp with rfl | hp | hp | hp
                · exact hDE.symm
                · exact (hnew p hp).2.1
                · exact X.off p (sub_r _ hp)
                · exact hD5 p (ho5 p hp)
            have N9' : News g L' h9 ((D, oD) :: (mid ++ frz2)) := News.subset N9 (by
              refine sub_cons (.tail _ (.head _)) fun p hp => ?_
              rcases List.mem_append.mp hp with hp | hp
              · exact .tail _ (.tail _ (sub_r _ (hm5 p hp)))
              · rcases hf2 p hp with rfl | hp | hp | hp
                · exact .head _
                · exact .tail _ (.tail _ (sub_l _ hp))
                · exact .tail _ (.tail _ (sub_r _ (h15 p hp)))
                · exact .tail _ (.tail _ (sub_r _ (ho5 p hp))))
            k_unmd
            k_steps
            refine stopGo ?_
            refine loop_listT (by rfl) (by assumption) N9' (r := En) (items := List.toArray ents) ⟨_, (N9' _ (.tail _ (sub_r _ hE2))).1, rfl, n9, rfl⟩ (N9' _ (.tail _ (sub_r _ hE2))).2.1
              [Str.ofString "goal", Str.ofString "some", Str.ofString "row", Str.ofString "ahead", Str.ofString "one"] (fun _ : RG => _)
              (fun q z news => ∃ mid oD, news = (D, oD) :: (mid ++ frz2) ∧ Lat Challenge.rw_on0168_01.row.prog w (new ++ fr) frz2 mid D oD z ∧ rG z = (pend.take q).foldl (rEnd mo aheads) (rG y) ∧ (∀ p ∈ z, b ≤ p.1 ∧ p.1 ≤ e) ∧ (∀ p ∈ z, (p.2.2.length : Int) ≤ mo ∧ ∀ ns ∈ p.2.2, ns.length ≤ i + 1))
              y Agr.rfl ⟨mid, oD, rfl, X2, rfl, hrgy, hlny⟩ ?_ ?_
            · clear N9 N9' X2
              clear hrgy hlny X hdey
              intro q v z u10 news10 s10 It10 own10 hk10 hI hnit10 hown10 hItO10 F10 N10
              obtain ⟨mid, oD, rfl, X, hdez, hrgz, hlnz⟩ := hI
              obtain ⟨⟨gl, som⟩, hpq, T0, t0, l0, n0, rfl, hT0, hl0⟩ := Paired.get hents (i := q) (a := v) (by simpa using hk10)
              have hgr := hpk _ (List.mem_of_getElem? hpq)
              dsimp only at hT0 hl0 hgr
              simp only [List.cons_append] at N10
              obtain ⟨frz3, hfrz3⟩ : ∃ f, f = frz2 ++ own10 := ⟨_, rfl⟩
              have h23 : ∀ p ∈ frz2, p ∈ frz3 := hfrz3 ▸ sub_l
              have ho3' : ∀ p ∈ own10, p ∈ frz3 := hfrz3 ▸ sub_r
              have hf3 : ∀ p ∈ frz3, p ∈ frz2 ∨ p ∈ own10 := hfrz3 ▸ fun p hp => List.mem_append.mp hp
              have N10' : News g L' s10.heap ((D, oD) :: (mid ++ frz3)) := News.subset N10 (by
                rw [hfrz3, ← List.append_assoc]; exact sub_rf)
              have X3 : Lat Challenge.rw_on0168_01.row.prog w (new ++ fr) frz3 mid D oD z := by
                refine X.more sub_rf (fun q hq p hp => ?_) fun p hp => ?_
                · rcases hf3 p hp with hp | hp
                  · exact X.sep q hq p hp
                  · exact (hown10 p hp).elim (fun e => e ▸ fun e' => hnit10 q (.tail _ (sub_l _ hq)) e'.symm) fun e => e ▸ X.sep q hq _ hE2
                · rcases hf3 p hp with hp | hp
                  · exact X.off p (sub_r _ hp)
                  · exact (hown10 p hp).elim (fun e => e ▸ fun e' => hnit10 _ (.head _) e'.symm) fun e => e ▸ X.off _ (sub_r _ hE2)
              have hnf3 : ∀ p ∈ new ++ fr, p ∈ frz3 := fun p hp => h23 p ((List.mem_append.mp hp).elim (hn2 p) fun z => h12 p (hfr1 p z))
              refine assign_pair (by rfl) F10 N10' (.tail _ (sub_r _ (hnf3 _ hT0))) (by rfl) (by rfl) (by rfl) ?_
              intro h11 tk11 F11 N11
              refine exec_midF F11 [] (fun (a : Addr) m z => if z = Str.ofString "row" then some (.ref a) else m z) (fun a news => ∃ y' mid' oD' rows0, news = (D, oD') :: (mid' ++ frz3) ∧ Lat Challenge.rw_on0168_01.row.prog w (new ++ fr) frz3 mid' D oD' y' ∧ (gl, a, rows0) ∈ y' ∧ rows0 = (gG (rG z) gl).getD [] ∧ (∀ rows, stG (rG y') gl rows = stG (rG z) gl rows) ∧ (∀ p ∈ y', b ≤ p.1 ∧ p.1 ≤ e) ∧ (∀ p ∈ y', (p.2.2.length : Int) ≤ mo ∧ ∀ ns ∈ p.2.2, ns.length ≤ i + 1)) ?_ ?_
              --D
              · have hdD := X3.dict
                k_steps
                rename Fr _ _ _ _ => Fa
                rename News _ _ _ _ => Na
                rename_i a0 g11 la0
                have hzl : (kvG z).length ≤ 100000 := by
                  have := nodup_len 5 (z.map (·.1)) (kvG_nodup hdD) fun x hx => by
                    obtain ⟨p, hp, rfl⟩ := List.mem_map.mp hx
                    have := hrgz p hp; omega
                  simp only [kvG, List.length_map] at this ⊢; omega
                have ha0 : ∀ p ∈ mid ++ frz3, p.1 ≠ a0 := ne_of_AllLt la0.2
                have hDa0 : a0 ≠ D := Nat.ne_of_gt la0.1
                refine stopGo ?_
                refine setdef (rest := (a0, listOf #[] 0) :: (mid ++ frz3)) (by assumption) (News.subset Na (by walk_at "mine sub")) (ne_cons hDa0 X3.off) hdD loD hzl (fun v hv => ?_) fun hn h13 o13 F13 N13 hd13 => ?_
                · obtain ⟨a, rows0, rfl, hm⟩ := kvG_some hv
                  k_steps
                  rename Fr _ _ _ _ => F14
                  rename News _ _ _ _ => N14
                  refine MidG.intro F14 (News.subset N14 (by walk_at "mine sub")) a Agr.rfl ⟨z, mid, oD, rows0, rfl, X3, hm, ?_, fun _ => rfl, hrgz, hlnz⟩
                  rw [rG_get (kvG_nodup hdD) hm]; rfl
                · k_steps
                  rename Fr _ _ _ _ => F14
                  rename News _ _ _ _ => N14
                  have hg0 := rG_none hn
                  refine MidG.intro F14 (News.subset N14 (by walk_at "mine sub")) a0 Agr.rfl ⟨z ++ [(gl, a0, [])], (a0, listOf #[] 0) :: mid, o13, [], rfl, X3.add hd13 hn ha0 hDa0, by simp, ?_, ?_, ?_, ?_⟩
                  · rw [hg0]; rfl
                  · intro rows
                    rw [show rG (z ++ [(gl, a0, [])]) = rG z ++ [(gl, [])] by simp [rG]]
                    exact stG_fresh hg0
                  · intro p hp
                    rcases List.mem_append.mp hp with hp | hp
                    · exact hrgz p hp
                    · rw [List.mem_singleton.mp hp]; exact hgr
                  · intro p hp
                    rcases List.mem_append.mp hp with hp | hp
                    · exact hlnz p hp
                    · rw [List.mem_singleton.mp hp]; exact ⟨by simp; omega, fun ns hns => nomatch hns⟩
              --/D
              · clear F10 N10 N10' F11 N11
                rintro a hh12 tk12 u12 news12 F12 N12 ⟨y', mid', oD', rows0, rfl, X4, hay, hr0, hst, hrg4, hln4⟩
                obtain ⟨vs0, n0', hm0, hp0⟩ := X4.rows _ hay
                obtain ⟨bs, hbs⟩ : ∃ f, f = Mine.off a mid' ++ frz3 := ⟨_, rfl⟩
                have hab : ∀ p ∈ bs, p.1 ≠ a := hbs ▸ fun p hp => (List.mem_append.mp hp).elim (off_ne p) fun hp => X4.sep (a, listOf (List.toArray vs0) n0') hm0 p hp
                have hDb : ∀ p ∈ bs, p.1 ≠ D := hbs ▸ fun p hp => X4.off p ((List.mem_append.mp hp).elim (fun z => sub_l _ (off_sub p z)) fun z => sub_r _ z)
                have haD : a ≠ D := X4.off (a, listOf (List.toArray vs0) n0') (sub_l _ hm0)
                have h3b : ∀ p ∈ frz3, p ∈ bs := hbs ▸ sub_r
                have hmb : ∀ p ∈ Mine.off a mid', p ∈ bs := hbs ▸ sub_l
                have N13 : News g L' hh12 ((a, listOf (List.toArray vs0) n0') :: (D, oD') :: bs) := News.subset N12 (by
                  refine sub_cons (.tail _ (sub_l _ hm0)) (sub_cons (.head _) fun p hp => .tail _ ?_)
                  rw [hbs] at hp
                  exact (List.mem_append.mp hp).elim (fun z => sub_l _ (off_sub p z)) fun z => sub_r _ z)
                obtain ⟨stb, hstb⟩ : ∃ f, f = Mine.off a mid' ++ (new ++ fr) := ⟨_, rfl⟩
                have hsb : ∀ p ∈ stb, p ∈ bs := hstb ▸ fun p hp => (List.mem_append.mp hp).elim (hmb p) fun z => h3b p (hnf3 p z)
                have hnfs : ∀ p ∈ new ++ fr, p ∈ stb := hstb ▸ fun p hp => sub_r _ hp
                have hp1 : Paired (RowIn stb) vs0 rows0 := Paired.imp (fun _ _ => RowIn.monoNL fun p hp hn => by
                  rw [hstb]
                  rcases List.mem_append.mp hp with hp | hp
                  · refine sub_l _ (mem_off.mpr ⟨hp, fun e => hn ?_⟩)
                    have : listOf (List.toArray vs0) n0' = p.2 := News.same N12 (.tail _ (sub_l _ hm0)) (.tail _ (sub_l _ (by rw [← e]; exact hp)))
                    rw [← this]
                  · exact sub_r _ hp) hp0
                have hR13 : (R, oR) ∈ bs := h3b _ (h23 _ (h12 _ hR1))
                obtain ⟨avs, an, hla, hap⟩ := hrows _ hkg
                dsimp only at hla
                have hla13 : (la, listOf (List.toArray avs) an) ∈ bs := h3b _ (hnf3 _ (sub_r _ hla))
                obtain ⟨nvs, nn, hl0', hnp⟩ := hl0
                have hl13 : (l0, listOf (List.toArray nvs) nn) ∈ bs := h3b _ (hnf3 _ hl0')
                k_steps
                refine stopGo ?_
                refine loop_list (by rfl) (by assumption) N13 (r := la) (items := avs.toArray) ⟨_, (N13 _ (.tail _ (.tail _ hla13))).1, rfl, an, rfl⟩ (N13 _ (.tail _ (.tail _ hla13))).2.1
                  [Str.ofString "ahead", Str.ofString "one"] (fun _ : Unit => _)
                  (fun q _ news => ∃ vs n nw, news = (a, listOf (List.toArray vs) n) :: (D, oD') :: (nw ++ bs) ∧ Paired (RowIn (nw ++ stb)) vs (rRow mo (aheads.take q) som rows0) ∧ (∀ q ∈ nw, q.1 ≠ a ∧ q.1 ≠ D ∧ ∀ p ∈ bs, p.1 ≠ q.1))
                  () Agr.rfl ⟨vs0, n0', [], rfl, hp1, fun _ h => nomatch h⟩ ?_ ?_
                · clear N13
                  intro q1 v1 _ u14 news14 h14 tk14 It14 own14 hk14 hI hnit14 hown14 hItO14 F14 N14
                  obtain ⟨vs, n, nw, rfl, hpr, hnw⟩ := hI
                  obtain ⟨x, hx, va, tvs, tn, rfl, hva, htp⟩ := Paired.get hap (i := q1) (a := v1) (by simpa using hk14)
                  have hxl : x.length ≤ i := hrl _ hkg x (List.mem_of_getElem? hx)
                  have htl : tvs.length ≤ i := by rw [Paired.len htp]; exact hxl
                  simp only [List.cons_append] at N14
                  obtain ⟨tl14, htl14⟩ : ∃ f, f = (nw ++ bs) ++ own14 := ⟨_, rfl⟩
                  rw [← htl14] at N14
                  have ha14 : ∀ p ∈ tl14, p.1 ≠ a := htl14 ▸ own_apart2 hown14 (fun p hp => (List.mem_append.mp hp).elim (fun z => (hnw p z).1) (hab p)) (hnit14 _ (.head _)) (hab _ hla13)
                  have hD14 : ∀ p ∈ tl14, p.1 ≠ D := htl14 ▸ own_apart2 hown14 (fun p hp => (List.mem_append.mp hp).elim (fun z => (hnw p z).2.1) (hDb p)) (hnit14 _ (.tail _ (.head _))) (hDb _ hla13)
                  have hb14 : ∀ p ∈ bs, p ∈ tl14 := htl14 ▸ fun p hp => sub_l _ (sub_r _ hp)
                  have hn14 : ∀ p ∈ nw, p ∈ tl14 := htl14 ▸ fun p hp => sub_l _ (sub_l _ hp)
                  have ho14 : ∀ p ∈ own14, p ∈ tl14 := htl14 ▸ sub_r
                  have hl14 := hb14 _ hl13
                  have hva14 : (va, tupO tvs tn) ∈ tl14 := hb14 _ (h3b _ (hnf3 _ (sub_r _ hva)))
                  k_unmd
                  try k_fold
                  k_steps
                  refine stopGo ?_
                  refine loop_list (by rfl) (by assumption) N14 (r := l0) (items := nvs.toArray) ⟨_, (N14 _ (.tail _ (.tail _ hl14))).1, rfl, nn, rfl⟩ (N14 _ (.tail _ (.tail _ hl14))).2.1
                    [Str.ofString "one"] (fun _ : Unit => _)
                    (fun q _ news => ∃ vs n nw2, news = (a, listOf (List.toArray vs) n) :: (D, oD') :: (nw2 ++ tl14) ∧ Paired (RowIn (nw2 ++ (nw ++ stb))) vs ((som.take q).foldl (fun rows o => pushCap mo rows (x ++ [o])) (rRow mo (aheads.take q1) som rows0)) ∧ (∀ q ∈ nw2, q.1 ≠ a ∧ q.1 ≠ D ∧ ∀ p ∈ tl14, p.1 ≠ q.1))
                    () Agr.rfl ⟨vs, n, [], rfl, hpr, fun _ h => nomatch h⟩ ?_ ?_
                  · clear N14
                    intro q2 v2 _ u15 news15 h15 tk15 It15 own15 hk15 hI hnit15 hown15 hItO15 F15 N15
                    obtain ⟨vs, n, nw2, rfl, hpr2, hnw2⟩ := hI
                    obtain ⟨nd, hnd, hNd⟩ := Paired.get hnp (i := q2) (a := v2) (by simpa using hk15)
                    obtain ⟨x2, rfl⟩ : ∃ x2, v2 = .ref x2 := by cases hNd <;> exact ⟨_, rfl⟩
                    simp only [List.cons_append] at N15
                    obtain ⟨tl15, htl15⟩ : ∃ f, f = (nw2 ++ tl14) ++ own15 := ⟨_, rfl⟩
                    rw [← htl15] at N15
                    have ha15 : ∀ p ∈ tl15, p.1 ≠ a := htl15 ▸ own_apart2 hown15 (fun p hp => (List.mem_append.mp hp).elim (fun z => (hnw2 p z).1) (ha14 p)) (hnit15 _ (.head _)) (ha14 _ hl14)
                    have hD15 : ∀ p ∈ tl15, p.1 ≠ D := htl15 ▸ own_apart2 hown15 (fun p hp => (List.mem_append.mp hp).elim (fun z => (hnw2 p z).2.1) (hD14 p)) (hnit15 _ (.tail _ (.head _))) (hD14 _ hl14)
                    have hb15 : ∀ p ∈ tl14, p ∈ tl15 := htl15 ▸ fun p hp => sub_l _ (sub_r _ hp)
                    have hn15 : ∀ p ∈ nw2, p ∈ tl15 := htl15 ▸ fun p hp => sub_l _ (sub_l _ hp)
                    have ho15 : ∀ p ∈ own15, p ∈ tl15 := htl15 ▸ sub_r
                    have hva15 := hb15 _ hva14
                    have hvl : (vs.length : Int) ≤ mo := by
                      rw [Paired.len hpr2]
                      refine pushes_len (rRow_cap ?_)
                      exact (hln4 _ hay).1
                    have hvl2 : ((List.toArray vs).size : Int) < 2 ^ 63 := by simp only [List.size_toArray]; omega
                    k_unmd
                    try k_fold
                    k_steps
                    · rename _ < mo => clt
                      rename Fr _ _ _ _ => F16
                      rename News _ _ _ _ => N16
                      rename_i tk16 D1 g1 F1o N1o d1 T1 nT1 g2 ap
                      have hD1 : ∀ p ∈ tl15, p.1 ≠ D1 := ne_of_AllLt d1.2.2
                      have hT1 : ∀ p ∈ tl15, p.1 ≠ T1 := fun p hp => ap p (.tail _ (.tail _ (.tail _ hp))) (hD1 p hp)
                      have hTa : a ≠ T1 := ap (a, listOf (List.toArray vs) n) (.tail _ (.head _)) (Nat.ne_of_lt d1.1)
                      have hTD : D ≠ T1 := ap (D, oD') (.tail _ (.tail _ (.head _))) (Nat.ne_of_lt d1.2.1)
                      have N17 : News g L' g2 ((a, listOf (List.toArray vs) n) :: (D, oD') :: (T1, tupO (tvs ++ [.ref x2]) nT1) :: tl15) := News.subset N16 (by walk_at "mine sub")
                      refine append_K F16 N17 (.head (ne_cons haD.symm (ne_cons hTa.symm ha15))) ?_ (by simp only [List.size_toArray] at *; rw [sizeLine_eq]; omega)
                      intro h18 F18 N18
                      k_steps
                      refine TurnPost.ok F18 (led := (a, listOf (List.toArray (vs ++ [.ref T1])) (n + 1)) :: (D, oD') :: (T1, tupO (tvs ++ [.ref x2]) nT1) :: tl15) (by rw [show (List.toArray (vs ++ [Value.ref T1])) = (List.toArray vs).push (.ref T1) by simp]; exact N18)
                        () ((a, listOf (List.toArray (vs ++ [.ref T1])) (n + 1)) :: (D, oD') :: ((T1, tupO (tvs ++ [.ref x2]) nT1) :: nw2 ++ tl14)) (by walk_at "mine agr") ⟨vs ++ [.ref T1], n + 1, (T1, tupO (tvs ++ [.ref x2]) nT1) :: nw2, rfl, ?_, ?_⟩ ?_ ?_ ?_
                      · rw [take_foldl _ _ hnd]
                        have e : pushCap mo ((som.take q2).foldl (fun rows o => pushCap mo rows (x ++ [o])) (rRow mo (List.take q1 aheads) som rows0)) (x ++ [nd]) = (som.take q2).foldl (fun rows o => pushCap mo rows (x ++ [o])) (rRow mo (List.take q1 aheads) som rows0) ++ [x ++ [nd]] := by
                          rw [pushCap, if_pos]
                          rw [← Paired.len hpr2]
                          simpa using clt
                        rw [e]
                        refine Paired.snoc ⟨T1, tvs ++ [.ref x2], nT1, rfl, .head _, Paired.snoc ?_ ?_⟩ (Paired.imp (fun _ _ => RowIn.monoNL fun p hp _ => .tail _ hp) hpr2)
                        · exact hNd.monoNL fun p hp _ => .tail _ (sub_r _ (sub_r _ (hnfs p hp)))
                        · exact Paired.imp (fun _ _ => NodeIn.monoNL fun p hp _ => .tail _ (sub_r _ (sub_r _ (hnfs p (sub_r _ hp))))) htp
                      · intro q hq
                        rcases List.mem_cons.mp hq with rfl | hq
                        · exact ⟨hTa.symm, hTD.symm, fun p hp => hT1 p (hb15 p hp)⟩
                        · exact hnw2 q hq
                      · refine sub_cons (.head _) (sub_cons (.tail _ (.head _)) (sub_cons (.tail _ (.tail _ (.head _))) fun p hp => .tail _ (.tail _ (.tail _ ((List.mem_append.mp hp).elim (hn15 p) (hb15 p))))))
                      · exact fun p hp => .tail _ (.tail _ (.tail _ (ho15 p hp)))
                      · refine ne_head (o := listOf (List.toArray vs) n) (ne_cons (hnit15 _ (.head _)) (ne_cons (hnit15 _ (.tail _ (.head _))) (ne_cons ?_ fun p hp => hnit15 p (.tail _ (.tail _ hp)))))
                        obtain ⟨oi, hoi⟩ := hItO15
                        exact fun e => hT1 _ (ho15 _ hoi) e.symm
                    · rename ¬ _ < mo => clt
                      refine TurnPost.ok (by assumption) N15 () ((a, listOf (List.toArray vs) n) :: (D, oD') :: (nw2 ++ tl14)) (by walk_at "mine agr") ⟨vs, n, nw2, rfl, ?_, hnw2⟩ ?_ ?_ hnit15
                      · rw [take_foldl _ _ hnd]
                        have e : pushCap mo ((som.take q2).foldl (fun rows o => pushCap mo rows (x ++ [o])) (rRow mo (List.take q1 aheads) som rows0)) (x ++ [nd]) = (som.take q2).foldl (fun rows o => pushCap mo rows (x ++ [o])) (rRow mo (List.take q1 aheads) som rows0) := by
                          rw [pushCap, if_neg]
                          rw [← Paired.len hpr2]
                          simpa using clt
                        rw [e]
                        exact hpr2
                      · refine sub_cons (.head _) (sub_cons (.tail _ (.head _)) fun p hp => .tail _ (.tail _ ((List.mem_append.mp hp).elim (hn15 p) (hb15 p))))
                      · exact fun p hp => .tail _ (.tail _ (ho15 p hp))
                  · rintro h17 tk17 _ u17 news17 F17 N17 ⟨vs, n, nw2, rfl, hpr2, hnw2⟩
                    k_unmd
                    k_steps
                    refine TurnPost.ok (by assumption) N17 () ((a, listOf (List.toArray vs) n) :: (D, oD') :: ((nw2 ++ nw) ++ bs)) (by walk_at "mine agr") ⟨vs, n, nw2 ++ nw, rfl, ?_, ?_⟩ ?_ ?_ ?_
                    · rw [take_all (l := som) (by simp [Paired.len hnp])] at hpr2
                      rw [List.append_assoc, rRow, take_foldl _ _ hx]
                      exact hpr2
                    · intro q hq
                      rcases List.mem_append.mp hq with hq | hq
                      · exact ⟨(hnw2 q hq).1, (hnw2 q hq).2.1, fun p hp => (hnw2 q hq).2.2 p (hb14 p hp)⟩
                      · exact hnw q hq
                    · refine sub_cons (.head _) (sub_cons (.tail _ (.head _)) fun p hp => .tail _ (.tail _ ?_))
                      rcases List.mem_append.mp hp with hp | hp
                      · rcases List.mem_append.mp hp with hp | hp
                        · exact sub_l _ hp
                        · exact sub_r _ (hn14 p hp)
                      · exact sub_r _ (hb14 p hp)
                    · exact fun p hp => .tail _ (.tail _ (sub_r _ (ho14 p hp)))
                    · refine ne_head (o := listOf (List.toArray vs0) n0') (ne_cons (fun e => ?_) (ne_cons (hnit14 _ (.tail _ (.head _))) fun p hp => ?_))
                      · obtain ⟨oi, hoi⟩ := hItO14
                        exact ha14 _ (ho14 _ hoi) e.symm
                      · rcases List.mem_append.mp hp with hp | hp
                        · rcases List.mem_append.mp hp with hp | hp
                          · obtain ⟨oi, hoi⟩ := hItO14
                            exact fun e => (hnw2 p hp).2.2 _ (ho14 _ hoi) e.symm
                          · exact hnit14 p (.tail _ (.tail _ (sub_l _ hp)))
                        · exact hnit14 p (.tail _ (.tail _ (sub_r _ hp)))
                · rintro h18 tk18 _ u18 news18 F18 N18 ⟨vs, n, nw, rfl, hpr, hnw⟩
                  k_unmd
                  k_steps
                  rw [take_all (l := aheads) (by simp [Paired.len hap])] at hpr
                  rw [hstb] at hpr
                  have XN := X4.put (n := n) (frz' := frz2) hay N12 (fun p hp => .tail _ ((List.mem_append.mp hp).elim (fun z => sub_l _ z) fun z => sub_r _ (hnf3 p z))) hpr (fun q hq => ⟨fun p hp => (hnw q hq).2.2 p (h3b p (h23 p hp)), (hnw q hq).2.1⟩) h23
                  refine TurnT.ok (by assumption) N18 (setRows y' gl (rRow mo aheads som rows0)) ((D, oD') :: (((a, listOf (List.toArray vs) n) :: (nw ++ Mine.off a mid')) ++ frz2)) (by walk_at "mine agr") ⟨_, oD', rfl, XN, ?_, ?_, ?_⟩ ?_ ?_ ?_
                  · rw [rG_setRows hay, hst, take_foldl _ _ hpq, ← hdez, hr0]; rfl
                  · intro p hp
                    obtain ⟨q, hq, e1, _, _⟩ := mem_setRows hp
                    rw [e1]; exact hrg4 q hq
                  · intro p hp
                    obtain ⟨q, hq, _, _, e3⟩ := mem_setRows hp
                    rcases e3 with e3 | rfl
                    · rw [e3]
                      exact ⟨rRow_cap (hln4 _ hay).1, rRow_len (hrl _ hkg) (hln4 _ hay).2⟩
                    · exact hln4 _ hq
                  · refine sub_cons (.tail _ (.head _)) (sub_cons (.head _) fun p hp => .tail _ (.tail _ ?_))
                    rcases List.mem_append.mp hp with hp | hp
                    · rcases List.mem_append.mp hp with hp | hp
                      · exact sub_l _ hp
                      · exact sub_r _ (hmb p hp)
                    · exact sub_r _ (h3b p (h23 p hp))
                  · exact fun p hp => .tail _ (.tail _ (sub_r _ (h3b p (ho3' p hp))))
                  · obtain ⟨oi, hoi⟩ := hItO10
                    have hIb := h3b _ (ho3' _ hoi)
                    refine ne_cons (show D ≠ It10 from hnit10 (D, oD) (.head _)) (ne_cons (fun e => hab _ hIb e.symm) fun p hp => ?_)
                    rcases List.mem_append.mp hp with hp | hp
                    · rcases List.mem_append.mp hp with hp | hp
                      · exact fun e => (hnw p hp).2.2 _ hIb e.symm
                      · exact fun e => X4.sep p (off_sub p hp) _ (ho3' _ hoi) e.symm
                    · exact hnit10 p (.tail _ (sub_r _ hp))
            · rintro h19 tk19 y9 u19 news19 F19 N19 ⟨mid9, oD9, rfl, X9, hde9, hrg9, hln9⟩
              k_unmd
              k_steps
              refine TurnPost.ok (by assumption) N19 y9 ((D, oD9) :: ((mid9 ++ new) ++ frz1)) (by walk_at "mine agr") ⟨mid9 ++ new, oD9, rfl, X9.melt h12 hn2 (fun q hq p hp => (hnew q hq).2.2 p (h15 p hp)), ?_, hrg9, hln9⟩ ?_ ?_ ?_
              · rw [take_all (l := pend) (by simp [Paired.len hents])] at hde9
                rw [hde9, take_foldl _ _ hkj, ← hdey, rSpot, hpe, hgG]; rfl
              · refine sub_cons (.head _) fun p hp => .tail _ ?_
                rcases List.mem_append.mp hp with hp | hp
                · rcases List.mem_append.mp hp with hp | hp
                  · exact sub_l _ hp
                  · exact sub_r _ (hn2 p hp)
                · exact sub_r _ (h12 p hp)
              · exact fun p hp => .tail _ (sub_r _ (ho2 p hp))
              · obtain ⟨oi, hoi⟩ := hItO4
                refine ne_cons (show D ≠ It4 from hnit4 (D, oD) (.head _)) fun p hp => ?_
                rcases List.mem_append.mp hp with hp | hp
                · rcases List.mem_append.mp hp with hp | hp
                  · exact fun e => X9.sep p hp _ (ho2 _ hoi) e.symm
                  · exact fun e => (hnew p hp).2.2 _ (ho5 _ hoi) e.symm
                · exact hnit4 p (.tail _ (sub_r _ hp))
    · clear F4 N4 N4' F00 N00 hdD oD
      rintro h20 tk20 y20 u20 news20 F20 N20 ⟨mid, oD, rfl, X, hdey, hrgy, hlny⟩
      k_unmd
      k_steps
      have hle : vs'.length = (srt (gs.map (·.1))).length := by rw [i1.length, kvG_keys]
      refine TurnPost.ok (by assumption) (by assumption) (D, y20) ((D, oD) :: (mid ++ fr)) ?_ ⟨oD, mid ++ fr, rfl, fun p hp => sub_r _ (hfr p hp), X.dict, loD, ?_, ?_, hrgy, fun p hp => (hlny p hp).2⟩ ?_ ?_ ?_
      · refine Agr.cong ?_
        walk_at "mine agr"
      · intro p hp
        obtain ⟨vs, n, x1, x2⟩ := X.rows p hp
        exact ⟨vs, n, sub_l _ x1, x2⟩
      · have hq' : (ti rs)[i]? = some sym := by simp [ti, hq]
        rw [take_all (l := srt (gs.map (·.1))) (by simp [hle])] at hdey
        rw [take_foldl _ _ hq', ← hde, rStep, rG_keys]
        exact hdey
      · refine sub_cons (.head _) fun p hp => .tail _ ?_
        exact (List.mem_append.mp hp).elim (fun z => sub_l _ z) fun z => sub_r _ (hfr1 p z)
      · exact fun p hp => .tail _ (sub_r _ (hs1 p (ho3 p hp)))
      · obtain ⟨oi, hoi⟩ := hItO
        have hI1 := hs1 _ (ho3 _ hoi)
        refine ne_cons (fun e => hD1 _ hI1 e.symm) fun p hp => ?_
        rcases List.mem_append.mp hp with hp | hp
        · exact fun e => X.sep p hp _ hI1 e.symm
        · exact hnit p (.tail _ hp)
  --/E
  · rintro h21 tk21 ⟨R9, y9⟩ u21 news21 F21 N21 ⟨o9, fr, rfl, hfr, hd9, lo9, hrows, hde9, hrg9, hrl9⟩
    dsimp only at hd9 lo9 hrows hde9 hrg9 hrl9
    rw [take_all (l := ti rs) (by simp [tv, ti])] at hde9
    have hrP : rowsP (tP ts) (ti ws) b e mo (ti rs) = (gG (rG y9) e).getD [] := by rw [rowsP, ← hde9]
    k_unmd
    k_steps
    refine stopGo ?_
    cases hv : valueAt (kvG y9) e with
    | none =>
      refine kdg_get2 (knd := intKind _ _) (by assumption) (by k_mem) hd9 lo9 (intKind_is _ _ _ _) none hv ?_
      k_steps
      rename News h₀ _ _ _ => N30
      refine ret _ _ _ _ (by assumption) N30 (fun p hp => .tail _ (.tail _ (hfr p hp))) ?_
      rw [hrP, rG_none hv]
      exact ⟨[], 0, .head _, .nil⟩
    | some v =>
      obtain ⟨a, rows, rfl, hm⟩ := kvG_some hv
      refine kdg_get2 (knd := intKind _ _) (by assumption) (by k_mem) hd9 lo9 (intKind_is _ _ _ _) _ hv ?_
      k_steps
      rename News h₀ _ _ _ => N30
      refine ret _ _ _ _ (by assumption) N30 (fun p hp => .tail _ (.tail _ (hfr p hp))) ?_
      rw [hrP, rG_get (kvG_nodup hd9) hm]
      exact (hrows _ hm).mono fun p hp => .tail _ (.tail _ hp)
end
end

section
open PySem.Calls
set_option maxRecDepth 100000
section
variable {prog : Program} {w : World} {A : Around} {E : Value → Shared → Prop} {s : Shared} {h₀ : Heap} {L : Addr} {m : Str → Option Value} {env : Env}
open LCg in
theorem rest_inv {elt : Expr} {x : Str} {scope : Scope} {cl : List (Str × Addr)} {S : List (Addr × Obj) → Prop} {P : Nat → Value → Prop} {Fin : List Value → List (Addr × Obj) → Prop} {n : Nat}
    (Inv : Nat → List Value → List (Addr × Obj) → Prop)
    (turn : ∀ j v ys news I oI C oC D m₂ h tk (E' : Value → Shared → Prop), j < n → P j v → Inv j ys news → NsObj oC m₂ → m₂ x = some v → Fr h₀ L h m → News h₀ L h ((I, oI) :: (C, oC) :: (D, lst ys) :: news) → (∀ p ∈ news, p.1 ≠ I ∧ p.1 ≠ C ∧ p.1 ≠ D) → ((@Ne Nat I C) ∧ (@Ne Nat I D) ∧ (@Ne Nat C D)) →
      wpAny (model prog w) A (eval elt (compEnvC scope cl C env)) (CompEnd h₀ L m { s with heap := h, toks := tk } I oI C oC D (lst ys) S (fun y news' => Inv (j + 1) (ys ++ [y]) news')) E' { s with heap := h, toks := tk })
    (fin : ∀ ys news, Inv n ys news → Fin ys news) : ∀ (k i : Nat) (ys : List Value) (news : List (Addr × Obj)), i + k = n → Inv i ys news → CompRest prog w A h₀ L m env elt x scope cl s S P Fin k i ys news := by
  intro k
  induction k with
  | zero =>
    intro i ys news e hI
    have : i = n := by omega
    subst this
    exact fin ys news hI
  | succ k ih =>
    intro i ys news e hI
    refine CompRest.succ ?_
    intro v I oI C oC D m₂ h tk E' hP hO hx F N off ne
    refine wpAny_mono (turn i v ys news I oI C oC D m₂ h tk E' (by omega) hP hI hO hx F N off.mem ne) (fun y s₂ hy => ?_) fun _ _ z => z
    obtain ⟨h', tk', news', rfl, F', N', off', hS, r⟩ := hy
    exact ⟨h', tk', news', rfl, F', N', off', hS, ih (i + 1) _ _ (by omega) r⟩
open LCg in
theorem compEnd {I C D : Addr} {s₁ : Shared} {oI oC oD : Obj} {S : List (Addr × Obj) → Prop} {rest : Value → List (Addr × Obj) → Prop} {y : Value} {h' : Heap} {tk : Nat} {all : List (Addr × Obj)}
    (F : Fr h₀ L h' m) (N : News h₀ L h' all) (news' : List (Addr × Obj)) (sub : ∀ p ∈ (I, oI) :: (C, oC) :: (D, oD) :: news', p ∈ all) (off : ∀ p ∈ news', p.1 ≠ I ∧ p.1 ≠ C ∧ p.1 ≠ D) (hS : S news') (r : rest y news') :
    CompEnd h₀ L m s₁ I oI C oC D oD S rest y { s₁ with heap := h', toks := tk } := CompEnd.intro F N news' sub (Off3.of off) hS r
open LCg in
theorem off1_mem {D : Addr} : ∀ {l : List (Addr × Obj)}, Off1 D l → ∀ p ∈ l, p.1 ≠ D
  | [], _, _, h => nomatch h
  | _ :: _, x, p, h => by
    rcases List.mem_cons.mp h with rfl | h
    · exact x.1
    · exact off1_mem x.2 p h

/-! the labels -/
/-- a tuple of strs -/
noncomputable def StrsTup (led : List (Addr × Obj)) (v : Value) (ls : List Str) : Prop := ∃ a vs n, v = .ref a ∧ (a, tupO vs n) ∈ led ∧ StrsAre vs ls
theorem StrsTup.mono {led led' : List (Addr × Obj)} (hs : ∀ p ∈ led, p ∈ led') {v : Value} {ls : List Str} : StrsTup led v ls → StrsTup led' v ls
  | ⟨a, vs, n, e, h, p⟩ => ⟨a, vs, n, e, hs _ h, p⟩
theorem StrsTup.monoNL {led led' : List (Addr × Obj)} (hs : ∀ p ∈ led, NL p.2 → p ∈ led') {v : Value} {ls : List Str} : StrsTup led v ls → StrsTup led' v ls
  | ⟨a, vs, n, e, h, p⟩ => ⟨a, vs, n, e, hs _ h nl_tup, p⟩
end


noncomputable def lab : Node → Str
  | .tree k => Str.ofString (toString k)
  | .leaf s => Str.ofString "leaf " ++ Str.ofString (toString s)
noncomputable def optN (T : K3 → Option (List Node)) (word : List Int) (sy b e : Int) : List Node := if sy < 5 then (if e = b + 1 ∧ word.getD b.toNat 0 = sy then [.leaf sy] else []) else (T (sy, b, e)).getD []
/-- the nodes handed in are marked trees -/
noncomputable def Marked (ts : TS) : Prop := ∀ t ∈ ts, ∀ nd ∈ t.2.2.2, ∃ k : Int, nd = .tree k ∧ 0 ≤ k ∧ k ≤ 1000
theorem marked_tP {ts : TS} (h : Marked ts) {k : K3} {ns : List Node} (e : tP ts k = some ns) : ∀ nd ∈ ns, ∃ k : Int, nd = .tree k ∧ 0 ≤ k ∧ k ≤ 1000 := by
  obtain ⟨t, ht, rfl⟩ := Option.map_eq_some_iff.mp e
  exact h t (List.mem_of_find?_eq_some ht)
theorem strs_snoc {vs : List Value} {ls : List Str} (h : StrsAre vs ls) (x : Str) (t : Tok) : StrsAre (vs ++ [.str x t]) (ls ++ [x]) := by
  induction h with
  | nil => exact .cons x t .nil
  | cons x t _ ih => exact .cons x t ih
theorem size_line_le {n : Nat} (h : n ≤ 100000) : n ≤ sizeLine := by rw [sizeLine_eq]; omega

section
local macro_rules | `(tactic| walk_at $s) => stp "|eval ListComp|CompSrc|CompEnd|call builtin:dict.get|" s
local macro_rules | `(tactic| k_get) => asmT
local macro_rules | `(tactic| walk_at "getMethod ref") => here (rf ``tk_method "aa?")
local macro_rules | `(tactic| walk_at "subscriptTail Name Name ref int") => here (thn (rf ``tup_item "amooo?") (inw 1))

set_option maxHeartbeats 4000000 in
theorem options_spec : ∀ {w : World} {A : Around} {s : Shared} {h₀ : Heap} {L : Addr} {m mg mb : Str → Option Value} {mean : ExcName → Option Value} {tl : List (Addr × Obj)} {wd C : Addr} {ws : List (Int × Tok)} {nw : Nat} {sy b e : Int} {tsy tb te : Tok} {ts : TS} {Q E : Value → Shared → Prop}
    (_ : Room A 3) (_ : Fr h₀ L s.heap m) (_ : (hd.heap_1 w.params).In h₀) (_ : Top vw lse mean mg mb h₀) (_ : News h₀ L s.heap tl)
    (_ : (wd, tupO (tv ws) nw) ∈ tl) (_ : TK Challenge.rw_on0168_01.row.prog w tl C (tx ts)) (_ : ∀ t ∈ ts, NodesAt tl t.2.2.1 t.2.2.2) (_ : Marked ts) (_ : ∀ t ∈ ts, t.2.2.2.length ≤ 100)
    (_ : ws.length ≤ 4) (_ : 0 ≤ b) (_ : b ≤ e) (_ : e ≤ ws.length) (_ : 0 ≤ sy) (_ : sy ≤ 7)
    (_ : ∀ l vs n h' t', Fr h₀ L h' m → News h₀ L h' ((l, listOf (List.toArray vs) n) :: tl) → StrsAre vs ((optN (tP ts) (ti ws) sy b e).map lab) → (∀ p ∈ tl, p.1 ≠ l) → Q (.ref l) { s with heap := h', toks := t' }),
    wpAny (model Challenge.rw_on0168_01.row.prog w) A (call (.ref 356) [.int sy tsy, .ref wd, .ref C, .int b tb, .int e te]) Q E s := by
  try row_walk
  k_fill
  intro w A s h₀ L m mg mb mean tl wd C ws nw sy b e tsy tb te ts Q E R F X T N hw hC hts hmk hlen hw4 hb hbe he hs0 hs7 ret
  obtain ⟨hh, dp, frs, gd, un⟩ := A
  obtain ⟨R1, R2, R3⟩ := R
  dsimp only at R1 R2 R3
  subst R1
  refine wpAny_call ?_
  refine enterN (binds := [(Str.ofString "symbol", .int sy tsy), (Str.ofString "word", .ref wd), (Str.ofString "trees", .ref C), (Str.ofString "first", .int b tb), (Str.ofString "behind", .int e te)]) F X N T (by k_is) (by k_is) (by show dp < 1000; omega) (BindsTo.of_eq rfl) (locs rfl) ?_ rfl rfl rfl (by decide)
  intro g L' h' FG' F' N' X' T' l1
  (try dsimp only)
  try k_fold
  k_steps
  · rename News h₀ _ _ _ => N1
    rename ∀ p ∈ tl, p.1 < _ => l1
    rename sy < 5 => c1
    rename e = b + 1 => c2
    rename List.getD _ _ _ = sy => c3
    refine ret _ [_] 0 _ _ (by assumption) N1 ?_ (ne_of_ltAll l1)
    rw [optN, if_pos c1, if_pos ⟨c2, c3⟩]
    exact .cons _ _ .nil
  · rename News h₀ _ _ _ => N1
    rename ∀ p ∈ tl, p.1 < _ => l1
    rename sy < 5 => c1
    rename e = b + 1 => c2
    rename List.getD _ _ _ ≠ sy => c3
    refine ret _ [] 0 _ _ (by assumption) N1 ?_ (ne_of_ltAll l1)
    rw [optN, if_pos c1, if_neg (fun h => c3 h.2)]
    exact .nil
  · rename News h₀ _ _ _ => N1
    rename ∀ p ∈ tl, p.1 < _ => l1
    rename sy < 5 => c1
    rename e ≠ b + 1 => c2
    refine ret _ [] 0 _ _ (by assumption) N1 ?_ (ne_of_ltAll l1)
    rw [optN, if_pos c1, if_neg (fun h => c2 h.1)]
    exact .nil
  · rename ¬ sy < 5 => c1
    refine stopGo ?_
    refine LCg.ListComp_U (F₀ := by k_asm) (by with_unfolding_all rfl) (by decide) (by rfl) (by decide) (by rfl) ?_
    k_steps
    rename Fr g _ _ _ => F2
    rename News g _ _ _ => N2
    rename_i T0 g1 l1 a0 g2 la
    refine stopGo ?_
    refine tk_get N2 (hC.mono fun p hp => .tail _ (.tail _ hp)) (by k_mem) (by walk_at "mine units") ?_
    obtain ⟨l, ns, hval, hNA, hns⟩ : ∃ l ns, (atK (tx ts) (sy, b, e)).getD (.ref a0) = .ref l ∧ NodesAt ((a0, listOf #[] 0) :: tl) l ns ∧ (tP ts (sy, b, e)).getD [] = ns := by
      rcases tx_get (k := (sy, b, e)) hts with ⟨ha, hb'⟩ | ⟨l, ns, ha, hb', hns⟩
      · exact ⟨a0, [], by rw [ha]; rfl, ⟨[], 0, .head _, .nil⟩, by rw [hb']; rfl⟩
      · exact ⟨l, ns, by rw [ha]; rfl, hns.mono fun p hp => .tail _ hp, by rw [hb']; rfl⟩
    have hmn : ∀ nd ∈ ns, ∃ k : Int, nd = .tree k ∧ 0 ≤ k ∧ k ≤ 1000 := by
      rw [← hns]
      cases h : tP ts (sy, b, e) with
      | none => intro nd hnd; cases hnd
      | some q => exact marked_tP hmk h
    have hml : ns.length ≤ 100 := by
      rw [← hns]
      cases h : tP ts (sy, b, e) with
      | none => exact Nat.zero_le _
      | some q =>
        obtain ⟨t, ht, rfl⟩ := Option.map_eq_some_iff.mp h
        exact hlen t (List.mem_of_find?_eq_some ht)
    have hopt : optN (tP ts) (ti ws) sy b e = ns := by rw [optN, if_neg c1, hns]
    rw [hval]
    have N3 : News g L' _ ((a0, listOf #[] 0) :: tl) := News.subset N2 (by walk_at "mine sub")
    have ha0 : ∀ p ∈ tl, p.1 ≠ a0 := ne_of_AllLt la.2
    obtain ⟨base, hbase⟩ : ∃ f, f = (a0, listOf #[] 0) :: tl := ⟨_, rfl⟩
    have htb : ∀ p ∈ tl, p ∈ base := hbase ▸ fun p hp => .tail _ hp
    rw [← hbase] at N3 hNA
    clear N2
    k_steps
    refine stopGo ?_
    obtain ⟨vs, nn, hl, hp⟩ := hNA
    have hvl : vs.length = ns.length := Paired.len hp
    refine LCg.CompSrc.ledger (by rfl) (by assumption) N3 hl (size_line_le (by simp only [List.size_toArray]; omega)) ?_
    intro g'
    refine rest_inv (fun j ys news => news = base ∧ StrsAre ys ((ns.take j).map lab)) ?_ ?_ _ 0 [] _ (Nat.zero_add _) ⟨rfl, .nil⟩
    · intro j v ys news I oI C' oC D m₂ h tk E' hj hv hI hO hx F4 N4 off ne
      obtain ⟨rfl, hys⟩ := hI
      obtain ⟨nd, hnd, hN⟩ := Paired.get hp (i := j) (a := v) (by simpa using hv)
      obtain ⟨k, rfl, hk0, hk1⟩ := hmn nd (List.mem_of_getElem? hnd)
      cases hN with
      | tree q1 q2 q3 q4 =>
        k_steps
        refine stopGo ?_
        refine compEnd (by assumption) (by assumption) news sub_rf off (.inr ⟨_, hl, rfl, _, rfl⟩) ⟨rfl, ?_⟩
        rw [List.take_add_one, hnd, List.map_append]
        exact strs_snoc hys _ _
    · intro ys news hI
      obtain ⟨rfl, hys⟩ := hI
      unfold LCg.FinE
      intro D h tk F5 N5 o1
      k_steps
      rename News h₀ _ _ _ => N6
      rename Fr h₀ _ _ _ => F6
      refine ret _ ys ys.length _ _ F6 (News.subset N6 (sub_cons (.head _) fun p hp => .tail _ (htb p hp))) ?_ fun p hp => off1_mem o1 p (htb p hp)
      rw [take_all (l := ns) (by simp [hvl])] at hys
      rw [hopt]; exact hys
end
end

section
open PySem.Calls
set_option maxRecDepth 100000
section
variable {prog : Program} {w : World} {A : Around} {s : Shared} {h₀ : Heap} {L : Addr} {m : Str → Option Value} {news : List (Addr × Obj)} {K : Frag} {mg mb : Str → Option Value} {p : Program} {loose : List Str} {mean : ExcName → Option Value}
  {R : Result → Shared → Prop} {name qual : Str} {params : Arguments} {body : List Stmt} {scope : Scope} {dV kV doc pm cdv ct oc : Value} {an od : Option Addr} {osl : Array (Option Value)} {f : Addr} {args : Args} {binds : List (Str × Value)}
/-- a call of a def of the text with cells: the body is to be walked -/
theorem enterC (F : Fr h₀ L s.heap m) (X₀ : K.In h₀) (N : News h₀ L s.heap news) (T : Top p loose mean mg mb h₀)
    (ho : K.lookup f = some ⟨oc, od, .func (fnOf name qual params body scope dV kV doc pm an cdv ct), osl⟩) (hcd : codeIn K cdv qual = true) (hroom : A.depth < recursionLimit)
    (hbind : BindsTo s (fnOf name qual params body scope dV kV doc pm an cdv ct) args binds) (hkind : (binds.all fun y => scope.names.lookup y.1 == some .local || scope.names.lookup y.1 == some .cell) = true)
    (hnd : ((cellsFrom 0 scope.names []).map (·.1)).Nodup)
    (h : ∀ g L' h₁ tk cells, Fr h₀ L g m → Fr g L' h₁ (bindL (envOfC qual scope L' f cdv).kindOf binds fun _ => none) → News g L' h₁ (cells ++ news) →
      CellsAre (bindC (envOfC qual scope L' f cdv).kindOf binds fun _ => none) (cellsFrom (L' + 1) scope.names []) cells → K.In g → Top p loose mean mg mb g → (∀ p ∈ news, p.1 < L') →
      wpAny (model prog w) (A.deeper (envOfC qual scope L' f cdv)) (execs body (envOfC qual scope L' f cdv))
        (fun fl s' => LeaveK h₀ L m g R (match fl with | .ret v => v | _ => .none) s') (fun _ _ => False)
        { s with heap := h₁, toks := tk })
    (hco : scope.isCoroutine = false) (hgen : scope.isGenerator = false) (hk : scope.kind = .function) : codeAny (model prog w) A (.call (.ref f) args) R s := by
  obtain ⟨FG, st, lv⟩ := groundN (R := R) F N
  refine codeAny_call_function hroom ((X₀.keeps F.keep) _ _ ho) rfl hco hgen rfl (codeRec_of (X₀.keeps F.keep) hcd) (hbind _ _ _ _ ?_)
  refine wpAny_newFunctionEnv_cells hk (kindsX hkind _) fun env' he s' x => ?_
  subst he
  refine ⟨(T.nolimit.keeps F.keep).keeps x.toInCall.keep, codeAny_func ?_⟩
  obtain ⟨h₁, tk, rfl, _⟩ := x.done
  have hk₁ := x.toInCall.keep
  obtain ⟨cells, NC, Y⟩ := Cl.news (h₀ := s.heap) (Nat.le_refl _) fun n c hm => ⟨x.cell n c (lookup_of_mem_nodup (cellsFrom_names scope.names 0 (s.heap.objs.size + 1) [] [] rfl ▸ hnd) hm), x.above n c hm⟩
  refine wpAny_mono (h _ s.heap.objs.size h₁ tk cells FG ⟨x.toInCall.ns, fun b o e => hk₁ b o (of_hideAll _ e), Nat.le_of_eq (hideAll_size _ _)⟩ (fun p hp => ?_) Y (X₀.keeps st) (T.keeps st) (fun p hp => Heap.lt_size (N p hp).1)) (fun fl s' hl => lv _ _ hl) fun _ _ y => y.elim
  rcases List.mem_append.mp hp with hp | hp
  · refine ⟨(NC p hp).1, (NC p hp).2.1, ?_⟩
    cases q : (hideAll s.heap (news.map (·.1))).get? p.1 with
    | none => rfl
    | some o => have := of_hideAll _ q; rw [(NC p hp).2.2] at this; cases this
  · exact ⟨hk₁ _ _ (N p hp).1, Nat.ne_of_lt (Heap.lt_size (N p hp).1), hideAll_none _ (List.mem_map_of_mem hp)⟩
end
section
variable {prog : Program} {w : World} {A : Around} {E : Value → Shared → Prop} {s : Shared} {h₀ : Heap} {L : Addr} {m : Str → Option Value} {news : List (Addr × Obj)}
theorem adjust_init (n : Nat) (hn : 1 ≤ n) : Builtin.Slice.sliceAdjust none (some (-1)) 1 (n : Int) = (0, (n : Int) - 1) := by
  unfold Builtin.Slice.sliceAdjust
  have h1 : ¬ ((1 : Int) < 0) := by omega
  have h2 : ((-1 : Int) < 0) := by omega
  simp only [h1, h2, if_false, if_true]
  congr 1
  omega
theorem places_init (n : Nat) (hn : 1 ≤ n) : Builtin.Slice.slicePlaces 0 ((n : Int) - 1) 1 = n - 1 := by
  unfold Builtin.Slice.slicePlaces
  have h1 : (1 : Int) > 0 := by omega
  simp only [h1, if_true, Int.ediv_one]
  split <;> omega
theorem sliceApplied_init {sl : Addr} {n : Nat} {u : Tok} {Q : Int × Int × Nat → Shared → Prop} (hs : s.heap.IsSliceOf sl .none (.int (-1) u) .none) (hn : 1 ≤ n) (h : Q ((0 : Int), 1, n - 1) s) :
    wpAny (model prog w) A (Builtin.Slice.sliceApplied (.ref sl) (pure (n : Int))) Q E s := by
  obtain ⟨os, hos, hcs, hds⟩ := id hs
  unfold Builtin.Slice.sliceApplied Builtin.Slice.sliceFields
  refine wpAny_bind (wpAny_bind (wpAny_field hos hds (x := .none) rfl (wpAny_bind (wpAny_field hos hds (x := .int (-1) u) rfl (wpAny_bind (wpAny_field hos hds (x := .none) rfl (wpAny_pure ?_)))))))
  refine wpAny_bind (slicePart_none ?_)
  show wpAny _ _ (if ((1 : Int) == 0) = true then _ else _) _ _ s
  rw [if_neg (by decide)]
  refine wpAny_bind (slicePart_none (wpAny_bind (slicePart_int (wpAny_bind (wpAny_pure ?_)))))
  show wpAny _ _ (match Builtin.Slice.sliceAdjust none (some (-1)) 1 (n : Int) with | (lo, hi) => pure (lo, (1 : Int), Builtin.Slice.slicePlaces lo hi 1)) _ _ s
  rw [adjust_init n hn]
  show wpAny _ _ (pure ((0 : Int), (1 : Int), Builtin.Slice.slicePlaces 0 ((n : Int) - 1) 1)) _ _ s
  rw [places_init n hn]
  exact wpAny_pure h
theorem pick_init (xs : List Value) : ((List.range (xs.toArray.size - 1)).filterMap fun (k : Nat) => xs.toArray[((0 : Int) + (k : Int) * 1).toNat]?).toArray = xs.dropLast.toArray := by
  have e : (fun (k : Nat) => xs.toArray[((0 : Int) + (k : Int) * 1).toNat]?) = fun k => xs.toArray[0 + k]? := by
    funext k
    have : ((0 : Int) + (k : Int) * 1).toNat = 0 + k := by omega
    rw [this]
  rw [e]
  have := pick_run xs.toArray 0 (xs.toArray.size - 1)
  rw [List.filterMap_map] at this
  have e2 : ((fun x => xs.toArray[x]?) ∘ fun x => 0 + x) = fun k => xs.toArray[0 + k]? := rfl
  rw [e2] at this
  rw [this]
  simp [List.dropLast_eq_take]
theorem getItem_tuple_init {t sl : Addr} {xs : List Value} {u : Tok} {Q : Value → Shared → Prop} (ht : IsTup s.heap t xs.toArray) (hs : s.heap.IsSliceOf sl .none (.int (-1) u) .none) (h1 : 1 ≤ xs.length) (hsz : xs.length ≤ 1000)
    (h : Q (.ref s.heap.objs.size) { s with heap := s.heap.push { cls := .type "tuple", data := .seq xs.dropLast.toArray } }) : wpAny (model prog w) A (getItem (.ref t) (.ref sl)) Q E s := by
  have hdrop : sizeOk (.seq xs.dropLast.toArray) := by
    show xs.dropLast.toArray.size ≤ sizeLine
    rw [List.size_toArray, List.length_dropLast, sizeLine_eq]
    omega
  obtain ⟨os, hos, hcs, hds⟩ := id hs
  have hTs : s.TypeIs (.ref sl) "slice" := ⟨os, hos, hcs⟩
  unfold getItem
  try with_reducible refine wpAny_holding ?_
  first | refine wpAny_bind (wpAny_pure ?_) | skip
  refine wpAny_bind (wpAny_sequenceKey ht.typeIs (by decide) ?_)
  refine wpAny_bind (wpAny_callSpecial?_slot (name := Str.ofString "__getitem__") ht.typeIs slot_tuple_getitem
    (wpAny_call_entry slot_tuple_getitem ht.typeIs entry_tuple_getitem ?_ (args_tuple_getitem _ _)))
  show wpAny _ _ (Builtin.Tuple.tupleItemsOf (.ref t) >>= _) _ _ s
  refine wpAny_bind (tupleItemsOf_ ht ?_)
  refine wpAny_bind (wpAny_typeOf hTs ?_)
  rw [if_pos (by decide)]
  refine wpAny_bind (sliceApplied_init hs (by simpa using h1) ?_)
  have hno : ¬ (((0 : Int) == 0 && (1 : Int) == 1 && (xs.toArray.size - 1) == xs.toArray.size) = true) := by
    have : (xs.toArray.size - 1 == xs.toArray.size) = false := by rw [beq_eq_false_iff_ne]; simp; omega
    rw [this]; simp
  show wpAny _ _ (if ((0 : Int) == 0 && (1 : Int) == 1 && (xs.toArray.size - 1) == xs.toArray.size) = true then _ else _) _ _ s
  rw [if_neg hno, pick_init xs]
  first
    | exact wpAny_bind (m := Builtin.Tuple.tupleExact _) (wpAny_newObj_type (wpAny_pure ⟨_, rfl, wpAny_pure h⟩) hdrop)
    | exact wpAny_bind (m := Builtin.Tuple.tupleExact _) (wpAny_newObj_type (wpAny_bind (wpAny_pure (wpAny_pure ⟨_, rfl, wpAny_pure h⟩))) hdrop)
    | exact wpAny_bind (wpAny_bind (m := Builtin.Tuple.tupleExact _) (wpAny_newObj_type (wpAny_pure (wpAny_pure ⟨_, rfl, wpAny_pure h⟩)) hdrop))
    | exact wpAny_bind (wpAny_bind (m := Builtin.Tuple.tupleExact _) (wpAny_newObj_type (wpAny_pure ⟨_, rfl, wpAny_pure h⟩) hdrop))
/-- t[:-1] of a tuple that is not empty -/
theorem slice_tuple_init {value slice : PySem.Expr} {t : Addr} {xs : List Value} {u : Tok} {n : Nat} {Q : Value → Shared → Prop}
    (F : Fr h₀ L s.heap m) (N : News h₀ L s.heap news) (ht : (t, tupO xs n) ∈ news) (h1 : 1 ≤ xs.length) (hsz : xs.length ≤ 1000)
    (h : ∀ D h', Fr h₀ L h' m → News h₀ L h' ((D, tupO xs.dropLast 0) :: news) → (∀ p ∈ news, p.1 < D) → Q (.ref D) { s with heap := h' })
    (hs : subscripted slice false (.ref t) (.ref s.heap.objs.size) = operate [.ref s.heap.objs.size, .ref t] (getItem (.ref t) (.ref s.heap.objs.size)) := by with_unfolding_all rfl)
    (hg : ∀ r, letTemporaryGo value (.ref t) r = pure () := by intro _; with_unfolding_all rfl) :
    wpAny (model prog w) A (subscriptTail value slice (.ref t) (.ref s.heap.objs.size)) Q E { s with heap := s.heap.push { cls := .type "slice", data := .fields #[.none, .int (-1) u, .none] } } := by
  have ht0 : IsTup s.heap t xs.toArray := ⟨_, (N _ ht).1, rfl, n, rfl⟩
  have ht' : IsTup (s.heap.push { cls := .type "slice", data := .fields #[.none, .int (-1) u, .none] }) t xs.toArray := ht0.keeps fun _ _ e => Heap.get?_push_of_some _ e
  refine subscriptTail_ops (s := { s with heap := s.heap.push { cls := .type "slice", data := .fields #[.none, .int (-1) u, .none] } }) ht'.typeIs slot_tuple_getitem.lookup
    (getItem_tuple_init ht' (Heap.IsSliceOf.new ..) h1 hsz ?_) hs hg
  have N1 := News.push (F.push { cls := .type "slice", data := .fields #[.none, .int (-1) u, .none] }) (N.grown fun _ _ e => Heap.get?_push_of_some _ e) { cls := .type "tuple", data := .seq xs.dropLast.toArray }
  exact h _ _ ((F.push _).push _) N1 fun p hp => by rw [Heap.size_push]; exact Nat.lt_succ_of_lt (Heap.lt_size (N p hp).1)
theorem eq_empty {t e : Addr} {xs : List Value} {n n2 : Nat} {Q : Value → Shared → Prop} (N : News h₀ L s.heap news) (ht : (t, tupO xs n) ∈ news) (he : (e, tupO [] n2) ∈ news) (hu : A.units < cLine) (h : Q (.bool (xs.length == 0)) s) :
    wpAny (model prog w) A (compareOp .Eq (.ref t) (.ref e)) Q E s := by
  refine SeqAt.eq_tupleAt (e := fun _ => false) ⟨_, (N _ ht).1, rfl, n, rfl⟩ ⟨_, (N _ he).1, rfl, n2, rfl⟩ hu (fun j h1 h2 => by simp at h2) ?_
  simpa using h
end
end

section
open PySem.Calls
set_option maxRecDepth 100000
/-- the labels of a symbol over a span -/
noncomputable def optS (T : K3 → Option (List Node)) (word : List Int) (sy b e : Int) : List Str := (optN T word sy b e).map lab
noncomputable def covF (opt : Int → List Str) (rows : Int → List (List Str)) (b : Int) (l : List (List Str)) (i : Nat) : List (List Str) := l ++ (rows (b + i)).flatMap fun a => (opt (b + i)).map fun o => a ++ [o]
/-- the rows that cover: the symbols from the last to the first -/
noncomputable def covS (T : K3 → Option (List Node)) (word : List Int) : List Int → Int → Int → List (List Str)
  | [], b, e => if b = e then [[]] else []
  | sy :: rest, b, e => (List.range (e + 1 - b).toNat).foldl (covF (fun k => optS T word sy k e) (fun k => covS T word rest b k) b) []

theorem optS_len {ts : TS} (h : ∀ t ∈ ts, t.2.2.2.length ≤ 2) (word : List Int) (sy b e : Int) : (optS (tP ts) word sy b e).length ≤ 2 := by
  rw [optS, List.length_map, optN]
  split
  · split <;> simp
  · cases q : tP ts (sy, b, e) with
    | none => simp
    | some ns =>
      obtain ⟨t, ht, rfl⟩ := Option.map_eq_some_iff.mp q
      exact h t (List.mem_of_find?_eq_some ht)
theorem flat_len {α β : Type} {f : α → List β} {k : Nat} (hf : ∀ a, (f a).length ≤ k) (l : List α) : (l.flatMap f).length ≤ l.length * k := by
  induction l with
  | nil => simp
  | cons a r ih =>
    rw [List.flatMap_cons, List.length_append, List.length_cons, Nat.succ_mul]
    have := hf a
    omega
theorem covS_len {ts : TS} (h : ∀ t ∈ ts, t.2.2.2.length ≤ 2) (word : List Int) : ∀ (rev : List Int) (b e : Int), 0 ≤ b → e ≤ 4 → (covS (tP ts) word rev b e).length ≤ 10 ^ rev.length
  | [], b, e, _, _ => by rw [covS]; split <;> simp
  | sy :: rest, b, e, hb, he => by
    rw [covS]
    have key : ∀ (is : List Nat) (l : List (List Str)) , (∀ i ∈ is, b + (i : Int) ≤ e) → (is.foldl (covF (fun k => optS (tP ts) word sy k e) (fun k => covS (tP ts) word rest b k) b) l).length ≤ l.length + is.length * (2 * 10 ^ rest.length) := by
      intro is
      induction is with
      | nil => intro l _; simp
      | cons i r ih =>
        intro l hi
        have h1 := ih (covF (fun k => optS (tP ts) word sy k e) (fun k => covS (tP ts) word rest b k) b l i) (fun j hj => hi j (.tail _ hj))
        have h2 : (covF (fun k => optS (tP ts) word sy k e) (fun k => covS (tP ts) word rest b k) b l i).length ≤ l.length + 2 * 10 ^ rest.length := by
          rw [covF, List.length_append]
          have h3 := flat_len (f := fun a : List Str => (optS (tP ts) word sy (b + i) e).map fun o => a ++ [o]) (k := 2) (fun a => by rw [List.length_map]; exact optS_len h word sy _ e) (covS (tP ts) word rest b (b + i))
          have h4 := covS_len h word rest b (b + i) hb (by have := hi i (.head _); omega)
          omega
        rw [List.foldl_cons, List.length_cons, Nat.succ_mul]
        omega
    have h5 := key (List.range (e + 1 - b).toNat) [] (fun i hi => by have := List.mem_range.mp hi; omega)
    have h6 : (List.range (e + 1 - b).toNat).length ≤ 5 := by rw [List.length_range]; omega
    have h7 : (List.range (e + 1 - b).toNat).length * (2 * 10 ^ rest.length) ≤ 5 * (2 * 10 ^ rest.length) := Nat.mul_le_mul_right _ h6
    rw [List.length_cons, Nat.pow_succ]
    simp only [List.length_nil, Nat.zero_add] at h5
    omega
theorem covS_row (T : K3 → Option (List Node)) (word : List Int) : ∀ (rev : List Int) (b e : Int), ∀ x ∈ covS T word rev b e, x.length = rev.length
  | [], b, e => by
    rw [covS]; split
    · intro x hx; rw [List.mem_singleton.mp hx]; rfl
    · intro x hx; cases hx
  | sy :: rest, b, e => by
    rw [covS]
    have key : ∀ (is : List Nat) (l : List (List Str)), (∀ x ∈ l, x.length = rest.length + 1) → ∀ x ∈ is.foldl (covF (fun k => optS T word sy k e) (fun k => covS T word rest b k) b) l, x.length = rest.length + 1 := by
      intro is
      induction is with
      | nil => intro l h; exact h
      | cons i r ih =>
        intro l h
        refine ih _ fun x hx => ?_
        rcases List.mem_append.mp hx with hx | hx
        · exact h x hx
        · obtain ⟨a, ha, hx⟩ := List.mem_flatMap.mp hx
          obtain ⟨o, _, rfl⟩ := List.mem_map.mp hx
          simp [covS_row T word rest b (b + i) a ha]
    exact key _ [] fun x hx => nomatch hx

section
variable {prog : Program} {w : World} {A : Around} {E : Value → Shared → Prop} {s : Shared} {env : Env} {h₀ : Heap} {L : Addr} {m : Str → Option Value} {news led : List (Addr × Obj)}
/-- over a list, the target a name that may be a cell's -/
theorem loop_listN {σ : Type} {x : Str} {px : Pos} {body : List Stmt} {Q : Flow → Shared → Prop} {r : Addr} {items : Array Value} (hh : A.handled = none) (F : Fr h₀ env.locals s.heap m) (N : News h₀ env.locals s.heap news)
    (hr : s.heap.IsList r items) (hrL : r ≠ env.locals)
    (S : List Str) (mE : σ → Str → Option Value) (I : Nat → σ → List (Addr × Obj) → Prop) (x0 : σ) (hm : Agr S m (mE x0)) (hI : I 0 x0 news)
    (turn : ∀ i v y (u : Str → Option Value) news₁ (s₁ : Shared) It own, items[i]? = some v → I i y news₁ → (∀ p ∈ news₁, p.1 ≠ It) → (∀ p ∈ own, p.1 = It ∨ p.1 = r) → (∃ o, (It, o) ∈ own) → Fr h₀ env.locals s₁.heap (fun z => if S.contains z then u z else mE y z) → News h₀ env.locals s₁.heap (news₁ ++ own) →
      wpAny (model prog w) A (assign (.Name x px) env v) (fun _ s₃ => wpAny (model prog w) A (execs body env) (TurnT h₀ env.locals It own S mE (I (i + 1)) s₁) E s₃) E s₁)
    (done : ∀ h tk y (u : Str → Option Value) news', Fr h₀ env.locals h (fun z => if S.contains z then u z else mE y z) → News h₀ env.locals h news' → I items.size y news' → Q .next { s with heap := h, toks := tk }) :
    wpAny (model prog w) A (pyIter (.ref r)) (fun it s₂ => LoopAtT prog w A h₀ env (.Name x px) body Q E it s₂) E s := by
  obtain ⟨ol, hol, hol'⟩ := id hr
  have hlt := Heap.lt_size hol
  refine wpAny_pyIter_list hr ?_
  have W := Walks.list (prog := prog) (w := w) hh s.heap.objs.size r (Nat.ne_of_lt hlt) items
  have hit0 := next_is_new F
  refine ⟨s.heap.objs.size, _, _, items.size, _, _, m, news, fun i m₁ news₁ => (∃ y, Agr S m₁ (mE y) ∧ I i y news₁), rfl, W, ?_, ?_, ?_, ⟨⟨_, Heap.get?_push_size _ rfl, rfl, rfl⟩, ⟨ol, Heap.get?_push_of_some _ hol, hol'⟩⟩, F.push _, (fun p hp => ⟨Heap.get?_push_of_some _ (N p hp).1, (N p hp).2⟩), ?_, ⟨x0, hm, hI⟩, ?_, ?_⟩
  · intro hm
    rcases List.mem_cons.mp hm with e | e
    · exact absurd F.ns.lt (e ▸ Nat.lt_irrefl _)
    · exact hrL (List.mem_singleton.mp e).symm
  · intro b hb; rw [List.mem_singleton.mp hb]; exact hit0
  · intro p hp hb; exact absurd (Heap.lt_size (N p hp).1) ((List.mem_singleton.mp hb) ▸ Nat.lt_irrefl _)
  · intro i s' v Q' st hq
    exact wpAny_pure hq
  · rintro i v m₁ news₁ s₁ own hi hP ⟨y, hm₁, hI₁⟩ hnw₁ hown _ hall hst₁ F₁ N₁
    rw [hm₁.eq] at F₁
    have hIo : ∃ o, (s.heap.objs.size, o) ∈ own := let ⟨⟨o, ho, _⟩, _⟩ := hst₁; ⟨o, hall _ (.head _) hit0 o ho⟩
    refine wpAny_mono (turn i v y m₁ news₁ s₁ s.heap.objs.size own hP hI₁ (fun p hp e => hnw₁ p hp (List.mem_singleton.mpr e)) (fun p hp => by simpa using hown p hp) hIo F₁
      (fun p hp => N₁ p ((List.mem_append.mp hp).elim (fun h => List.mem_append.mpr (.inr h)) fun h => List.mem_append.mpr (.inl h)))) (fun _ s₃ h₃ => wpAny_mono h₃ (fun f s₂ p => ?_) fun _ _ e => e) fun _ _ e => e
    obtain ⟨rfl, y', h', tk', m', led, news', rfl, F', N', h1, h2, h3, hm', hI'⟩ := p
    exact ⟨rfl, h', tk', m', news', rfl, F', fun p hp => N' p ((List.mem_append.mp hp).elim (h2 p) (h1 p)), fun p hp e => h3 p hp (List.mem_singleton.mp e), y', hm', hI'⟩
  · rintro h' tk m' news' F' N' _ ⟨y, hm', hI'⟩
    rw [hm'.eq] at F'
    exact done h' tk y m' news' F' N' hI'
/-- l != [] of a list of strs -/
theorem ne_nil {a b : Addr} {vs : List Value} {ls : List Str} {n k : Nat} {Q : Value → Shared → Prop} (N : News h₀ L s.heap led) (ha : (a, listOf (List.toArray vs) n) ∈ led) (hb : (b, listOf #[] k) ∈ led) (hv : StrsAre vs ls) (hok : ∀ x ∈ ls, PyData.strOk x = true) (hu : A.units + 64 < cLine)
    (h : Q (.bool (!(ls.length == 0))) s) : wpAny (model prog w) A (compareOp .NotEq (.ref a) (.ref b)) Q E s := by
  have D : DatAll led vs (ls.map .str) := by
    clear ha hok h
    induction hv with
    | nil => exact .nil
    | cons x t _ ih => exact .cons (.str x t) ih
  refine kqd_ne (n₁ := led) (n₂ := led) (ys := []) N ha rfl rfl D (fun _ h => h) hb rfl rfl .nil (fun _ h => h) (fun d hd => ?_) (fun d hd => nomatch hd) hu ?_
  · obtain ⟨x, hx, rfl⟩ := List.mem_map.mp hd
    simpa [kqdOk] using hok x hx
  · have : (decide (ls.map Dat.str = [])) = (ls.length == 0) := by cases ls <;> simp
    rw [this]; exact h
theorem eq_empty' {t e : Addr} {xs : List Value} {n n2 : Nat} {bb : Bool} {Q : Value → Shared → Prop} (N : News h₀ L s.heap led) (ht : (t, tupO xs n) ∈ led) (he : (e, tupO [] n2) ∈ led) (hu : A.units < cLine) (hb : (xs.length == 0) = bb) (h : Q (.bool bb) s) :
    wpAny (model prog w) A (compareOp .Eq (.ref t) (.ref e)) Q E s := eq_empty N ht he hu (hb ▸ h)
theorem tup_last {value slice : PySem.Expr} {T : Addr} {ws : List (Int × Tok)} {q : Int × Tok} {n : Nat} {u : Tok} {Q : Value → Shared → Prop} (N : News h₀ L s.heap led) (hT : (T, tupO (tv (ws ++ [q])) n) ∈ led) (hl : ws.length ≤ 100)
    (h : Q (.int q.1 q.2) s) (hs : subscripted slice false (.ref T) (.int (-1) u) = operate [.ref T, .int (-1) u] (getItem (.ref T) (.int (-1) u)) := by with_unfolding_all rfl) :
    wpAny (model prog w) A (subscriptTail value slice (.ref T) (.int (-1) u)) Q E s := by
  refine item_tupleT (j := ws.length) (l := tv (ws ++ [q])) (x := .int q.1 q.2) ⟨_, (N _ hT).1, rfl, n, rfl⟩ (by omega) (by omega) ?_ ?_ h hs
  · unfold seqIndex?
    simp only [tv, List.length_map, List.length_append, List.length_singleton]
    (repeat' split) <;> first | omega | rfl | skip
    all_goals simp_all
    all_goals omega
  · simp [tv]
theorem ne_nil' {a b : Addr} {vs : List Value} {ls : List Str} {n k : Nat} {bb : Bool} {Q : Value → Shared → Prop} (N : News h₀ L s.heap led) (ha : (a, listOf (List.toArray vs) n) ∈ led) (hb : (b, listOf #[] k) ∈ led) (hv : StrsAre vs ls) (hok : ∀ x ∈ ls, PyData.strOk x = true) (hu : A.units + 64 < cLine)
    (hbb : (!(ls.length == 0)) = bb) (h : Q (.bool bb) s) : wpAny (model prog w) A (compareOp .NotEq (.ref a) (.ref b)) Q E s := ne_nil N ha hb hv hok hu (hbb ▸ h)
theorem strs_get {vs : List Value} {ls : List Str} (h : StrsAre vs ls) : ∀ {j : Nat} {v : Value}, vs[j]? = some v → ∃ x, ls[j]? = some x ∧ ∃ t, v = .str x t := by
  induction h with
  | nil => intro j v h; simp at h
  | cons x t r ih =>
    intro j v h
    cases j with
    | zero => simp at h; exact ⟨x, rfl, t, h.symm⟩
    | succ j => simp at h; obtain ⟨x', a, b⟩ := ih h; exact ⟨x', by simpa using a, b⟩
theorem Paired.app {α β : Type} {F : α → β → Prop} : ∀ {l₁ : List α} {l₂ : List β} {k₁ : List α} {k₂ : List β}, Paired F l₁ l₂ → Paired F k₁ k₂ → Paired F (l₁ ++ k₁) (l₂ ++ k₂) := by
  intro l₁ l₂ k₁ k₂ p k
  induction p with
  | nil => exact k
  | cons x _ ih => exact .cons x ih
theorem AllLt.mem {d : Addr} : ∀ {l : List (Addr × Obj)}, AllLt d l → ∀ p ∈ l, p.1 < d
  | [], _, _, h => nomatch h
  | _ :: _, x, p, h => by
    rcases List.mem_cons.mp h with rfl | h
    · exact x.1
    · exact AllLt.mem x.2 p h
theorem strOk_of (x : String) : PyData.strOk (Str.ofString x) = true := by
  rw [Str.ofString_eq_toList]
  unfold PyData.strOk
  rw [Array.all_eq_true_iff_forall_mem]
  intro c hc
  simp only [List.mem_toArray, List.mem_map] at hc
  obtain ⟨d, _, rfl⟩ := hc
  have := d.valid
  have h2 : d.toNat < 1114112 := by
    rcases this with h | h
    · exact Nat.lt_trans h (by decide)
    · exact h.2
  exact decide_eq_true h2
theorem strOk_app {x y : Str} (hx : PyData.strOk x = true) (hy : PyData.strOk y = true) : PyData.strOk (x ++ y) = true := by
  unfold PyData.strOk at *
  show ((x.cps ++ y.cps).all _) = true
  rw [Array.all_append, hx, hy]; rfl
theorem lab_ok (nd : Node) : PyData.strOk (lab nd) = true := by
  cases nd with
  | tree k => exact strOk_of _
  | leaf s => exact strOk_app (strOk_of _) (strOk_of _)
theorem optS_ok (T : K3 → Option (List Node)) (word : List Int) (sy b e : Int) : ∀ x ∈ optS T word sy b e, PyData.strOk x = true := fun x hx => by
  obtain ⟨nd, _, rfl⟩ := List.mem_map.mp hx
  exact lab_ok nd
end

noncomputable def covM (r wd C : Addr) (b e : Int) (tb te : Tok) : Str → Option Value := fun z => if z = Str.ofString "behind" then some (.int e te) else if z = Str.ofString "first" then some (.int b tb) else if z = Str.ofString "trees" then some (.ref C) else if z = Str.ofString "word" then some (.ref wd) else if z = Str.ofString "right" then some (.ref r) else none
section
local macro_rules | `(tactic| walk_at $s) => stp "|pyIter ref|eval ListComp|CompSrc|CompEnd|compareOp NotEq ref ref|call ref|subscriptTail Name Slice ref ref|call builtin:list.extend|" s
local macro_rules | `(tactic| k_get) => asmT
local macro_rules | `(tactic| walk_at "exec For Name Call cons nil") => here (frT (oth fvT ftT))
local macro_rules | `(tactic| walk_at "call type:range") => here (thn (rf ``range2_rows "aa?") (inw 9))
local macro_rules | `(tactic| walk_at "compareOp Eq ref ref") => here (rf ``eq_empty' "ammuS?")
local macro_rules | `(tactic| walk_at "subscriptTail Name Constant ref int") => here (rf ``tup_last "amo?")
local macro_rules | `(tactic| walk_at "subscriptTail Name UnaryOp ref int") => here (rf ``tup_last "amo?")
local macro_rules | `(tactic| walk_at "binaryOp Add ref ref") => here (thn (rf ``cat_one "aammo?") (inw 6))

set_option maxHeartbeats 4000000 in
theorem covers_spec : ∀ (n : Nat) {w : World} {A : Around} {s : Shared} {h₀ : Heap} {L : Addr} {m mg mb : Str → Option Value} {mean : ExcName → Option Value} {tl : List (Addr × Obj)} {r wd C : Addr} {rs ws : List (Int × Tok)} {nr nw : Nat} {b e : Int} {tb te : Tok} {ts : TS} {Q E : Value → Shared → Prop}
    (_ : rs.length = n) (_ : Room A (n + 6)) (_ : Fr h₀ L s.heap m) (_ : (hd.heap_1 w.params).In h₀) (_ : Top vw lse mean mg mb h₀) (_ : News h₀ L s.heap tl)
    (_ : (r, tupO (tv rs) nr) ∈ tl) (_ : (wd, tupO (tv ws) nw) ∈ tl) (_ : TK Challenge.rw_on0168_01.row.prog w tl C (tx ts)) (_ : ∀ t ∈ ts, NodesAt tl t.2.2.1 t.2.2.2) (_ : Marked ts) (_ : ∀ t ∈ ts, t.2.2.2.length ≤ 2)
    (_ : n ≤ 3) (_ : ws.length ≤ 4) (_ : ∀ p ∈ rs, 0 ≤ p.1 ∧ p.1 ≤ 7) (_ : 0 ≤ b) (_ : b ≤ e) (_ : e ≤ ws.length)
    (_ : ∀ l vs k new h' t', Fr h₀ L h' m → News h₀ L h' ((l, listOf (List.toArray vs) k) :: (new ++ tl)) → Paired (StrsTup new) vs (covS (tP ts) (ti ws) (ti rs).reverse b e) → (∀ p ∈ new ++ tl, p.1 ≠ l) → (∀ q ∈ new, ∀ p ∈ tl, p.1 ≠ q.1) → Q (.ref l) { s with heap := h', toks := t' }),
    wpAny (model Challenge.rw_on0168_01.row.prog w) A (call (.ref 361) [.ref r, .ref wd, .ref C, .int b tb, .int e te]) Q E s := by
  try row_walk
  k_fill
  intro n
  induction n with
  | zero =>
    intro w A s h₀ L m mg mb mean tl r wd C rs ws nr nw b e tb te ts Q E hn R F X T N hr hw hC hts hmk hlen hn3 hw4 hrs hb hbe he ret
    obtain ⟨hh, dp, frs, gd, un⟩ := A
    obtain ⟨R1, R2, R3⟩ := R
    dsimp only at R1 R2 R3
    subst R1
    obtain rfl := List.eq_nil_of_length_eq_zero hn
    refine wpAny_call ?_
    refine enterC (binds := [(Str.ofString "right", .ref r), (Str.ofString "word", .ref wd), (Str.ofString "trees", .ref C), (Str.ofString "first", .int b tb), (Str.ofString "behind", .int e te)]) F X N T (by k_is) (by k_is) (by show dp < 1000; omega) (BindsTo.of_eq rfl) (by rfl) (by decide +kernel) ?_ rfl rfl rfl
    intro g L' h' tk' cells FG' F' N' Y' X' T' l1
    change Fr g L' h' (covM r wd C b e tb te) at F'
    have l1' := l1
    k_cells Y'
    (try simp only [List.cons_append, List.nil_append] at N')
    (try dsimp only)
    try k_fold
    k_steps
    · rename b = e => c1
      rename News h₀ _ _ _ => N1
      rename _ ∧ _ ∧ _ ∧ AllLt _ tl => l2
      rename_i D0 h0 l0 D1 h1 ld1 D2 h2 F2 N2 kF Tc kX
      refine ret D2 [.ref D1] 0 [(D1, tupO [] 0)] _ _ kF (News.subset N1 (sub_cons (.head _) (sub_cons (.tail _ (.head _)) fun p hp => .tail _ (.tail _ (.tail _ (.tail _ hp)))))) ?_ ?_ ?_
      · rw [show (ti []).reverse = [] from rfl, covS, if_pos c1]
        exact .cons ⟨D1, [], 0, rfl, .head _, .nil⟩ .nil
      · exact ne_cons (Nat.ne_of_lt l2.1) (ne_of_AllLt l2.2.2.2)
      · intro q hq
        rw [List.mem_singleton.mp hq]
        exact ne_of_AllLt ld1.2.2
    · rename b ≠ e => c1
      rename News h₀ _ _ _ => N1
      rename _ ∧ _ ∧ AllLt _ tl => l2
      refine ret _ [] 0 [] _ _ (by assumption) (News.subset N1 (sub_cons (.head _) fun p hp => .tail _ (.tail _ (.tail _ hp)))) ?_ (ne_of_AllLt l2.2.2) (fun q hq => nomatch hq)
      rw [show (ti []).reverse = [] from rfl, covS, if_neg c1]
      exact .nil
  | succ n ih =>
    intro w A s h₀ L m mg mb mean tl r wd C rs ws nr nw b e tb te ts Q E hn R F X T N hr hw hC hts hmk hlen hn3 hw4 hrs hb hbe he ret
    obtain ⟨hh, dp, frs, gd, un⟩ := A
    obtain ⟨R1, R2, R3⟩ := R
    dsimp only at R1 R2 R3
    subst R1
    refine wpAny_call ?_
    refine enterC (binds := [(Str.ofString "right", .ref r), (Str.ofString "word", .ref wd), (Str.ofString "trees", .ref C), (Str.ofString "first", .int b tb), (Str.ofString "behind", .int e te)]) F X N T (by k_is) (by k_is) (by show dp < 1000; omega) (BindsTo.of_eq rfl) (by rfl) (by decide +kernel) ?_ rfl rfl rfl
    intro g L' h' tk' cells FG' F' N' Y' X' T' l1
    change Fr g L' h' (covM r wd C b e tb te) at F'
    have l1' := l1
    k_cells Y'
    (try simp only [List.cons_append, List.nil_append] at N')
    (try dsimp only)
    try k_fold
    obtain ⟨rs', ⟨sy, tsy⟩, rfl⟩ : ∃ rs' q, rs = rs' ++ [q] := by
      have hne : rs ≠ [] := fun e => by rw [e] at hn; cases hn
      exact ⟨rs.dropLast, rs.getLast hne, (List.dropLast_concat_getLast hne).symm⟩
    have hn' : rs'.length = n := by simpa using hn
    have hsy := hrs (sy, tsy) (by simp)
    dsimp only at hsy
    have hrs' : ∀ p ∈ rs', 0 ≤ p.1 ∧ p.1 ≤ 7 := fun p hp => hrs p (List.mem_append.mpr (.inl hp))
    have hrev : (ti (rs' ++ [(sy, tsy)])).reverse = sy :: (ti rs').reverse := by simp [ti]
    rw [hrev] at ret
    have hbl : ((tv (rs' ++ [(sy, tsy)])).length == 0) = false := by simp [tv]
    k_steps
    (rename IsRange _ _ _ _ _ _ _ _ => hR2)
    (with_reducible rename Fr _ _ _ _ => F2)
    (with_reducible rename News _ _ _ _ => N2)

    rename_i oc0 dc0 D0 h0 ld0 tk0 Fo h2 lF h2b F00 N00 h3 tk3 t3 u3 v3 kp3
    refine stopGo ?_
    obtain ⟨cA, hcA⟩ : ∃ c, c = L' + 1 := ⟨_, rfl⟩
    have hct : ∀ p ∈ tl, p.1 ≠ cA := fun p hp => hcA ▸ Nat.ne_of_lt (Nat.lt_succ_of_lt (l1' p hp))
    have hFt : ∀ p ∈ tl, p.1 ≠ Fo := ne_of_AllLt lF.2.2
    have hcF : cA ≠ Fo := hcA ▸ Nat.ne_of_lt lF.2.1
    have N2' : News g L' h3 ((cA, oc0) :: (Fo, listOf #[] 0) :: tl) := News.subset N2 (by rw [hcA]; walk_at "mine sub")
    refine loop_range (by rfl) F2 N2' hR2 (range_small (by omega) (by omega) (by omega) (by omega)) (e + 1 - b).toNat (range_n _ _)
      [Str.ofString "spot", Str.ofString "last"] (fun _ : Unit => _)
      (fun i _ news => ∃ oc c vs k new, news = (cA, oc) :: (Fo, listOf (List.toArray vs) k) :: (new ++ tl) ∧ oc.data = .cell c ∧ Paired (StrsTup new) vs ((List.range i).foldl (covF (fun k => optS (tP ts) (ti ws) sy k e) (fun k => covS (tP ts) (ti ws) (ti rs').reverse b k) b) []) ∧ (∀ q ∈ new, q.1 ≠ cA ∧ q.1 ≠ Fo ∧ ∀ p ∈ tl, p.1 ≠ q.1) ∧ vs.length ≤ i * 2000)
      () Agr.rfl ⟨oc0, _, [], 0, [], rfl, dc0, .nil, (fun _ h => nomatch h), Nat.zero_le _⟩ ?_ ?_
    · clear F2 N2 N2' hR2 dc0 kp3 F00 N00
      intro i t4 _ u4 news4 h4 tk4 It4 own4 hi4 hI hnit4 hown4 hItO4 F4 N4
      obtain ⟨oc, c, vs, k, new, rfl, hoc, hpv, hnew, hvl⟩ := hI
      simp only [List.cons_append] at N4
      obtain ⟨tl4, htl4⟩ : ∃ f, f = (new ++ tl) ++ own4 := ⟨_, rfl⟩
      rw [← htl4] at N4
      have hc4 : ∀ p ∈ tl4, p.1 ≠ cA := htl4 ▸ own_apart hown4 (fun p hp => (List.mem_append.mp hp).elim (fun z => (hnew p z).1) (hct p)) (hnit4 _ (.head _))
      have hF4 : ∀ p ∈ tl4, p.1 ≠ Fo := htl4 ▸ own_apart hown4 (fun p hp => (List.mem_append.mp hp).elim (fun z => (hnew p z).2.1) (hFt p)) (hnit4 _ (.tail _ (.head _)))
      have ht4 : ∀ p ∈ tl, p ∈ tl4 := htl4 ▸ fun p hp => sub_l _ (sub_r _ hp)
      have hn4 : ∀ p ∈ new, p ∈ tl4 := htl4 ▸ fun p hp => sub_l _ (sub_l _ hp)
      have ho4 : ∀ p ∈ own4, p ∈ tl4 := htl4 ▸ sub_r
      have hr4' := ht4 _ hr
      have hw4' := ht4 _ hw
      have hfree : ∀ p ∈ tl4, p ∈ (cA, oc) :: (Fo, listOf (List.toArray vs) k) :: tl4 := fun p hp => .tail _ (.tail _ hp)
      k_unmd
      try k_fold
      k_steps
      refine stopGo ?_
      refine options_spec (by walk_at "mine room") (by assumption) X' T' N4 (hfree _ hw4') (hC.mono fun p hp => hfree p (ht4 p hp)) (fun t ht => (hts t ht).mono fun p hp => hfree p (ht4 p hp)) hmk (fun t ht => Nat.le_trans (hlen t ht) (by decide)) hw4 (by omega) (by omega) (by omega) hsy.1 hsy.2 ?_
      intro l5 lvs ln h5 tk5 F5 N5 hS5 hl5
      have hS5' : StrsAre lvs (optS (tP ts) (ti ws) sy (b + (i : Int)) e) := hS5
      have hol := optS_len hlen (ti ws) sy (b + (i : Int)) e
      have hok := optS_ok (tP ts) (ti ws) sy (b + (i : Int)) e
      generalize hopt : optS (tP ts) (ti ws) sy (b + (i : Int)) e = opts at hS5' hol hok
      have hstep : (List.range (i + 1)).foldl (covF (fun k => optS (tP ts) (ti ws) sy k e) (fun k => covS (tP ts) (ti ws) (ti rs').reverse b k) b) [] = (List.range i).foldl (covF (fun k => optS (tP ts) (ti ws) sy k e) (fun k => covS (tP ts) (ti ws) (ti rs').reverse b k) b) [] ++ (covS (tP ts) (ti ws) (ti rs').reverse b (b + (i : Int))).flatMap fun a => opts.map fun o => a ++ [o] := by
        rw [List.range_succ, List.foldl_append, List.foldl_cons, List.foldl_nil, covF, hopt]
      k_steps
      refine stopGo ?_
      rename Fr g _ _ _ => F6
      rename News g _ _ _ => N6
      rename_i e5 g6 le6
      cases opts with
      | nil =>
        refine ne_nil' (bb := false) N6 (by k_mem) (by k_mem) hS5' hok (by walk_at "mine units") rfl ?_
        k_steps
        rename Fr g _ _ _ => F7
        rename News g _ _ _ => N7
        refine TurnPost.ok F7 N7 () ((cA, oc) :: (Fo, listOf (List.toArray vs) k) :: (new ++ tl)) (by walk_at "mine agr") ⟨oc, c, vs, k, new, rfl, hoc, ?_, hnew, by omega⟩ ?_ ?_ hnit4
        · rw [hstep]
          have e0 : ∀ l : List (List Str), (l.flatMap fun a => ([] : List Str).map fun o => a ++ [o]) = [] := fun l => by induction l with
            | nil => rfl
            | cons a r ih => rw [List.flatMap_cons, ih]; rfl
          rw [e0, List.append_nil]
          exact hpv
        · refine sub_cons (by k_mem) (sub_cons (by k_mem) fun p hp => ?_)
          refine List.Mem.tail _ (List.Mem.tail _ (List.Mem.tail _ (List.Mem.tail _ ?_)))
          exact (List.mem_append.mp hp).elim (hn4 p) (ht4 p)
        · exact fun p hp => .tail _ (.tail _ (.tail _ (.tail _ (ho4 p hp))))
      | cons o0 os =>
        refine ne_nil' (bb := true) N6 (by k_mem) (by k_mem) hS5' hok (by walk_at "mine units") rfl ?_
        k_steps
        refine stopGo ?_
        refine slice_tuple_init (by assumption) N6 (t := r) (xs := tv (rs' ++ [(sy, tsy)])) (n := nr) (by k_mem) (by simp [tv]) (by simp [tv]; omega) ?_
        intro D7 h7 F7 N7 l7
        rw [show (tv (rs' ++ [(sy, tsy)])).dropLast = tv rs' by simp [tv]] at N7
        k_steps
        refine stopGo ?_
        have h7f : ∀ p ∈ tl4, p ∈ (D7, tupO (tv rs') 0) :: (e5, listOf #[] 0) :: (l5, listOf (List.toArray lvs) ln) :: (cA, oc) :: (Fo, listOf (List.toArray vs) k) :: tl4 := fun p hp => .tail _ (.tail _ (.tail _ (.tail _ (.tail _ hp))))
        refine ih hn' (by walk_at "mine room") (by assumption) X' T' N7 (.head _) (h7f _ hw4') (hC.mono fun p hp => h7f p (ht4 p hp)) (fun t ht => (hts t ht).mono fun p hp => h7f p (ht4 p hp)) hmk hlen (by omega) hw4 hrs' hb (by omega) (by omega) ?_
        (try clear N4); (try clear F4); (try clear N5); (try clear F5); (try clear N6); (try clear F6); (try clear N7); (try clear F7)
        intro lc cvs ck newc h8 tk8 F8 N8 hpc hlc hnc
        k_steps
        refine stopGo ?_
        (with_reducible rename Fr _ _ _ _ => F8')
        obtain ⟨bs, hbs⟩ : ∃ f, f = (lc, listOf (List.toArray cvs) ck) :: (newc ++ ((l5, listOf (List.toArray lvs) ln) :: tl4)) := ⟨_, rfl⟩
        have hlcb : (lc, listOf (List.toArray cvs) ck) ∈ bs := hbs ▸ .head _
        have hncb : ∀ p ∈ newc, p ∈ bs := hbs ▸ fun p hp => .tail _ (sub_l _ hp)
        have hl5b : (l5, listOf (List.toArray lvs) ln) ∈ bs := hbs ▸ .tail _ (sub_r _ (.head _))
        have h4b : ∀ p ∈ tl4, p ∈ bs := hbs ▸ fun p hp => .tail _ (sub_r _ (.tail _ hp))
        have hcb : ∀ p ∈ bs, p.1 ≠ cA := hbs ▸ ne_cons (Ne.symm (hlc (cA, oc) (sub_r _ (.tail _ (.tail _ (.tail _ (.head _))))))) fun p hp => (List.mem_append.mp hp).elim (fun z => Ne.symm (hnc p z (cA, oc) (.tail _ (.tail _ (.tail _ (.head _)))))) (ne_cons (Ne.symm (hl5 (cA, oc) (.head _))) hc4 p)
        have hFb : ∀ p ∈ bs, p.1 ≠ Fo := hbs ▸ ne_cons (Ne.symm (hlc (Fo, listOf (List.toArray vs) k) (sub_r _ (.tail _ (.tail _ (.tail _ (.tail _ (.head _)))))))) fun p hp => (List.mem_append.mp hp).elim (fun z => Ne.symm (hnc p z (Fo, listOf (List.toArray vs) k) (.tail _ (.tail _ (.tail _ (.tail _ (.head _))))))) (ne_cons (Ne.symm (hl5 (Fo, listOf (List.toArray vs) k) (.tail _ (.head _)))) hF4 p)
        have N8' : News g L' h8 ((cA, oc) :: (Fo, listOf (List.toArray vs) k) :: bs) := News.subset N8 (by
          refine sub_cons (.tail _ (sub_r _ (.tail _ (.tail _ (.tail _ (.head _)))))) (sub_cons (.tail _ (sub_r _ (.tail _ (.tail _ (.tail _ (.tail _ (.head _))))))) fun p hp => ?_)
          rw [hbs] at hp
          rcases List.mem_cons.mp hp with rfl | hp
          · exact .head _
          · rcases List.mem_append.mp hp with hp | hp
            · exact .tail _ (sub_l _ hp)
            · rcases List.mem_cons.mp hp with rfl | hp
              · exact .tail _ (sub_r _ (.tail _ (.tail _ (.head _))))
              · exact .tail _ (sub_r _ (h7f p hp)))
        have hcl := covS_len hlen (ti ws) (ti rs').reverse b (b + (i : Int)) hb (by omega)
        have hcr := covS_row (tP ts) (ti ws) (ti rs').reverse b (b + (i : Int))
        generalize hah : covS (tP ts) (ti ws) (ti rs').reverse b (b + (i : Int)) = ah at hpc hcl hcr hstep
        refine loop_listN (by rfl) F8' N8' (r := lc) (items := cvs.toArray) ⟨_, (N8' _ (.tail _ (.tail _ hlcb))).1, rfl, ck, rfl⟩ (N8' _ (.tail _ (.tail _ hlcb))).2.1
          [] (fun _ : Unit => _)
          (fun q _ news => ∃ oc c vs' k' nw, news = (cA, oc) :: (Fo, listOf (List.toArray vs') k') :: (nw ++ bs) ∧ oc.data = .cell c ∧ Paired (StrsTup (nw ++ (newc ++ new))) vs' ((List.range i).foldl (covF (fun k => optS (tP ts) (ti ws) sy k e) (fun k => covS (tP ts) (ti ws) (ti rs').reverse b k) b) [] ++ (ah.take q).flatMap fun a => (o0 :: os).map fun o => a ++ [o]) ∧ (∀ q ∈ nw, q.1 ≠ cA ∧ q.1 ≠ Fo ∧ ∀ p ∈ bs, p.1 ≠ q.1) ∧ vs'.length ≤ i * 2000 + 2 * q)
          () Agr.rfl ⟨oc, c, vs, k, [], rfl, hoc, by simpa using Paired.imp (fun _ _ => StrsTup.mono fun p hp => sub_r _ hp) hpv, (fun _ h => nomatch h), by omega⟩ ?_ ?_
        · (try clear N8); (try clear N8'); (try clear F8); (try clear F8')
          intro q v _ u9 news9 s9 It9 own9 hk9 hI hnit9 hown9 hItO9 F9 N9
          obtain ⟨oc9, c9, vs9, k9, nw, rfl, hoc9, hp9, hnw9, hvl9⟩ := hI
          obtain ⟨x, hx, va, tvs, tn, rfl, hva, hsx⟩ := Paired.get hpc (i := q) (a := v) (by simpa using hk9)
          simp only [List.cons_append] at N9
          obtain ⟨tl9, htl9⟩ : ∃ f, f = (nw ++ bs) ++ own9 := ⟨_, rfl⟩
          rw [← htl9] at N9
          have hc9 : ∀ p ∈ tl9, p.1 ≠ cA := htl9 ▸ own_apart2 hown9 (fun p hp => (List.mem_append.mp hp).elim (fun z => (hnw9 p z).1) (hcb p)) (hnit9 _ (.head _)) (hcb _ hlcb)
          have hF9 : ∀ p ∈ tl9, p.1 ≠ Fo := htl9 ▸ own_apart2 hown9 (fun p hp => (List.mem_append.mp hp).elim (fun z => (hnw9 p z).2.1) (hFb p)) (hnit9 _ (.tail _ (.head _))) (hFb _ hlcb)
          have hb9 : ∀ p ∈ bs, p ∈ tl9 := htl9 ▸ fun p hp => sub_l _ (sub_r _ hp)
          have hn9 : ∀ p ∈ nw, p ∈ tl9 := htl9 ▸ fun p hp => sub_l _ (sub_l _ hp)
          have ho9 : ∀ p ∈ own9, p ∈ tl9 := htl9 ▸ sub_r
          refine wpAny_assign_Name ?_
          subst hcA
          k_steps
          rename Fr _ _ _ _ => F10
          rename News _ _ _ _ => N10
          rename_i g10 oc10 dc10
          refine stopGo ?_
          refine LCg.ListComp_U (F₀ := F10) (by with_unfolding_all rfl) (by decide) (by rfl) (by decide) (by rfl) ?_
          k_steps
          refine stopGo ?_
          obtain ⟨base, hbase⟩ : ∃ f, f = (L' + 1, oc10) :: (Fo, listOf (List.toArray vs9) k9) :: tl9 := ⟨_, rfl⟩
          rw [← hbase] at N10
          have hcm : (L' + 1, oc10) ∈ base := hbase ▸ .head _
          have hFm : (Fo, listOf (List.toArray vs9) k9) ∈ base := hbase ▸ .tail _ (.head _)
          have h9m : ∀ p ∈ tl9, p ∈ base := hbase ▸ fun p hp => .tail _ (.tail _ hp)
          have hlm := h9m _ (hb9 _ hl5b)
          have hvm := h9m _ (hb9 _ (hncb _ hva))
          have hsl := hS5'.length
          have htl : tvs.length ≤ 3 := by
            rw [hsx.length]
            have := hcr x (List.mem_of_getElem? hx)
            simp [ti] at this
            omega
          refine LCg.CompSrc.ledger (by rfl) (by assumption) N10 hlm (size_line_le (by simp only [List.size_toArray]; omega)) ?_
          intro g'
          refine rest_inv (fun j ys news => ∃ nw2, news = nw2 ++ base ∧ Paired (StrsTup nw2) ys (((o0 :: os).take j).map fun o => x ++ [o]) ∧ (∀ q ∈ nw2, ∀ p ∈ base, p.1 ≠ q.1)) ?_ ?_ _ 0 [] _ (Nat.zero_add _) ⟨[], rfl, .nil, fun _ h => nomatch h⟩
          · intro j v ys news I oI C' oC D m₂ h tk E' hj hv hI hO hxv F11 N11 off ne
            obtain ⟨nw2, rfl, hys, hn2⟩ := hI
            obtain ⟨lo, hlo, lt, rfl⟩ := strs_get hS5' (j := j) (v := v) (by simpa using hv)
            have hcm2 : (L' + 1, oc10) ∈ nw2 ++ base := sub_r _ hcm
            have hvm2 : (va, tupO tvs tn) ∈ nw2 ++ base := sub_r _ hvm
            k_steps
            rename Fr _ _ _ _ => F12
            rename News _ _ _ _ => N12
            rename_i D1 g11 F1o N1o d1 T1 nT1 g12 ap
            refine stopGo ?_
            have hI1 : I ≠ T1 := ap (I, oI) (.tail _ (.head _)) (Nat.ne_of_lt d1.1)
            have hC1 : C' ≠ T1 := ap (C', oC) (.tail _ (.tail _ (.head _))) (Nat.ne_of_lt d1.2.1)
            have hD1 : D ≠ T1 := ap (D, LCg.lst ys) (.tail _ (.tail _ (.tail _ (.head _)))) (Nat.ne_of_lt d1.2.2.1)
            have hb1 : ∀ p ∈ nw2 ++ base, p.1 ≠ T1 := fun p hp => ap p (.tail _ (.tail _ (.tail _ (.tail _ hp)))) (Nat.ne_of_lt (AllLt.mem d1.2.2.2 p hp))
            refine compEnd F12 N12 ((T1, tupO (tvs ++ [.str lo lt]) nT1) :: (nw2 ++ base)) ?_ ?_ (.inr ⟨_, .tail _ (sub_r _ hlm), rfl, _, rfl⟩) ⟨(T1, tupO (tvs ++ [.str lo lt]) nT1) :: nw2, rfl, ?_, ?_⟩
            · exact sub_cons (by k_mem) (sub_cons (by k_mem) (sub_cons (by k_mem) (sub_cons (by k_mem) fun p hp => .tail _ (.tail _ (.tail _ (.tail _ (.tail _ hp)))))))
            · intro p hp
              rcases List.mem_cons.mp hp with rfl | hp
              · exact ⟨hI1.symm, hC1.symm, hD1.symm⟩
              · exact off p hp
            · rw [List.take_add_one, hlo, List.map_append]
              exact Paired.snoc ⟨T1, _, nT1, rfl, .head _, strs_snoc hsx lo lt⟩ (Paired.imp (fun _ _ => StrsTup.mono fun p hp => .tail _ hp) hys)
            · intro q hq
              rcases List.mem_cons.mp hq with rfl | hq
              · exact fun p hp => hb1 p (sub_r _ hp)
              · exact hn2 q hq
          · intro ys news hI
            obtain ⟨nw2, rfl, hys, hn2⟩ := hI
            rw [take_all (l := o0 :: os) (by simp [hsl])] at hys
            unfold LCg.FinE
            intro D h tk F12 N12 o1
            k_steps
            refine stopGo ?_
            have hDb : ∀ p ∈ nw2 ++ base, p.1 ≠ D := off1_mem o1
            have hyl : ys.length = (o0 :: os).length := by rw [Paired.len hys, List.length_map]
            have N13 : News g L' h ((Fo, listOf (List.toArray vs9) k9) :: (D, LCg.lst ys) :: (L' + 1, oc10) :: (nw2 ++ tl9)) := News.subset N12 (by
              refine sub_cons (.tail _ (sub_r _ hFm)) (sub_cons (.head _) (sub_cons (.tail _ (sub_r _ hcm)) fun p hp => .tail _ ?_))
              exact (List.mem_append.mp hp).elim (fun z => sub_l _ z) fun z => sub_r _ (h9m p z))
            have hql : q < ah.length := (List.getElem?_eq_some_iff.mp hx).1
            have hrl : (ti rs').reverse.length ≤ 2 := by simp [ti]; omega
            have hpw : 10 ^ (ti rs').reverse.length ≤ 10 ^ 2 := Nat.pow_le_pow_right (by decide) hrl
            have hi5 : i ≤ 5 := by omega
            refine kl_extend (its := vs9.toArray) (n := k9) (its2 := ys.toArray) (l := vs9 ++ ys) (b := D) (D := Fo) (by assumption) N13 (n2 := ys.length) (.tail _ (.head _)) (by simp) (by simp; intro e; rw [e] at hyl; cases hyl)
              (.head (ne_cons (fun e => hDb _ (sub_r _ hFm) e.symm) (ne_cons hcF fun p hp => (List.mem_append.mp hp).elim (fun z e => hn2 p z _ hFm e.symm) (hF9 p)))) ?_ ?_ ?_ ?_
            · simp only [Builtin.List.listTooLong, List.size_toArray, sizeLine_eq, Bool.and_eq_true, decide_eq_true_eq, not_and]
              intro _; omega
            · rw [sizeLine_eq]; show vs9.toArray.toList.length ≤ _; rw [List.toList_toArray]; omega
            · simp only [List.size_toArray, sizeLine_eq]; omega
            intro h14 F14 N14
            k_steps
            rename Fr _ _ _ _ => F15
            rename News _ _ _ _ => N15
            refine TurnT.ok F15 N15 () ((L' + 1, oc10) :: (Fo, listOf (List.toArray (vs9 ++ ys)) (k9 + 1)) :: ((nw2 ++ nw) ++ bs)) (by walk_at "mine agr") ⟨oc10, _, vs9 ++ ys, k9 + 1, nw2 ++ nw, rfl, dc10, ?_, ?_, ?_⟩ ?_ ?_ ?_
            · rw [List.take_add_one, hx, List.flatMap_append, ← List.append_assoc (List.foldl _ _ _)]
              refine Paired.app (Paired.imp (fun _ _ => StrsTup.mono fun p hp => ?_) hp9) ?_
              · rw [List.append_assoc]; exact sub_r _ hp
              · rw [show ((some x).toList.flatMap fun a => (o0 :: os).map fun o => a ++ [o]) = (o0 :: os).map fun o => x ++ [o] by simp]
                exact Paired.imp (fun _ _ => StrsTup.mono fun p hp => sub_l _ (sub_l _ hp)) hys
            · intro q hq
              rcases List.mem_append.mp hq with hq | hq
              · exact ⟨fun e => hn2 q hq _ hcm e.symm, fun e => hn2 q hq _ hFm e.symm, fun p hp => hn2 q hq p (h9m p (hb9 p hp))⟩
              · exact hnw9 q hq
            · rw [List.length_append]; omega
            · refine sub_cons (by k_mem) (sub_cons (by k_mem) fun p hp => .tail _ (.tail _ (.tail _ ?_)))
              rcases List.mem_append.mp hp with hp | hp
              · rcases List.mem_append.mp hp with hp | hp
                · exact sub_l _ hp
                · exact sub_r _ (hn9 p hp)
              · exact sub_r _ (hb9 p hp)
            · exact fun p hp => .tail _ (.tail _ (.tail _ (sub_r _ (ho9 p hp))))
            · obtain ⟨oi, hoi⟩ := hItO9
              refine ne_cons (fun e => hc9 _ (ho9 _ hoi) e.symm) (ne_cons (fun e => hF9 _ (ho9 _ hoi) e.symm) fun p hp => ?_)
              rcases List.mem_append.mp hp with hp | hp
              · rcases List.mem_append.mp hp with hp | hp
                · exact fun e => hn2 p hp _ (h9m _ (ho9 _ hoi)) e.symm
                · exact hnit9 p (.tail _ (.tail _ (sub_l _ hp)))
              · exact hnit9 p (.tail _ (.tail _ (sub_r _ hp)))
        · rintro h20 tk20 _ u20 news20 F20 N20 ⟨oc20, c20, vs20, k20, nw, rfl, hoc20, hp20, hnw20, hvl20⟩
          k_unmd
          k_steps
          rename Fr _ _ _ _ => F21
          rename News _ _ _ _ => N21
          have hcs : cvs.length = ah.length := Paired.len hpc
          refine TurnPost.ok F21 N21 () ((cA, oc20) :: (Fo, listOf (List.toArray vs20) k20) :: ((nw ++ (newc ++ new)) ++ tl)) (by walk_at "mine agr") ⟨oc20, c20, vs20, k20, nw ++ (newc ++ new), rfl, hoc20, ?_, ?_, ?_⟩ ?_ ?_ ?_
          · rw [take_all (l := ah) (by simp [hcs])] at hp20
            rw [hstep]
            exact hp20
          · intro q hq
            rcases List.mem_append.mp hq with hq | hq
            · exact ⟨(hnw20 q hq).1, (hnw20 q hq).2.1, fun p hp => (hnw20 q hq).2.2 p (h4b p (ht4 p hp))⟩
            · rcases List.mem_append.mp hq with hq | hq
              · exact ⟨hcb q (hncb q hq), hFb q (hncb q hq), fun p hp => hnc q hq p (h7f p (ht4 p hp))⟩
              · exact hnew q hq
          · have : 10 ^ (ti rs').reverse.length ≤ 10 ^ 2 := Nat.pow_le_pow_right (by decide) (by simp [ti]; omega)
            simp only [List.size_toArray] at hvl20
            omega
          · refine sub_cons (by k_mem) (sub_cons (by k_mem) fun p hp => .tail _ (.tail _ ?_))
            rcases List.mem_append.mp hp with hp | hp
            · rcases List.mem_append.mp hp with hp | hp
              · exact sub_l _ hp
              · rcases List.mem_append.mp hp with hp | hp
                · exact sub_r _ (hncb p hp)
                · exact sub_r _ (h4b p (hn4 p hp))
            · exact sub_r _ (h4b p (ht4 p hp))
          · exact fun p hp => .tail _ (.tail _ (sub_r _ (h4b p (ho4 p hp))))
          · obtain ⟨oi, hoi⟩ := hItO4
            refine ne_cons (fun e => hc4 _ (ho4 _ hoi) e.symm) (ne_cons (fun e => hF4 _ (ho4 _ hoi) e.symm) fun p hp => ?_)
            rcases List.mem_append.mp hp with hp | hp
            · rcases List.mem_append.mp hp with hp | hp
              · exact fun e => (hnw20 p hp).2.2 _ (h4b _ (ho4 _ hoi)) e.symm
              · rcases List.mem_append.mp hp with hp | hp
                · exact fun e => hnc p hp _ (h7f _ (ho4 _ hoi)) e.symm
                · exact hnit4 p (.tail _ (.tail _ (sub_l _ hp)))
            · exact hnit4 p (.tail _ (.tail _ (sub_r _ hp)))
    · (try clear N2); (try clear N2'); (try clear F2)
      rintro h22 tk22 _ u22 news22 F22 N22 ⟨oc22, c22, vs22, k22, new, rfl, hoc22, hp22, hnew22, hvl22⟩
      k_unmd
      k_steps
      rename News h₀ _ _ _ => N23
      rename Fr h₀ _ _ _ => F23
      refine ret Fo vs22 k22 new _ _ F23 (News.rest N23) ?_ ?_ ?_
      · rw [covS]; exact hp22
      · intro p hp
        rcases List.mem_append.mp hp with hp | hp
        · exact (hnew22 p hp).2.1
        · exact hFt p hp
      · exact fun q hq => (hnew22 q hq).2.2
end
end

section
open PySem.Calls
set_option maxRecDepth 100000
section
variable {prog : Program} {w : World} {A : Around} {E : Value → Shared → Prop} {s : Shared} {h₀ : Heap} {L : Addr} {m : Str → Option Value} {env : Env}
open LCg
/-- the comprehension's source is a tuple -/
noncomputable def SrcT (prog : Program) (w : World) (A : Around) (h₀ : Heap) (L : Addr) (m : Str → Option Value) (env : Env) (elt : Expr) (x : Str) (scope : Scope) (cl : List (Str × Addr)) (Fin : Shared → List Value → List (Addr × Obj) → Prop) (xv : Value) (s₁ : Shared) : Prop :=
  ∃ ax its k news, xv = .ref ax ∧ A.handled = none ∧ Fr h₀ L s₁.heap m ∧ News h₀ L s₁.heap news ∧ (ax, ({ cls := .type "tuple", data := .seq its k } : Obj)) ∈ news ∧ its.size ≤ sizeLine ∧
    ∀ g, CompRest prog w A h₀ L m env elt x scope cl { s₁ with heap := g } (fun nw => (ax, ({ cls := .type "tuple", data := .seq its k } : Obj)) ∈ nw) (fun i v => its[i]? = some v) (Fin { s₁ with heap := g }) its.size 0 [] news
theorem ListComp_Tup {elt iter : Expr} {x : Str} {px : Pos} {scope : Scope} {cl : List (Str × Addr)} {pos : Pos} {Q : Value → Shared → Prop} (_F₀ : Fr h₀ L s.heap m)
    (hclos : closureFor scope env = pure cl) (hcell : ∀ y ∈ scope.names, y.2 ≠ .cell) (hkind : scope.kind = .function)
    (hnames : ∀ y ∈ scope.names, y.2 = .local → scope.names.lookup y.1 = some .local) (hx : scope.names.lookup x = some .local)
    (h : wpAny (model prog w) A (eval iter env) (SrcT prog w A h₀ L m env elt x scope cl (fun s₂ => FinE h₀ L m s₂ Q)) E s)
    (hs : ∀ x, foldedSetIterable iter env x = pure x := by intro _; rfl) :
    wpAny (model prog w) A (eval (.ListComp elt [⟨.Name x px, iter, [], 0⟩] scope pos) env) Q E s := by
  rw [eval_ListComp]
  refine wpAny_comprehension_free (use := none) rfl hs hclos hkind hnames (wpAny_mono h (fun xv s₁ h₁ => ?_) fun _ _ e => e)
  obtain ⟨ax, its, k, news, rfl, hh, F, N, S, hsz, R⟩ := h₁
  have hl : s₁.heap.IsTuple ax its := ⟨_, (N _ S).1, rfl, k, rfl⟩
  have hlt : ax < s₁.heap.objs.size := by obtain ⟨_, e, _⟩ := hl; exact Heap.lt_size e
  refine wpAny_pyIter_tuple hl ?_
  have up : ∀ (z : Obj) b o, s₁.heap.get? b = some o → (s₁.heap.push z).get? b = some o := fun _ b o e => Heap.get?_push_of_some _ e
  refine block_U (Walks.tuple hh s₁.heap.objs.size ax (Nat.ne_of_lt hlt) its) hsz (fun i h st => by obtain ⟨o, e, _⟩ := st.1; exact ⟨o, e⟩)
    (fun i h h' o nw st e e' kp N' S' => ⟨by obtain ⟨o', q, r⟩ := st.1; rw [e] at q; cases q; exact ⟨o, e', r⟩, ⟨_, (N' _ S').1, rfl, k, rfl⟩⟩) hcell hkind hx ⟨⟨_, Heap.get?_push_size _ rfl, rfl, rfl⟩, hl.at fun o e => up _ _ o e⟩ (fun b hb => ?_)
    (F.keeps (up _)) (N.grown (up _)) (Nat.ne_of_lt F.ns.lt) (next_is_new F) (fun p hp => Nat.ne_of_lt (Heap.lt_size (N p hp).1)) S (R _) ?_
  · show b < (s₁.heap.push _).objs.size
    rw [Heap.size_push]
    rcases List.mem_cons.mp hb with rfl | hb
    · exact Nat.lt_succ_self _
    · rw [List.mem_singleton.mp hb]; exact Nat.lt_succ_of_lt hlt
  · intro D C h tk m' ys news' F' N' o1 hn hC₀ hD₀ hCL hDL hCD offC fin
    refine ⟨m', hn, fun h'' hs'' => fin D h'' tk (F'.change hs'' hCL hC₀) (fun p hp => ?_) o1⟩
    refine ⟨hs''.extBut _ _ ?_ (N' p hp).1, (N' p hp).2⟩
    rcases List.mem_cons.mp hp with rfl | hp
    · exact Ne.symm hCD
    · exact offC p hp
end

section
local macro_rules | `(tactic| walk_at $s) => stp "|eval ListComp|SrcT|CompEnd|call ref|subscriptTail|call type:tuple|" s
local macro_rules | `(tactic| k_get) => asmT

theorem dict_item {prog : Program} {w : World} {K : Type} [DecidableEq K] {knd : KeyKind prog w K} {A : Around} {E : Value → Shared → Prop} {s : Shared} {h₀ : Heap} {L d : Addr} {o : Obj} {news : List (Addr × Obj)} {kvs : List (K × Value)} {k : K} {key v : Value} {value slice : PySem.Expr} {Q : Value → Shared → Prop} (N : News h₀ L s.heap news) (hp : (d, o) ∈ news) (hd : o.IsDictOf knd kvs) (hkey : knd.is k key = true) (hl : valueAt kvs k = some v) (h : Q v { s with toks := s.toks + 1 })
    (hs : subscripted slice false (.ref d) key = operate [.ref d, key] (getItem (.ref d) key) := by with_unfolding_all rfl) :
    wpAny (model prog w) A (subscriptTail value slice (.ref d) key) Q E s :=
  have hD := kda_dict N hp hd
  tail_any hD.typeIs slot_dict_getitem.lookup (wpAny_getItem_of hkey hD.mapOf hl h) hs
theorem ab_a {t1 t2 t3 t4 : Tok} : valueAt (strPairs [(.str (Str.ofString "a") t1, .int 3 t2), (.str (Str.ofString "b") t3, .int 4 t4)]) (Str.ofString "a") = some (.int 3 t2) := by with_unfolding_all rfl
theorem ab_b {t1 t2 t3 t4 : Tok} : valueAt (strPairs [(.str (Str.ofString "a") t1, .int 3 t2), (.str (Str.ofString "b") t3, .int 4 t4)]) (Str.ofString "b") = some (.int 4 t4) := by with_unfolding_all rfl

set_option maxHeartbeats 4000000 in
theorem isleaf_tree : ∀ {w : World} {A : Around} {s : Shared} {h₀ : Heap} {L : Addr} {m mg mb : Str → Option Value} {mean : ExcName → Option Value} {tl : List (Addr × Obj)} {x : Addr} {Q E : Value → Shared → Prop}
    (_ : Room A 2) (_ : Fr h₀ L s.heap m) (_ : (hd.heap_1 w.params).In h₀) (_ : Top vw lse mean mg mb h₀) (_ : News h₀ L s.heap tl)
    (_ : ∀ h' t', Fr h₀ L h' m → News h₀ L h' tl → Q (.bool false) { s with heap := h', toks := t' }),
    wpAny (model Challenge.rw_on0168_01.row.prog w) A (call (.ref 118) [.ref x]) Q E s := by
  try row_walk
  k_fill
  intro w A s h₀ L m mg mb mean tl x Q E R F X T N ret
  obtain ⟨hh, dp, frs, gd, un⟩ := A
  obtain ⟨R1, R2, R3⟩ := R
  dsimp only at R1 R2 R3
  subst R1
  refine wpAny_call ?_
  refine enterN (binds := [(Str.ofString "self", .ref x)]) F X N T (by k_is) (by k_is) (by show dp < 1000; omega) (BindsTo.of_eq rfl) (locs rfl) ?_ rfl rfl rfl (by decide)
  intro g L' h' FG' F' N' X' T' l1
  (try dsimp only)
  try k_fold
  k_steps
  exact ret _ _ (by assumption) (by assumption)

set_option maxHeartbeats 4000000 in
theorem isleaf_leaf : ∀ {w : World} {A : Around} {s : Shared} {h₀ : Heap} {L : Addr} {m mg mb : Str → Option Value} {mean : ExcName → Option Value} {tl : List (Addr × Obj)} {x : Addr} {Q E : Value → Shared → Prop}
    (_ : Room A 2) (_ : Fr h₀ L s.heap m) (_ : (hd.heap_1 w.params).In h₀) (_ : Top vw lse mean mg mb h₀) (_ : News h₀ L s.heap tl)
    (_ : ∀ h' t', Fr h₀ L h' m → News h₀ L h' tl → Q (.bool true) { s with heap := h', toks := t' }),
    wpAny (model Challenge.rw_on0168_01.row.prog w) A (call (.ref 186) [.ref x]) Q E s := by
  try row_walk
  k_fill
  intro w A s h₀ L m mg mb mean tl x Q E R F X T N ret
  obtain ⟨hh, dp, frs, gd, un⟩ := A
  obtain ⟨R1, R2, R3⟩ := R
  dsimp only at R1 R2 R3
  subst R1
  refine wpAny_call ?_
  refine enterN (binds := [(Str.ofString "self", .ref x)]) F X N T (by k_is) (by k_is) (by show dp < 1000; omega) (BindsTo.of_eq rfl) (locs rfl) ?_ rfl rfl rfl (by decide)
  intro g L' h' FG' F' N' X' T' l1
  (try dsimp only)
  try k_fold
  k_steps
  exact ret _ _ (by assumption) (by assumption)

set_option maxHeartbeats 4000000 in
theorem marks_spec : ∀ {w : World} {A : Around} {s : Shared} {h₀ : Heap} {L : Addr} {m mg mb : Str → Option Value} {mean : ExcName → Option Value} {tl : List (Addr × Obj)} {r : Addr} {vs : List Value} {n : Nat} {ns : List Node} {Q E : Value → Shared → Prop}
    (_ : Room A 4) (_ : Fr h₀ L s.heap m) (_ : (hd.heap_1 w.params).In h₀) (_ : Top vw lse mean mg mb h₀) (_ : News h₀ L s.heap tl)
    (_ : (r, tupO vs n) ∈ tl) (_ : Paired (NodeIn tl) vs ns) (_ : ∀ nd ∈ ns, ∀ k : Int, nd = .tree k → 0 ≤ k ∧ k ≤ 1000) (_ : ns.length ≤ 100)
    (_ : ∀ D us h' t', Fr h₀ L h' m → News h₀ L h' ((D, tupO us 0) :: tl) → StrsAre us (ns.map lab) → (∀ p ∈ tl, p.1 ≠ D) → Q (.ref D) { s with heap := h', toks := t' }),
    wpAny (model Challenge.rw_on0168_01.row.prog w) A (call (.ref 366) [.ref r]) Q E s := by
  try row_walk
  k_fill
  intro w A s h₀ L m mg mb mean tl r vs n ns Q E R F X T N hr hp hmk hlen ret
  obtain ⟨hh, dp, frs, gd, un⟩ := A
  obtain ⟨R1, R2, R3⟩ := R
  dsimp only at R1 R2 R3
  subst R1
  refine wpAny_call ?_
  refine enterN (binds := [(Str.ofString "row", .ref r)]) F X N T (by k_is) (by k_is) (by show dp < 1000; omega) (BindsTo.of_eq rfl) (locs rfl) ?_ rfl rfl rfl (by decide)
  intro g L' h' FG' F' N' X' T' l1
  (try dsimp only)
  try k_fold
  k_steps
  refine stopGo ?_
  refine ListComp_Tup (by k_asm) (by with_unfolding_all rfl) (by decide) (by rfl) (by decide) (by rfl) ?_
  k_steps
  have hvl : vs.length = ns.length := Paired.len hp
  refine stopGo ⟨r, vs.toArray, n, tl, rfl, by rfl, by assumption, N', hr, size_line_le (by simp only [List.size_toArray]; omega), fun g' => ?_⟩
  refine rest_inv (fun j ys news => news = tl ∧ StrsAre ys ((ns.take j).map lab)) ?_ ?_ _ 0 [] _ (Nat.zero_add _) ⟨rfl, .nil⟩
  · intro j v ys news I oI C' oC D m₂ h tk E' hj hv hI hO hxv F4 N4 off ne
    obtain ⟨rfl, hys⟩ := hI
    obtain ⟨nd, hnd, hN⟩ := Paired.get hp (i := j) (a := v) (by simpa using hv)
    have hkb := hmk nd (List.mem_of_getElem? hnd)
    cases hN with
    | tree q1 q2 q3 q4 =>
      rename_i kk tt
      obtain ⟨hk0, hk1⟩ := hkb kk rfl
      k_steps
      refine stopGo ?_
      refine isleaf_tree (by walk_at "mine room") (by assumption) (by assumption) (by assumption) (by assumption) ?_
      intro h5 t5 F5 N5
      k_steps
      refine stopGo ?_
      refine compEnd (by assumption) (by assumption) news sub_rf off hr ⟨rfl, ?_⟩
      rw [List.take_add_one, hnd, List.map_append]
      exact strs_snoc hys _ _
    | leaf z q1 q2 q3 q4 q5 q6 q7 =>
      k_steps
      refine stopGo ?_
      refine isleaf_leaf (by walk_at "mine room") (by assumption) (by assumption) (by assumption) (by assumption) ?_
      intro h5 t5 F5 N5
      rcases z with rfl | rfl
      · have q7' : getL (Str.ofString "kind") _ = some (some (.str (Str.ofString "a") _)) := q7
        clear q7
        k_steps
        refine stopGo ?_
        refine dict_item (knd := PySem.strKind _ _) (by assumption) (by k_mem) (by assumption) (strKind_is _ _ _ _) ab_a ?_
        k_steps
        refine stopGo ?_
        refine compEnd (by assumption) (by assumption) news (fun p hp => .tail _ hp) off hr ⟨rfl, ?_⟩
        rw [List.take_add_one, hnd, List.map_append]
        exact strs_snoc hys _ _
      · have q7' : getL (Str.ofString "kind") _ = some (some (.str (Str.ofString "b") _)) := q7
        clear q7
        k_steps
        refine stopGo ?_
        refine dict_item (knd := PySem.strKind _ _) (by assumption) (by k_mem) (by assumption) (strKind_is _ _ _ _) ab_b ?_
        k_steps
        refine stopGo ?_
        refine compEnd (by assumption) (by assumption) news (fun p hp => .tail _ hp) off hr ⟨rfl, ?_⟩
        rw [List.take_add_one, hnd, List.map_append]
        exact strs_snoc hys _ _
  · intro ys news hI
    obtain ⟨rfl, hys⟩ := hI
    rw [take_all (l := ns) (by simp [hvl])] at hys
    unfold LCg.FinE
    intro D h tk F5 N5 o1
    k_steps
    refine stopGo ?_
    have hyl : ys.length ≤ 100 := by rw [hys.length, List.length_map]; exact hlen
    refine kde_tupleOf (zs := ys) (items := ys.toArray) (by assumption) N5 ⟨_, (N5 _ (.head _)).1, rfl, _, rfl⟩ (by simp; omega) (by simp) ?_
    intro D6 h6 F6 N6 l6
    k_steps
    rename News h₀ _ _ _ => N7
    rename Fr h₀ _ _ _ => F7
    refine ret D6 ys _ _ F7 (News.subset N7 (sub_cons (.head _) fun p hp => .tail _ (.tail _ hp))) hys fun p hp => Nat.ne_of_lt (l6 p (.tail _ hp))
end
end

section
open PySem.Calls
set_option maxRecDepth 100000
theorem ints_take {vs : List Value} {ns : List Int} (h : IntsAre vs ns) : ∀ k, IntsAre (vs.take k) (ns.take k) := by
  induction h with
  | nil => intro k; simp; exact .nil
  | cons a t r ih =>
    intro k
    cases k with
    | zero => exact .nil
    | succ k => simp; exact .cons a t (ih k)
section
local macro_rules | `(tactic| walk_at $s) => stp "|pyIter ref|subscriptTail Name Slice ref ref|binaryOp Mult int int|" s
local macro_rules | `(tactic| walk_at $s) => fvf "|exec For Name Subscript cons nil|" s

set_option maxHeartbeats 4000000 in
theorem pen_spec : ∀ {w : World} {A : Around} {s : Shared} {h₀ : Heap} {L : Addr} {m mg mb : Str → Option Value} {mean : ExcName → Option Value} {tl : List (Addr × Obj)} {l : Addr} {vs : List Value} {ns : List Int} {Q E : Value → Shared → Prop}
    (_ : Room A 3) (_ : Fr h₀ L s.heap m) (_ : (hd.heap_1 w.params).In h₀) (_ : Top vw lse mean mg mb h₀) (_ : News h₀ L s.heap tl)
    (_ : h₀.IsList l vs.toArray) (_ : IntsAre vs ns) (_ : vs.length ≤ 1000)
    (_ : ∀ p n tn tk e h' t', 0 ≤ n → Fr h₀ L h' m → News h₀ L h' ((p, listOf #[.int n tn, .int 0 tk] e) :: tl) → (∀ q ∈ tl, q.1 ≠ p) → Q (.ref p) { s with heap := h', toks := t' }),
    wpAny (model Challenge.rw_on0168_01.row.prog w) A (call (.ref 344) [.ref l]) Q E s := by
  try row_walk
  k_fill
  intro w A s h₀ L m mg mb mean tl l vs ns Q E R F X T N hl hi hvl ret
  obtain ⟨hh, dp, frs, gd, un⟩ := A
  obtain ⟨R1, R2, R3⟩ := R
  dsimp only at R1 R2 R3
  subst R1
  refine wpAny_call ?_
  refine enterN (binds := [(Str.ofString "script", .ref l)]) F X N T (by k_is) (by k_is) (by show dp < 1000; omega) (BindsTo.of_eq rfl) (locs rfl) ?_ rfl rfl rfl (by decide)
  intro g L' h' FG' F' N' X' T' l1
  have hlg : g.IsList l vs.toArray := hl.at fun o e => FG'.keep l o e
  (try dsimp only)
  try k_fold
  k_steps
  refine stopGo ?_
  rename Fr g _ _ _ => F2
  rename News g _ _ _ => N2
  refine kmk_slice_lit (zs := vs.take 24) (lo := none) (hi := some 24) F2 N2 (hlg.at fun o e => F2.keep l o e) (by constructor) (by constructor) (by rw [show (some (24 : Int)) = some ((24 : Nat) : Int) from rfl, slicePick_upto']) ?_ (by with_unfolding_all rfl) (by intro _; with_unfolding_all rfl) (size_line_le (by simp; omega))
  intro D h3 F3 N3 l3
  k_steps
  refine stopGo ?_
  have hit := ints_take hi 24
  refine loop_list (by rfl) F3 N3 (r := D) (items := (vs.take 24).toArray) ⟨_, (N3 _ (.head _)).1, rfl, _, rfl⟩ (N3 _ (.head _)).2.1
    [Str.ofString "cell"] (fun (y : Int × Tok) z => if z = Str.ofString "number" then some (.int y.1 y.2) else List.lookup z [(Str.ofString "script", Value.ref l)].reverse)
    (fun _ y news => news = (D, listOf (List.toArray (vs.take 24)) 0) :: tl ∧ 0 ≤ y.1)
    (0, _) Agr.rfl ⟨rfl, Int.le_refl _⟩ ?_ ?_
  · clear F2 N2 F3 N3
    intro i v y u news₁ h4 tk4 It own hv hI hnit hown hItO F4 N4
    obtain ⟨rfl, hy⟩ := hI
    obtain ⟨n, tn⟩ := y
    dsimp only at hy F4
    obtain ⟨c, _, ct, rfl⟩ := ints_get hit (j := i) (v := v) (by simpa using hv)
    k_unmd
    try k_fold
    k_steps
    refine stopGo ?_
    refine mul_int (a := n) (b := 1000003) ?_ (IntMulOk.of_right (intBits_le_64 (by omega) (by omega)))
    have hprod : 0 ≤ n * 1000003 := by omega
    generalize n * 1000003 = pp at hprod
    k_steps
    refine stopGo ?_
    refine mul_int (a := 2) (b := if c < 0 then -c else c) ?_ (IntMulOk.of_left (intBits_le_64 (by omega) (by omega)))
    have habs : 0 ≤ 2 * (if c < 0 then -c else c) := by split <;> omega
    generalize 2 * (if c < 0 then -c else c) = ca at habs
    (try dsimp only)
    iterate 7 (walk1; (try dsimp only))
    walk1
    all_goals (iterate 4 ((try dsimp only); walk1))
    all_goals (try dsimp only)
    all_goals k_steps
    · rename Fr g _ _ _ => F5
      rename News g _ _ _ => N5
      exact TurnPost.ok F5 N5 (pp + ca + 1 + 1, _) ((D, listOf (List.toArray (vs.take 24)) 0) :: tl) (Agr.cong (by walk_at "mine agr")) ⟨rfl, by dsimp only; omega⟩ sub_l sub_r hnit
    · rename Fr g _ _ _ => F5
      rename News g _ _ _ => N5
      exact TurnPost.ok F5 N5 (pp + ca + 0 + 1, _) ((D, listOf (List.toArray (vs.take 24)) 0) :: tl) (Agr.cong (by walk_at "mine agr")) ⟨rfl, by dsimp only; omega⟩ sub_l sub_r hnit
  · (try clear F2); (try clear N2); (try clear F3); (try clear N3)
    rintro h6 tk6 ⟨n, tn⟩ u6 news6 F6 N6 ⟨rfl, hn⟩
    dsimp only at hn F6
    k_unmd
    k_steps
    rename News h₀ _ _ _ => N7
    rename Fr h₀ _ _ _ => F7
    rename _ ∧ AllLt _ tl => l7
    exact ret _ _ _ _ _ _ _ hn F7 (News.subset N7 (sub_cons (.head _) fun p hp => .tail _ (.tail _ hp))) (ne_of_AllLt l7.2)
end
end

section
open PySem.Calls
set_option maxRecDepth 100000
noncomputable def strE (k : Str) : Value → Bool
  | .str x _ => x.cps.toList == k.cps.toList
  | _ => false
noncomputable def strsL : List Value → Bool
  | [] => true
  | .str _ _ :: r => strsL r
  | _ :: _ => false
noncomputable def strAt (k : Str) : List Value → Option Nat
  | [] => none
  | x :: r => cond (strE k x) (some 0) (match strAt k r with
    | some j => some (j + 1)
    | none => none)
theorem strsL_eq {k : Str} {t : Tok} : ∀ {l : List Value}, strsL l = true → ∀ y, y ∈ l → MeetsSeq.EqGives y (.str k t) (strE k y)
  | [], _, _, hy => nomatch hy
  | x :: r, h, y, hy => by
    cases x with
    | str a u =>
      rcases List.mem_cons.mp hy with rfl | hy
      · exact SeqRoads2.EqGives.str a k u t
      · exact strsL_eq (l := r) h y hy
    | _ => cases h
theorem strAt_spec {k : Str} : ∀ {l : List Value} {j : Nat}, strAt k l = some j → ∃ hj : j < l.length, strE k l[j] = true ∧ ∀ i (hi : i < l.length), i < j → strE k l[i] = false
  | [], _, h => by cases h
  | x :: r, j, h => by
    unfold strAt at h
    cases hx : strE k x with
    | true =>
      rw [hx] at h
      cases h
      exact ⟨Nat.zero_lt_succ _, hx, fun i _ hlt => absurd hlt (Nat.not_lt_zero _)⟩
    | false =>
      rw [hx] at h
      cases e : strAt k r with
      | none => rw [e] at h; cases h
      | some z =>
        rw [e] at h
        cases h
        obtain ⟨a, b, c⟩ := strAt_spec e
        refine ⟨Nat.succ_lt_succ a, b, fun i hi hlt => ?_⟩
        cases i with
        | zero => exact hx
        | succ i => exact c i (Nat.lt_of_succ_lt_succ hi) (Nat.lt_of_succ_lt_succ hlt)
theorem strs_index {prog : Program} {w : World} {A : Around} {E : Value → Shared → Prop} {s : Shared} {h₀ : Heap} {L D : Addr} {news : List (Addr × Obj)} {its : Array Value} {n : Nat} {k : Str} {t : Tok} {i : Int} {j : Nat} {Q : Value → Shared → Prop} (N : News h₀ L s.heap news) (hm : (D, listOf its n) ∈ news) (hi : strsL its.toList = true) (e : strAt k its.toList = some j) (ei : (j : Int) = i) (hz : j ≤ 1000)
    (h : Q (.int i s.toks) { s with toks := s.toks + 1 }) : wpAny (model prog w) A (call (.builtin "list.index") [.ref D, .str k t]) Q E s := by
  obtain ⟨a, b, c⟩ := strAt_spec e
  have hs : its.toList.length = its.size := Array.length_toList
  subst ei
  refine call_meets PySem.F.slot_list_index ⟨_, (N _ hm).1, rfl⟩ PySem.F.entry_list_index (PySem.F.args_list_index_2 _ _)
    (MeetsSeq.list_index D its n (.str k t) (strE k) (fun y hy => strsL_eq hi y (by simpa using hy)) j (by omega) (by omega) (by simpa using b) (fun i hi hlt => (c i (by omega) hlt : strE k its.toList[i] = false))) ⟨(N _ hm).1, h⟩
end

section
open PySem.Calls
set_option maxRecDepth 100000
/-! the plain law -/
noncomputable def prodN (ah : List (List Node)) (os : List Node) : List (List Node) := ah.flatMap fun a => os.map fun o => a ++ [o]
/-- the rows that cover, as nodes -/
noncomputable def covN (T : K3 → Option (List Node)) (word : List Int) : List Int → Int → Int → List (List Node)
  | [], b, e => if b = e then [[]] else []
  | sy :: rest, b, e => (List.range (e + 1 - b).toNat).flatMap fun (i : Nat) => prodN (covN T word rest b (b + i)) (optN T word sy (b + i) e)
theorem covS_eq (T : K3 → Option (List Node)) (word : List Int) : ∀ rev b e, covS T word rev b e = (covN T word rev b e).map (·.map lab)
  | [], b, e => by rw [covS, covN]; split <;> rfl
  | sy :: rest, b, e => by
    rw [covS, covN]
    have key : ∀ (is : List Nat) (l : List (List Str)), is.foldl (covF (fun k => optS T word sy k e) (fun k => covS T word rest b k) b) l = l ++ (is.flatMap fun (i : Nat) => prodN (covN T word rest b (b + i)) (optN T word sy (b + i) e)).map (·.map lab) := by
      intro is
      induction is with
      | nil => intro l; simp
      | cons i r ih =>
        intro l
        rw [List.foldl_cons, ih, covF, covS_eq T word rest, optS]
        simp [prodN, List.flatMap_cons, List.map_append, List.map_flatMap, List.flatMap_map, Function.comp_def]
    rw [key]; simp
theorem pushCap_take (full : List (List Node)) (r : List Node) (m : Nat) : pushCap (m : Int) (full.take m) r = (full ++ [r]).take m := by
  unfold pushCap
  split
  · rename_i h
    rw [List.length_take] at h
    have : full.length < m := by omega
    rw [List.take_of_length_le (l := full) (by omega), List.take_of_length_le (by simp; omega)]
  · rename_i h
    rw [List.length_take] at h
    have : m ≤ full.length := by omega
    rw [List.take_append_of_le_length this]
theorem pushes_take (a : List Node) (m : Nat) : ∀ (os : List Node) (full : List (List Node)), os.foldl (fun rows o => pushCap (m : Int) rows (a ++ [o])) (full.take m) = (full ++ os.map fun o => a ++ [o]).take m
  | [], full => by simp
  | o :: r, full => by rw [List.foldl_cons, pushCap_take, pushes_take a m r]; simp
theorem rRow_take (os : List Node) (m : Nat) : ∀ (ah full : List (List Node)), rRow (m : Int) ah os (full.take m) = (full ++ prodN ah os).take m
  | [], full => by simp [rRow, prodN]
  | a :: r, full => by
    have := rRow_take os m r (full ++ os.map fun o => a ++ [o])
    unfold rRow at this ⊢
    rw [List.foldl_cons, pushes_take, this]
    simp [prodN]
theorem prodN_length (ah : List (List Node)) (os : List Node) : (prodN ah os).length = ah.length * os.length := by
  induction ah with
  | nil => simp [prodN]
  | cons a r ih =>
    unfold prodN at ih ⊢
    rw [List.flatMap_cons, List.length_append, ih, List.length_map, List.length_cons, Nat.succ_mul]; omega
theorem prod_cap (full ah : List (List Node)) (os : List Node) (m : Nat) : (full ++ prodN (ah.take m) os).take m = (full ++ prodN ah os).take m := by
  cases os with
  | nil => simp [prodN, List.flatMap_eq_nil_iff.mpr]
  | cons o r =>
    by_cases h : ah.length ≤ m
    · rw [List.take_of_length_le h]
    · have e : prodN ah (o :: r) = prodN (ah.take m) (o :: r) ++ prodN (ah.drop m) (o :: r) := by
        unfold prodN
        rw [← List.flatMap_append, List.take_append_drop]
      have hl : m ≤ (prodN (ah.take m) (o :: r)).length := by
        rw [prodN_length, List.length_take, List.length_cons, Nat.mul_succ]
        have : min m ah.length = m := by omega
        rw [this]; omega
      rw [e, ← List.append_assoc, List.take_append_of_le_length (l₁ := full ++ prodN (ah.take m) (o :: r)) (by rw [List.length_append]; omega)]

noncomputable def Hold (m : Nat) (later : List (Int × List (List Node))) (full : Int → List (List Node)) : Prop := ∀ g, (gG later g).getD [] = (full g).take m
noncomputable def atG (ah : List (List Node)) (ps : List (Int × List Node)) (g : Int) : List (List Node) := (ps.filter fun p => decide (p.1 = g)).flatMap fun p => prodN ah p.2
theorem atG_append (ah : List (List Node)) (ps qs : List (Int × List Node)) (g : Int) : atG ah (ps ++ qs) g = atG ah ps g ++ atG ah qs g := by simp [atG]
theorem rEnd_hold {m : Nat} {later : List (Int × List (List Node))} {full : Int → List (List Node)} (ah : List (List Node)) (p : Int × List Node) (h : Hold m later full) : Hold m (rEnd (m : Int) (ah.take m) later p) fun g => full g ++ atG ah [p] g := by
  intro g
  rw [rEnd, gG_stG]
  by_cases hg : g = p.1
  · subst hg
    rw [if_pos rfl, h p.1, rRow_take]
    dsimp only [Option.getD]
    rw [prod_cap]
    simp [atG]
  · rw [if_neg hg, h g]
    have : ¬ p.1 = g := fun e => hg e.symm
    simp [atG, this]
theorem rEnds_hold {m : Nat} (ah : List (List Node)) : ∀ (ps : List (Int × List Node)) {later : List (Int × List (List Node))} {full : Int → List (List Node)}, Hold m later full → Hold m (ps.foldl (rEnd (m : Int) (ah.take m)) later) fun g => full g ++ atG ah ps g
  | [], _, _, h => by simpa [atG] using h
  | p :: r, later, full, h => by
    have := rEnds_hold ah r (rEnd_hold ah p h)
    intro g
    rw [List.foldl_cons, this g]
    dsimp only
    rw [List.append_assoc, ← atG_append]
    rfl
noncomputable def opE (T : K3 → Option (List Node)) (sym spot : Int) (i : Nat) : List (Int × List Node) := ((T (sym, spot, spot + i)).map fun ns => (spot + (i : Int), ns)).toList
theorem rEnds_eq (T : K3 → Option (List Node)) (word : List Int) (e sym spot : Int) : rEnds T word e sym spot = rLeaf word e sym spot ++ (List.range (e + 1 - spot).toNat).flatMap (opE T sym spot) := by
  have key : ∀ (is : List Nat) (l : List (Int × List Node)), is.foldl (fun l (i : Nat) => match T (sym, spot, spot + i) with | some ns => l ++ [(spot + i, ns)] | none => l) l = l ++ is.flatMap (opE T sym spot) := by
    intro is
    induction is with
    | nil => intro l; simp
    | cons i r ih =>
      intro l
      rw [List.foldl_cons, ih, List.flatMap_cons, ← List.append_assoc]
      congr 1
      unfold opE
      cases T (sym, spot, spot + (i : Int)) <;> simp
  exact key _ _
theorem atG_range (ah : List (List Node)) (T : K3 → Option (List Node)) (sym spot g : Int) : ∀ n : Nat, atG ah ((List.range n).flatMap (opE T sym spot)) g = if spot ≤ g ∧ g < spot + n then prodN ah ((T (sym, spot, g)).getD []) else []
  | 0 => by rw [if_neg (by omega)]; simp [atG]
  | n + 1 => by
    rw [List.range_succ, List.flatMap_append, atG_append, atG_range ah T sym spot g n, List.flatMap_cons, List.flatMap_nil, List.append_nil]
    by_cases hg : g = spot + n
    · subst hg
      rw [if_neg (by omega), if_pos (by omega), List.nil_append]
      unfold opE
      cases T (sym, spot, spot + (n : Int)) with
      | none => simp [atG, prodN]
      | some ns => simp [atG]
    · have h1 : atG ah (opE T sym spot n) g = [] := by
        have : ¬ spot + (n : Int) = g := fun e => hg e.symm
        unfold opE
        cases T (sym, spot, spot + (n : Int)) with
        | none => simp [atG]
        | some ns => simp [atG, this]
      rw [h1, List.append_nil]
      by_cases hc : spot ≤ g ∧ g < spot + n
      · rw [if_pos hc, if_pos (by omega)]
      · rw [if_neg hc, if_neg (by omega)]
section
variable {T : K3 → Option (List Node)} {word : List Int}
theorem ends_opt (hT : ∀ k, k.1 < 5 → T k = none) (hw : ∀ i, word.getD i 0 < 5) (ah : List (List Node)) (e sym spot g : Int) : atG ah (rEnds T word e sym spot) g = if spot ≤ g ∧ g ≤ e then prodN ah (optN T word sym spot g) else [] := by
  rw [rEnds_eq, atG_append, atG_range]
  have hlt : (spot ≤ g ∧ g < spot + ((e + 1 - spot).toNat : Int)) ↔ (spot ≤ g ∧ g ≤ e) := by omega
  simp only [hlt]
  unfold optN rLeaf
  by_cases h5 : sym < 5
  · rw [hT _ h5, if_pos h5]
    have h2 : prodN ah ((none : Option (List Node)).getD []) = [] := by simp [prodN]
    rw [h2, ite_self, List.append_nil]
    by_cases hl : spot < e ∧ word.getD spot.toNat 0 = sym
    · rw [if_pos hl]
      by_cases hg : g = spot + 1
      · subst hg
        rw [if_pos (by omega), if_pos ⟨rfl, hl.2⟩]; simp [atG]
      · have : ¬ spot + 1 = g := fun e => hg e.symm
        rw [if_neg (c := g = spot + 1 ∧ word.getD spot.toNat 0 = sym) (fun h => hg h.1)]; simp [atG, this, prodN]
    · rw [if_neg hl]
      by_cases hc : spot ≤ g ∧ g ≤ e
      · rw [if_pos hc, if_neg (fun h => hl ⟨by omega, h.2⟩)]; simp [atG, prodN]
      · rw [if_neg hc]; simp [atG]
  · rw [if_neg h5, if_neg (fun h => by have := hw spot.toNat; omega)]
    simp [atG]
theorem rSpot_hold (hT : ∀ k, k.1 < 5 → T k = none) (hw : ∀ i, word.getD i 0 < 5) {m : Nat} {later reach : List (Int × List (List Node))} {full : Int → List (List Node)} {e sym spot : Int} {ah : List (List Node)} (hr : (gG reach spot).getD [] = ah.take m) (h : Hold m later full) :
    Hold m (rSpot T word e m sym reach later spot) fun g => full g ++ if spot ≤ g ∧ g ≤ e then prodN ah (optN T word sym spot g) else [] := by
  rw [rSpot, hr]
  have := rEnds_hold ah (rEnds T word e sym spot) h
  intro g
  rw [this g]
  dsimp only
  rw [ends_opt hT hw]
theorem rSpots_hold (hT : ∀ k, k.1 < 5 → T k = none) (hw : ∀ i, word.getD i 0 < 5) {m : Nat} {reach : List (Int × List (List Node))} {e sym : Int} {A : Int → List (List Node)} : ∀ (S : List Int) {later : List (Int × List (List Node))} {full : Int → List (List Node)}, (∀ s ∈ S, (gG reach s).getD [] = (A s).take m) → Hold m later full →
    Hold m (S.foldl (rSpot T word e m sym reach) later) fun g => full g ++ S.flatMap fun s => if s ≤ g ∧ g ≤ e then prodN (A s) (optN T word sym s g) else []
  | [], _, _, _, h => by simpa using h
  | s :: r, later, full, hr, h => by
    have := rSpots_hold (e := e) (sym := sym) hT hw r (fun x hx => hr x (.tail _ hx)) (rSpot_hold (e := e) (sym := sym) hT hw (hr s (.head _)) h)
    intro g
    rw [List.foldl_cons, this g]
    dsimp only
    rw [List.flatMap_cons, List.append_assoc]
theorem rEnd_keys {m : Int} {ah : List (List Node)} {b e : Int} : ∀ (ps : List (Int × List Node)) {later : List (Int × List (List Node))}, (∀ p ∈ ps, b ≤ p.1 ∧ p.1 ≤ e) → (later.map (·.1)).Nodup ∧ (∀ p ∈ later, b ≤ p.1 ∧ p.1 ≤ e) → ((ps.foldl (rEnd m ah) later).map (·.1)).Nodup ∧ ∀ p ∈ ps.foldl (rEnd m ah) later, b ≤ p.1 ∧ p.1 ≤ e
  | [], _, _, h => h
  | q :: r, later, hp, h => by
    rw [List.foldl_cons]
    refine rEnd_keys r (fun x hx => hp x (.tail _ hx)) ⟨stG_keys _ _ _ h.1, fun p hp' => ?_⟩
    rcases mem_stG hp' with rfl | h'
    · exact hp q (.head _)
    · exact h.2 p h'
theorem rSpots_keys {m : Int} {reach : List (Int × List (List Node))} {b e sym : Int} : ∀ (S : List Int) {later : List (Int × List (List Node))}, (∀ s ∈ S, b ≤ s ∧ s ≤ e) → (later.map (·.1)).Nodup ∧ (∀ p ∈ later, b ≤ p.1 ∧ p.1 ≤ e) → ((S.foldl (rSpot T word e m sym reach) later).map (·.1)).Nodup ∧ ∀ p ∈ S.foldl (rSpot T word e m sym reach) later, b ≤ p.1 ∧ p.1 ≤ e
  | [], _, _, h => h
  | s :: r, later, hs, h => by
    rw [List.foldl_cons]
    refine rSpots_keys r (fun x hx => hs x (.tail _ hx)) (rEnd_keys _ (fun p hp => ?_) h)
    have h1 := hs s (.head _)
    have := rEnds_keys h1.2 p hp
    omega
theorem flat_filter {α β : Type} {f : α → List β} {p : α → Bool} : ∀ {l : List α}, (∀ x ∈ l, ¬ p x = true → f x = []) → (l.filter p).flatMap f = l.flatMap f
  | [], _ => rfl
  | a :: r, h => by
    have ih := flat_filter (f := f) (p := p) (l := r) fun x hx => h x (.tail _ hx)
    by_cases ha : p a = true
    · rw [List.filter_cons_of_pos ha, List.flatMap_cons, List.flatMap_cons, ih]
    · rw [List.filter_cons_of_neg ha, List.flatMap_cons, ih, h a (.head _) ha, List.nil_append]
theorem srt_range {l : List Int} {b : Int} {n : Nat} (hn : l.Nodup) (hr : ∀ x ∈ l, b ≤ x ∧ x < b + n) : srt l = ((List.range n).map fun (i : Nat) => b + (i : Int)).filter fun x => decide (x ∈ l) := by
  have hs : ((List.range n).map fun (i : Nat) => b + (i : Int)).Pairwise (· < ·) := by
    rw [List.pairwise_map]
    exact List.pairwise_lt_range.imp fun h => by omega
  refine (srt_is ?_ ((hs.imp fun h => by omega).filter _)).symm
  refine (List.perm_ext_iff_of_nodup ?_ hn).mpr fun x => ?_
  · exact (hs.imp fun h => by omega).filter _
  · rw [List.mem_filter, decide_eq_true_iff]
    refine ⟨fun h => h.2, fun h => ⟨?_, h⟩⟩
    have := hr x h
    exact List.mem_map.mpr ⟨(x - b).toNat, List.mem_range.mpr (by omega), by omega⟩
theorem flat_sorted {β : Type} {f : Int → List β} {l : List Int} {b : Int} {n : Nat} (hn : l.Nodup) (hr : ∀ x ∈ l, b ≤ x ∧ x < b + n) (h0 : ∀ x, b ≤ x → x < b + n → x ∉ l → f x = []) : (srt l).flatMap f = (List.range n).flatMap fun (i : Nat) => f (b + i) := by
  rw [srt_range hn hr, flat_filter, List.flatMap_map]
  intro x hx hp
  obtain ⟨i, hi, rfl⟩ := List.mem_map.mp hx
  rw [List.mem_range] at hi
  exact h0 _ (by omega) (by omega) (by simpa using hp)
theorem flat_cut {β : Type} (f : Nat → List β) (k : Nat) : ∀ n : Nat, k ≤ n → ((List.range n).flatMap fun i => if i < k then f i else []) = (List.range k).flatMap f
  | 0, h => by have : k = 0 := by omega
               subst this; rfl
  | n + 1, h => by
    by_cases hk : k = n + 1
    · subst hk
      refine congrArg List.flatten (List.map_congr_left fun i hi => ?_)
      rw [List.mem_range] at hi
      exact if_pos hi
    · rw [List.range_succ, List.flatMap_append, flat_cut f k n (by omega), List.flatMap_cons, List.flatMap_nil, if_neg (by omega)]
      simp
/-- the rows of one symbol more -/
theorem cov_step {rev : List Int} {b e sym g : Int} {S : List Int} (hn : S.Nodup) (hr : ∀ x ∈ S, b ≤ x ∧ x ≤ e) (h0 : ∀ x, b ≤ x → x ≤ e → x ∉ S → covN T word rev b x = []) (hb : b ≤ g) (hg : g ≤ e) :
    ((srt S).flatMap fun s => if s ≤ g ∧ g ≤ e then prodN (covN T word rev b s) (optN T word sym s g) else []) = covN T word (sym :: rev) b g := by
  rw [flat_sorted (b := b) (n := (e + 1 - b).toNat) hn (fun x hx => by have := hr x hx; omega) (fun x h1 h2 h3 => ?_), covN, ← flat_cut _ _ _ (show (g + 1 - b).toNat ≤ (e + 1 - b).toNat by omega)]
  · refine congrArg List.flatten (List.map_congr_left fun i hi => ?_)
    rw [List.mem_range] at hi
    by_cases hc : i < (g + 1 - b).toNat
    · rw [if_pos hc, if_pos (by omega)]
    · rw [if_neg hc, if_neg (by omega)]
  · rw [h0 x h1 (by omega) h3]; simp [prodN]
structure RInv (T : K3 → Option (List Node)) (word : List Int) (b e : Int) (m : Nat) (reach : List (Int × List (List Node))) (rev : List Int) : Prop where
  nodup : (reach.map (·.1)).Nodup
  rng : ∀ p ∈ reach, b ≤ p.1 ∧ p.1 ≤ e
  val : ∀ g, b ≤ g → g ≤ e → (gG reach g).getD [] = (covN T word rev b g).take m
theorem gG_none {α : Type} {l : List (Int × α)} {k : Int} (h : k ∉ l.map (·.1)) : gG l k = none := by
  unfold gG
  rw [List.find?_eq_none.mpr, Option.map_none]
  intro p hp e
  exact h (List.mem_map.mpr ⟨p, hp, of_decide_eq_true e⟩)
theorem rStep_inv (hT : ∀ k, k.1 < 5 → T k = none) (hw : ∀ i, word.getD i 0 < 5) {b e : Int} {m : Nat} {reach : List (Int × List (List Node))} {rev : List Int} (hm : 0 < m) (h : RInv T word b e m reach rev) (sym : Int) : RInv T word b e m (rStep T word e m reach sym) (sym :: rev) := by
  obtain ⟨h1, h2, h3⟩ := h
  have hk : ∀ s ∈ srt (reach.map (·.1)), b ≤ s ∧ s ≤ e := fun s hs => by
    have hs := (List.mergeSort_perm _ _).mem_iff.mp hs
    obtain ⟨p, hp, rfl⟩ := List.mem_map.mp hs
    exact h2 p hp
  have keys := rSpots_keys (T := T) (word := word) (m := m) (reach := reach) (sym := sym) (srt (reach.map (·.1))) (later := []) hk ⟨List.nodup_nil, fun _ h => nomatch h⟩
  refine ⟨keys.1, keys.2, fun g hb hg => ?_⟩
  have := rSpots_hold (e := e) (sym := sym) hT hw (A := fun s => covN T word rev b s) (srt (reach.map (·.1))) (later := []) (full := fun _ => []) (m := m) (reach := reach) (fun s hs => h3 s (hk s hs).1 (hk s hs).2) (fun g => by simp [gG])
  rw [rStep, this g]
  dsimp only
  rw [List.nil_append, cov_step h1 (fun x hx => ?_) (fun x hx1 hx2 hx3 => ?_) hb hg]
  · obtain ⟨p, hp, rfl⟩ := List.mem_map.mp hx
    exact h2 p hp
  · have h4 := h3 x hx1 hx2
    rw [gG_none hx3] at h4
    cases hc : covN T word rev b x with
    | nil => rfl
    | cons a r =>
      rw [hc] at h4
      obtain ⟨m', rfl⟩ : ∃ m', m = m' + 1 := ⟨m - 1, by omega⟩
      simp at h4
theorem rows_fold (hT : ∀ k, k.1 < 5 → T k = none) (hw : ∀ i, word.getD i 0 < 5) {b e : Int} {m : Nat} (hm : 0 < m) : ∀ (right : List Int) {reach : List (Int × List (List Node))} {rev : List Int}, RInv T word b e m reach rev → RInv T word b e m (right.foldl (rStep T word e m) reach) (right.reverse ++ rev)
  | [], _, _, h => h
  | s :: r, _, _, h => by
    rw [List.foldl_cons, List.reverse_cons, List.append_assoc]
    exact rows_fold hT hw hm r (rStep_inv hT hw hm h s)
theorem rows_eq (hT : ∀ k, k.1 < 5 → T k = none) (hw : ∀ i, word.getD i 0 < 5) {b e : Int} {m : Nat} (hm : 0 < m) (hbe : b ≤ e) (right : List Int) : rowsP T word b e m right = (covN T word right.reverse b e).take m := by
  have h0 : RInv T word b e m [(b, [[]])] [] := by
    refine ⟨by simp, fun p hp => ?_, fun g hb hg => ?_⟩
    · rw [List.mem_singleton.mp hp]; exact ⟨Int.le_refl _, hbe⟩
    · rw [covN]
      by_cases hc : b = g
      · subst hc
        obtain ⟨m', rfl⟩ : ∃ m', m = m' + 1 := ⟨m - 1, by omega⟩
        simp [gG]
      · rw [if_neg hc]; simp [gG, hc]
  have := (rows_fold hT hw hm right h0).val e hbe (Int.le_refl _)
  rw [rowsP, this, List.append_nil]
theorem rows_law (hT : ∀ k, k.1 < 5 → T k = none) (hw : ∀ i, word.getD i 0 < 5) {b e : Int} {m : Nat} (hm : 0 < m) (hbe : b ≤ e) (right : List Int) : (rowsP T word b e m right).map (·.map lab) = (covS T word right.reverse b e).take m := by
  rw [rows_eq hT hw hm hbe, covS_eq, List.map_take]

/-! the ways -/
noncomputable def HoldW (later : List (Int × Int)) (w : Int → Int) : Prop := ∀ g, (gG later g).getD 0 = w g
theorem wGoals_hold {C : K3 → Int} (hC : ∀ k, 0 ≤ C k) {sym spot val : Int} : ∀ (n : Nat) {later : List (Int × Int)} {w : Int → Int}, HoldW later w → HoldW ((List.range n).foldl (fun l (i : Nat) => wGoal C sym spot val l (spot + i)) later) fun g => w g + if spot ≤ g ∧ g < spot + n then val * C (sym, spot, g) else 0
  | 0, _, _, h => by
    intro g
    dsimp only
    rw [if_neg (by omega), Int.add_zero]
    exact h g
  | n + 1, later, w, h => by
    have ih := wGoals_hold hC (sym := sym) (spot := spot) (val := val) n h
    intro g
    dsimp only
    rw [List.range_succ, List.foldl_append, List.foldl_cons, List.foldl_nil, wGoal]
    by_cases hc : C (sym, spot, spot + (n : Int)) > 0
    · rw [if_pos hc, gG_stG]
      by_cases hg : g = spot + n
      · subst hg
        rw [if_pos rfl, Option.getD_some, ih]; dsimp only; rw [if_neg (by omega), if_pos (by omega)]; omega
      · rw [if_neg hg, ih g]; dsimp only
        by_cases hr : spot ≤ g ∧ g < spot + n
        · rw [if_pos hr, if_pos (by omega)]
        · rw [if_neg hr, if_neg (by omega)]
    · rw [if_neg hc, ih g]; dsimp only
      by_cases hg : g = spot + n
      · subst hg
        have : C (sym, spot, spot + (n : Int)) = 0 := by have := hC (sym, spot, spot + (n : Int)); omega
        rw [if_neg (by omega), if_pos (by omega), this, Int.mul_zero]
      · by_cases hr : spot ≤ g ∧ g < spot + n
        · rw [if_pos hr, if_pos (by omega)]
        · rw [if_neg hr, if_neg (by omega)]
theorem wLeaf_hold {e sym : Int} {later : List (Int × Int)} {w : Int → Int} (p : Int × Int) (h : HoldW later w) : HoldW (wLeaf word e sym later p) fun g => w g + if g = p.1 + 1 ∧ p.1 < e ∧ word.getD p.1.toNat 0 = sym then p.2 else 0 := by
  intro g
  dsimp only
  rw [wLeaf]
  by_cases hc : p.1 < e ∧ word.getD p.1.toNat 0 = sym
  · rw [if_pos hc, gG_stG]
    by_cases hg : g = p.1 + 1
    · subst hg
      rw [if_pos rfl, Option.getD_some, h, if_pos ⟨rfl, hc⟩]
    · rw [if_neg hg, if_neg (fun h => hg h.1), h g, Int.add_zero]
  · rw [if_neg hc, if_neg (fun h => hc h.2), h g, Int.add_zero]
theorem wSpot_hold (hT : ∀ k, k.1 < 5 → T k = none) (hw : ∀ i, word.getD i 0 < 5) {C : K3 → Int} (hC : ∀ k, C k = ((T k).getD []).length) {e sym : Int} {later : List (Int × Int)} {w : Int → Int} (p : Int × Int) {ah : List (List Node)} (hp : p.2 = ah.length) (h : HoldW later w) :
    HoldW (wSpot C word e sym later p) fun g => w g + ((if p.1 ≤ g ∧ g ≤ e then prodN ah (optN T word sym p.1 g) else []).length : Nat) := by
  have := wGoals_hold (C := C) (fun k => by rw [hC]; omega) (sym := sym) (spot := p.1) (val := p.2) (e + 1 - p.1).toNat (wLeaf_hold (word := word) (e := e) (sym := sym) p h)
  intro g
  rw [wSpot, this g]
  dsimp only
  have hlt : (p.1 ≤ g ∧ g < p.1 + ((e + 1 - p.1).toNat : Int)) ↔ (p.1 ≤ g ∧ g ≤ e) := by omega
  simp only [hlt]
  by_cases hc : p.1 ≤ g ∧ g ≤ e
  · rw [if_pos hc, if_pos hc, prodN_length, hC]
    unfold optN
    by_cases h5 : sym < 5
    · rw [hT _ h5, if_pos h5]
      by_cases hl : g = p.1 + 1 ∧ word.getD p.1.toNat 0 = sym
      · rw [if_pos ⟨hl.1, by omega, hl.2⟩, if_pos hl, hp]; simp
      · rw [if_neg (fun h => hl ⟨h.1, h.2.2⟩), if_neg hl]; simp
    · rw [if_neg h5, if_neg (fun h => by have := hw p.1.toNat; omega), hp]
      rw [Int.natCast_mul]; omega
  · rw [if_neg hc, if_neg hc, if_neg (by omega)]; simp
theorem wSpots_hold (hT : ∀ k, k.1 < 5 → T k = none) (hw : ∀ i, word.getD i 0 < 5) {C : K3 → Int} (hC : ∀ k, C k = ((T k).getD []).length) {e sym : Int} {A : Int → List (List Node)} : ∀ (ps : List (Int × Int)) {later : List (Int × Int)} {w : Int → Int}, (∀ p ∈ ps, p.2 = ((A p.1).length : Nat)) → HoldW later w →
    HoldW (ps.foldl (wSpot C word e sym) later) fun g => w g + (((ps.map (·.1)).flatMap fun s => if s ≤ g ∧ g ≤ e then prodN (A s) (optN T word sym s g) else []).length : Nat)
  | [], _, _, _, h => by simpa using h
  | p :: r, later, w, hr, h => by
    have := wSpots_hold (e := e) (sym := sym) hT hw hC r (fun x hx => hr x (.tail _ hx)) (wSpot_hold (e := e) (sym := sym) hT hw hC p (hr p (.head _)) h)
    intro g
    rw [List.foldl_cons, this g]
    dsimp only
    rw [List.map_cons, List.flatMap_cons, List.length_append]
    omega
theorem wGoals_keys {C : K3 → Int} {sym spot val b e : Int} (h0 : b ≤ spot) : ∀ (n : Nat) {later : List (Int × Int)}, spot + n ≤ e + 1 → (later.map (·.1)).Nodup ∧ (∀ p ∈ later, b ≤ p.1 ∧ p.1 ≤ e) → (((List.range n).foldl (fun l (i : Nat) => wGoal C sym spot val l (spot + i)) later).map (·.1)).Nodup ∧ ∀ p ∈ (List.range n).foldl (fun l (i : Nat) => wGoal C sym spot val l (spot + i)) later, b ≤ p.1 ∧ p.1 ≤ e
  | 0, _, _, h => h
  | n + 1, later, hn, h => by
    have ih := wGoals_keys (C := C) (sym := sym) (val := val) h0 n (by omega) h
    rw [List.range_succ, List.foldl_append, List.foldl_cons, List.foldl_nil, wGoal]
    split
    · refine ⟨stG_keys _ _ _ ih.1, fun p hp => ?_⟩
      rcases mem_stG hp with rfl | hp
      · dsimp only; omega
      · exact ih.2 p hp
    · exact ih
theorem wSpots_keys {C : K3 → Int} {b e sym : Int} : ∀ (ps : List (Int × Int)) {later : List (Int × Int)}, (∀ p ∈ ps, b ≤ p.1 ∧ p.1 ≤ e) → (later.map (·.1)).Nodup ∧ (∀ p ∈ later, b ≤ p.1 ∧ p.1 ≤ e) → ((ps.foldl (wSpot C word e sym) later).map (·.1)).Nodup ∧ ∀ p ∈ ps.foldl (wSpot C word e sym) later, b ≤ p.1 ∧ p.1 ≤ e
  | [], _, _, h => h
  | p :: r, later, hp, h => by
    rw [List.foldl_cons]
    have h1 := hp p (.head _)
    refine wSpots_keys r (fun x hx => hp x (.tail _ hx)) ?_
    unfold wSpot
    refine wGoals_keys h1.1 _ (by omega) ?_
    unfold wLeaf
    split
    · refine ⟨stG_keys _ _ _ h.1, fun q hq => ?_⟩
      rcases mem_stG hq with rfl | hq
      · dsimp only; omega
      · exact h.2 q hq
    · exact h
structure WInv (T : K3 → Option (List Node)) (word : List Int) (b e : Int) (reach : List (Int × Int)) (rev : List Int) : Prop where
  nodup : (reach.map (·.1)).Nodup
  rng : ∀ p ∈ reach, b ≤ p.1 ∧ p.1 ≤ e
  val : ∀ g, b ≤ g → g ≤ e → (gG reach g).getD 0 = ((covN T word rev b g).length : Nat)
theorem wStep_inv (hT : ∀ k, k.1 < 5 → T k = none) (hw : ∀ i, word.getD i 0 < 5) {C : K3 → Int} (hC : ∀ k, C k = ((T k).getD []).length) {b e : Int} {reach : List (Int × Int)} {rev : List Int} (h : WInv T word b e reach rev) (sym : Int) : WInv T word b e (wStep C word e reach sym) (sym :: rev) := by
  obtain ⟨h1, h2, h3⟩ := h
  have keys := wSpots_keys (word := word) (C := C) (sym := sym) reach (later := []) h2 ⟨List.nodup_nil, fun _ h => nomatch h⟩
  refine ⟨keys.1, keys.2, fun g hb hg => ?_⟩
  have := wSpots_hold (e := e) (sym := sym) hT hw hC (A := fun s => covN T word rev b s) reach (later := []) (w := fun _ => 0) (fun p hp => by
    obtain ⟨i, hi⟩ := List.mem_iff_getElem?.mp hp
    rw [← h3 p.1 (h2 p hp).1 (h2 p hp).2, gG_of_get h1 hi, Option.getD_some]) (fun g => by simp [gG])
  rw [wStep, this g]
  dsimp only
  rw [Int.zero_add, ← cov_step (sym := sym) h1 (fun x hx => ?_) (fun x hx1 hx2 hx3 => ?_) hb hg]
  · exact congrArg _ (((List.mergeSort_perm _ _).symm.flatMap_right _).length_eq)
  · obtain ⟨p, hp, rfl⟩ := List.mem_map.mp hx
    exact h2 p hp
  · have h4 := h3 x hx1 hx2
    rw [gG_none hx3] at h4
    exact List.eq_nil_of_length_eq_zero (by simpa using h4.symm)
theorem ways_fold (hT : ∀ k, k.1 < 5 → T k = none) (hw : ∀ i, word.getD i 0 < 5) {C : K3 → Int} (hC : ∀ k, C k = ((T k).getD []).length) {b e : Int} : ∀ (right : List Int) {reach : List (Int × Int)} {rev : List Int}, WInv T word b e reach rev → WInv T word b e (right.foldl (wStep C word e) reach) (right.reverse ++ rev)
  | [], _, _, h => h
  | s :: r, _, _, h => by
    rw [List.foldl_cons, List.reverse_cons, List.append_assoc]
    exact ways_fold hT hw hC r (wStep_inv hT hw hC h s)
theorem ways_law (hT : ∀ k, k.1 < 5 → T k = none) (hw : ∀ i, word.getD i 0 < 5) {C : K3 → Int} (hC : ∀ k, C k = ((T k).getD []).length) {b e : Int} (hbe : b ≤ e) (right : List Int) : waysP C word b e right = ((covS T word right.reverse b e).length : Nat) := by
  have h0 : WInv T word b e [(b, 1)] [] := by
    refine ⟨by simp, fun p hp => ?_, fun g hb hg => ?_⟩
    · rw [List.mem_singleton.mp hp]; exact ⟨Int.le_refl _, hbe⟩
    · rw [covN]
      by_cases hc : b = g
      · subst hc
        simp [gG]
      · rw [if_neg hc]; simp [gG, hc]
  have := (ways_fold hT hw hC right h0).val e hbe (Int.le_refl _)
  rw [waysP, this, List.append_nil, covS_eq, List.length_map]
end
end

section
open PySem.Calls
set_option maxRecDepth 100000
section

set_option maxHeartbeats 4000000 in
theorem rule_spec : ∀ {w : World} {A : Around} {s : Shared} {h₀ : Heap} {L : Addr} {m mg mb : Str → Option Value} {mean : ExcName → Option Value} {tl : List (Addr × Obj)} {nu le lv : Int} {tn te tv : Tok} {r : Addr} {Q E : Value → Shared → Prop}
    (_ : Room A 2) (_ : Fr h₀ L s.heap m) (_ : (hd.heap_1 w.params).In h₀) (_ : Top vw lse mean mg mb h₀) (_ : News h₀ L s.heap tl)
    (_ : ∀ y c es n h' t', Fr h₀ L h' m → News h₀ L h' ((y, instObj 238 c) :: (c, dictOf es n) :: tl) → (∀ p ∈ tl, p.1 < c) → c < y → getL (Str.ofString "number") es = some (some (.int nu tn)) → getL (Str.ofString "left") es = some (some (.int le te)) → getL (Str.ofString "right") es = some (some (.ref r)) → Q (.ref y) { s with heap := h', toks := t' }),
    wpAny (model Challenge.rw_on0168_01.row.prog w) A (call (.ref 238) [.int nu tn, .int le te, .ref r, .int lv tv]) Q E s := by
  try row_walk
  k_fill
  intro w A s h₀ L m mg mb mean tl nu le lv tn te tv r Q E R F X T N ret
  obtain ⟨hh, dp, frs, gd, un⟩ := A
  obtain ⟨R1, R2, R3⟩ := R
  dsimp only at R1 R2 R3
  subst R1
  refine call_cls F X N (by k_is) (by k_is) (by k_is) ?_
  intro y c h1 F1 N1 l1 l2
  have l1' := l1
  have l2' := l2
  refine enterN F1 X N1 T (by k_is) (by k_is) (by simp only [depth_under_make]; show dp + 1 < 1000; omega) (binds_K (X.keeps F1.keep) rfl (by k_is) rfl rfl rfl) (locs rfl) ?_ rfl rfl rfl (by decide)
  intro g L' h' FG' F' N' X' T' l3
  have hyc : c ≠ y := Nat.ne_of_lt l2
  have hy : ∀ p ∈ tl, p.1 ≠ y := ne_ltAll' l1 (Nat.le_of_lt l2)
  have hc : ∀ p ∈ tl, p.1 ≠ c := ne_of_ltAll l1
  k_lt2 l2
  (try dsimp only)
  try k_fold
  k_steps
  exact ret _ _ _ _ _ _ (by assumption) (by assumption) l1' l2' (by k_get) (by k_get) (by k_get)

set_option maxHeartbeats 4000000 in
theorem tree_spec : ∀ {w : World} {A : Around} {s : Shared} {h₀ : Heap} {L : Addr} {m mg mb : Str → Option Value} {mean : ExcName → Option Value} {tl : List (Addr × Obj)} {x : Str} {t tk : Tok} {k : Int} {l : Addr} {n0 : Nat} {Q E : Value → Shared → Prop}
    (_ : Room A 2) (_ : Fr h₀ L s.heap m) (_ : (hd.heap_1 w.params).In h₀) (_ : Top vw lse mean mg mb h₀) (_ : News h₀ L s.heap tl) (_ : (l, listOf #[] n0) ∈ tl)
    (_ : ∀ y c q es n n1 h' t', Fr h₀ L h' m → News h₀ L h' ((y, instObj 161 c) :: (c, dictOf es n) :: (q, listOf #[] n1) :: tl) → (∀ p ∈ tl, p.1 < c) → c < y → y < q → getL (Str.ofString "is_leaf") es = some none → getL (Str.ofString "rule") es = some (some (.int k tk)) → Q (.ref y) { s with heap := h', toks := t' }),
    wpAny (model Challenge.rw_on0168_01.row.prog w) A (call (.ref 161) [.str x t, .int k tk, .ref l]) Q E s := by
  try row_walk
  k_fill
  intro w A s h₀ L m mg mb mean tl x t tk k l n0 Q E R F X T N hl ret
  obtain ⟨hh, dp, frs, gd, un⟩ := A
  obtain ⟨R1, R2, R3⟩ := R
  dsimp only at R1 R2 R3
  subst R1
  refine call_cls F X N (by k_is) (by k_is) (by k_is) ?_
  intro y c h1 F1 N1 l1 l2
  have l1' := l1
  have l2' := l2
  refine enterN F1 X N1 T (by k_is) (by k_is) (by simp only [depth_under_make]; show dp + 1 < 1000; omega) (BindsTo.of_eq (binds := [(Str.ofString "self", .ref y), (Str.ofString "name", .str x t), (Str.ofString "rule", .int k tk), (Str.ofString "children", .ref l)]) rfl) (locs rfl) ?_ rfl rfl rfl (by decide)
  intro g L' h' FG' F' N' X' T' l3
  have hyc : c ≠ y := Nat.ne_of_lt l2
  have hy : ∀ p ∈ tl, p.1 ≠ y := ne_ltAll' l1 (Nat.le_of_lt l2)
  have hc : ∀ p ∈ tl, p.1 ≠ c := ne_of_ltAll l1
  k_lt2 l2
  (try dsimp only)
  try k_fold
  k_steps
  rename News h₀ _ _ _ => N9
  rename y < _ ∧ c < _ ∧ _ => l9
  exact ret _ _ _ _ _ _ _ _ (by assumption) (News.subset N9 (by walk_at "mine sub")) l1' l2' l9.1 (by k_get) (by k_get)
end
end

section
open PySem.Calls
set_option maxRecDepth 100000
local macro_rules | `(tactic| walk_at "mine spare") => `(tactic| skip)
local macro_rules | `(tactic| walk_at "mine spare") => `(tactic| skip)
theorem opq {α : Type} {P : α → Prop} {a : α} (h : P a) : ∃ b, b = a ∧ P b := ⟨a, rfl, h⟩
theorem mem_of_eq {α : Type} {a b : List α} (h : b = a) : ∀ p ∈ a, p ∈ b := h ▸ fun _ hp => hp
theorem head_of {h₀ h : Heap} {L a : Addr} {o : Obj} {l : List (Addr × Obj)} (_ : News h₀ L h ((a, o) :: l)) : ∃ R, R = a := ⟨a, rfl⟩
noncomputable def RuleOK (led : List (Addr × Obj)) (v : Value) : Prop := ∃ y c es n nu tn le te r rv k, v = .ref y ∧ (y, instObj 238 c) ∈ led ∧ (c, dictOf es n) ∈ led ∧ getL (Str.ofString "number") es = some (some (.int nu tn)) ∧ getL (Str.ofString "left") es = some (some (.int le te)) ∧ (0 ≤ le ∧ le < 8) ∧ getL (Str.ofString "right") es = some (some (.ref r)) ∧ (r, tupO rv k) ∈ led ∧ rv.length ≤ 2
theorem RuleOK.mono {led led' : List (Addr × Obj)} (hs : ∀ p ∈ led, p ∈ led') {v : Value} : RuleOK led v → RuleOK led' v := by
  rintro ⟨y, c, es, n, nu, tn, le, te, r, rv, k, e, a, b, c1, c2, c3, c4, c5, c6⟩
  exact ⟨y, c, es, n, nu, tn, le, te, r, rv, k, e, hs _ a, hs _ b, c1, c2, c3, c4, hs _ c5, c6⟩
/-- a str that stands in the list -/
noncomputable def IdxIn (nv : List Value) (v : Value) : Prop := ∃ x t j, v = .str x t ∧ strAt x nv = some j ∧ j < 8
noncomputable def PairOK (led : List (Addr × Obj)) (nv : List Value) (v : Value) : Prop := ∃ T lf pl nT pvs npl, v = .ref T ∧ (T, tupO [lf, .ref pl] nT) ∈ led ∧ IdxIn nv lf ∧ (pl, listOf (List.toArray pvs) npl) ∈ led ∧ (∀ u ∈ pvs, IdxIn nv u) ∧ pvs.length ≤ 2
noncomputable def nmL (t1 t2 t3 t4 t5 t6 t7 t8 : Tok) : List Value := [.str (Str.ofString "$end") t1, .str (Str.ofString "error") t2, .str (Str.ofString "$undefined") t3, .str (Str.ofString "a") t4, .str (Str.ofString "b") t5, .str (Str.ofString "$accept") t6, .str (Str.ofString "s") t7, .str (Str.ofString "t") t8]
section
variable {t1 t2 t3 t4 t5 t6 t7 t8 : Tok}
theorem idx_a {t : Tok} : IdxIn (nmL t1 t2 t3 t4 t5 t6 t7 t8) (.str (Str.ofString "a") t) := ⟨_, _, 3, rfl, by with_unfolding_all rfl, by decide⟩
theorem idx_b {t : Tok} : IdxIn (nmL t1 t2 t3 t4 t5 t6 t7 t8) (.str (Str.ofString "b") t) := ⟨_, _, 4, rfl, by with_unfolding_all rfl, by decide⟩
theorem idx_s {t : Tok} : IdxIn (nmL t1 t2 t3 t4 t5 t6 t7 t8) (.str (Str.ofString "s") t) := ⟨_, _, 6, rfl, by with_unfolding_all rfl, by decide⟩
theorem idx_t {t : Tok} : IdxIn (nmL t1 t2 t3 t4 t5 t6 t7 t8) (.str (Str.ofString "t") t) := ⟨_, _, 7, rfl, by with_unfolding_all rfl, by decide⟩
theorem pairs_ok {bs : List (Addr × Obj)} {D6 D7 l5 l6 : Addr} {u1 u2 u3 u4 u5 : Tok} {n0 n1 n2 n3 n4 : Nat} {nl : Addr} (h0 : (nl, listOf (nmL t1 t2 t3 t4 t5 t6 t7 t8).toArray n0) ∈ bs) (h1 : (D7, tupO [.str (Str.ofString "s") u1, .ref l6] n1) ∈ bs) (h2 : (l6, listOf #[.str (Str.ofString "a") u2, .str (Str.ofString "b") u3] n2) ∈ bs)
    (h3 : (D6, tupO [.str (Str.ofString "t") u4, .ref l5] n3) ∈ bs) (h4 : (l5, listOf #[.str (Str.ofString "a") u5] n4) ∈ bs) : ∃ nv : List Value, (nl, listOf nv.toArray n0) ∈ bs ∧ strsL nv = true ∧ nv.length = 8 ∧ nv[3]? = some (.str (Str.ofString "a") t4) ∧ nv[4]? = some (.str (Str.ofString "b") t5) ∧ IdxIn nv (.str (Str.ofString "s") u1) ∧ ∀ (i : Nat) v, (#[Value.ref D7, Value.ref D6] : Array Value)[i]? = some v → PairOK bs nv v := by
  refine ⟨_, h0, rfl, rfl, rfl, rfl, idx_s, ?_⟩
  exact fun i v => match i with
  | 0 => fun hv => ⟨_, _, _, _, [_, _], _, (Option.some.inj hv).symm, h1, idx_s, h2, fun u hu => by
      rcases List.mem_cons.mp hu with rfl | hu
      · exact idx_a
      · rcases List.mem_singleton.mp hu with rfl
        exact idx_b, Nat.le_refl 2⟩
  | 1 => fun hv => ⟨_, _, _, _, [_], _, (Option.some.inj hv).symm, h3, idx_t, h4, fun u hu => by
      rcases List.mem_singleton.mp hu with rfl
      exact idx_a, Nat.le_succ 1⟩
  | i + 2 => fun hv => by simp at hv
end

section
local macro_rules | `(tactic| walk_at $s) => stp "|pyIter ref|" s
local macro_rules | `(tactic| walk_at $s) => fvf "|exec For Name Name cons nil|" s
local macro_rules | `(tactic| k_get) => asmT
set_option maxHeartbeats 4000000 in
theorem lt_spec : ∀ {w : World} {A : Around} {s : Shared} {h₀ : Heap} {L : Addr} {m mg mb : Str → Option Value} {mean : ExcName → Option Value} {tl : List (Addr × Obj)} {r : Addr} {vs : List Value} {n : Nat} {ks : List Int} {c : Int} {tc : Tok} {Q E : Value → Shared → Prop}
    (_ : Room A 2) (_ : Fr h₀ L s.heap m) (_ : (hd.heap_1 w.params).In h₀) (_ : Top vw lse mean mg mb h₀) (_ : News h₀ L s.heap tl)
    (_ : (r, tupO vs n) ∈ tl) (_ : IntsAre vs ks)
    (_ : ∀ k t h' t', Fr h₀ L h' m → News h₀ L h' tl → Q (.int k t) { s with heap := h', toks := t' }),
    wpAny (model Challenge.rw_on0168_01.row.prog w) A (call (.ref 331) [.ref r, .int c tc]) Q E s := by
  try row_walk
  k_fill
  intro w A s h₀ L m mg mb mean tl r vs n ks c tc Q E R F X T N hr hk ret
  obtain ⟨hh, dp, frs, gd, un⟩ := A
  obtain ⟨R1, R2, R3⟩ := R
  dsimp only at R1 R2 R3
  subst R1
  refine wpAny_call ?_
  refine enterN (binds := [(Str.ofString "right", .ref r), (Str.ofString "terminal_count", .int c tc)]) F X N T (by k_is) (by k_is) (by show dp < 1000; omega) (BindsTo.of_eq rfl) (locs rfl) ?_ rfl rfl rfl (by decide)
  intro g L' h' FG' F' N' X' T' l1
  (try dsimp only)
  try k_fold
  k_steps
  rename Fr g _ _ _ => F2
  rename News g _ _ _ => N2
  refine stopGo ?_
  refine loop_tuple (by rfl) F2 N2 (items := vs.toArray) ⟨_, (N2 _ hr).1, rfl, n, rfl⟩ (N2 _ hr).2.1
    [Str.ofString "symbol"]
    (fun y : Int × Tok => fun z => if z = Str.ofString "found" then some (.int y.1 y.2) else List.lookup z (List.reverse [(Str.ofString "right", .ref r), (Str.ofString "terminal_count", .int c tc)]))
    (fun _ _ news => news = tl) (-1, _) Agr.rfl rfl ?_ ?_
  · intro i v y u news₁ h tk It own hv hI hnit hown hItO F3 N3
    subst hI
    obtain ⟨q, hq, t, rfl⟩ := ints_get hk (j := i) (v := v) (by simpa using hv)
    k_unmd
    k_fold
    k_steps
    · refine TurnPost.ok (by assumption) (by assumption) (q, t) news₁ ?_ rfl sub_l sub_r hnit
      refine Agr.cong ?_
      walk_at "mine agr"
    · exact TurnPost.ok (by assumption) (by assumption) y news₁ (by walk_at "mine agr") rfl sub_l sub_r hnit
  · intro h tk y u news' F3 N3 hI
    subst hI
    k_steps
    exact ret _ _ _ _ (by assumption) (by assumption)
end
end

section
open PySem.Calls
set_option maxRecDepth 100000
local macro_rules | `(tactic| walk_at "mine spare") => `(tactic| skip)
local macro_rules | `(tactic| walk_at "mine spare") => `(tactic| skip)
local macro_rules | `(tactic| walk_at "mine spare") => `(tactic| skip)
noncomputable def ListRef (b : Nat) (mid : List (Addr × Obj)) (v : Value) : Prop := ∃ a x n, v = .ref a ∧ (a, listOf (List.toArray x) n) ∈ mid ∧ x.length ≤ b
theorem ListRef.mono {b : Nat} {mid mid' : List (Addr × Obj)} (hs : ∀ p ∈ mid, p ∈ mid') {v : Value} : ListRef b mid v → ListRef b mid' v
  | ⟨a, x, n, e, h, l⟩ => ⟨a, x, n, e, hs _ h, l⟩
theorem dict_at {h₀ h : Heap} {L a d : Addr} {o1 o2 o3 : Obj} {a1 a2 a3 : Addr} {o4 : Obj} {es : List DictEntry} {n : Nat} {l : List (Addr × Obj)} (_ : News h₀ L h ((a1, o1) :: (a2, o2) :: (a3, o3) :: (a, o4) :: (d, dictOf es n) :: l)) : ∃ es' n', es' = es ∧ n' = n := ⟨_, _, rfl, rfl⟩
theorem list_at4 {h₀ h : Heap} {L a1 a2 a3 a : Addr} {o1 o2 o3 : Obj} {vs : List Value} {n : Nat} {l : List (Addr × Obj)} (_ : News h₀ L h ((a1, o1) :: (a2, o2) :: (a3, o3) :: (a, listOf (List.toArray vs) n) :: l)) : ∃ v', v' = vs := ⟨_, rfl⟩
noncomputable def gramM (g nl Rl lv : Addr) (c st : Int) (tc ts : Tok) : Str → Option Value := fun z => List.lookup z (List.reverse ([(Str.ofString "self", .ref g), (Str.ofString "names", .ref nl), (Str.ofString "terminal_count", .int c tc), (Str.ofString "rules", .ref Rl), (Str.ofString "levels", .ref lv), (Str.ofString "expect", .none), (Str.ofString "start", .int st ts)] : List (Str × Value)))
section
local macro_rules | `(tactic| walk_at $s) => stp "|pyIter ref|eval ListComp|CompSrc|CompEnd|call builtin:len|subscriptTail|binaryOp Mult ref int|call builtin:list.extend|" s
local macro_rules | `(tactic| walk_at $s) => fvf "|exec For Name Attribute cons nil|" s
local macro_rules | `(tactic| k_get) => asmT
set_option maxHeartbeats 4000000 in
theorem grammar_spec : ∀ {w : World} {A : Around} {s : Shared} {h₀ : Heap} {L : Addr} {m mg mb : Str → Option Value} {mean : ExcName → Option Value} {tl : List (Addr × Obj)} {nl Rl lv : Addr} {nv vs : List Value} {n0 n2 : Nat} {c st : Int} {tc ts : Tok} {Q E : Value → Shared → Prop}
    (_ : Room A 3) (_ : Fr h₀ L s.heap m) (_ : (hd.heap_1 w.params).In h₀) (_ : Top vw lse mean mg mb h₀) (_ : News h₀ L s.heap tl)
    (_ : (nl, listOf (List.toArray nv) n0) ∈ tl) (_ : nv.length = 8) (_ : (Rl, listOf (List.toArray vs) n2) ∈ tl) (_ : vs.length ≤ 3) (_ : ∀ v ∈ vs, RuleOK tl v)
    (_ : ∀ g d es n led h' t', Fr h₀ L h' m → News h₀ L h' led → (∀ p ∈ tl, p ∈ led) → (g, instObj 320 d) ∈ led → (d, dictOf es n) ∈ led → getL (Str.ofString "names") es = some (some (.ref nl)) → Q (.ref g) { s with heap := h', toks := t' }),
    wpAny (model Challenge.rw_on0168_01.row.prog w) A (call (.ref 320) [.ref nl, .int c tc, .ref Rl, .ref lv, .none, .int st ts]) Q E s := by
  try row_walk
  k_fill
  intro w A s h₀ L m mg mb mean tl nl Rl lv nv vs n0 n2 c st tc ts Q E R F X T N hnl hn8 hRl hv3 hvs ret
  obtain ⟨hh, dp, frs, gd, un⟩ := A
  obtain ⟨R1, R2, R3⟩ := R
  dsimp only at R1 R2 R3
  subst R1
  refine call_cls F X N (by k_is) (by k_is) (by k_is) ?_
  intro g d h1 F1 N1 l1 l2
  refine enterN F1 X N1 T (by k_is) (by k_is) (by simp only [depth_under_make]; show dp + 1 < 1000; omega) (BindsTo.of_eq (binds := [(Str.ofString "self", .ref g), (Str.ofString "names", .ref nl), (Str.ofString "terminal_count", .int c tc), (Str.ofString "rules", .ref Rl), (Str.ofString "levels", .ref lv), (Str.ofString "expect", .none), (Str.ofString "start", .int st ts)]) rfl) (locs rfl) ?_ rfl rfl rfl (by decide)
  intro g0 L' h' FG' F' N' X' T' l3
  change Fr g0 L' h' (gramM g nl Rl lv c st tc ts) at F'
  have hgd : d ≠ g := Nat.ne_of_lt l2
  have hg : ∀ p ∈ tl, p.1 ≠ g := ne_ltAll' l1 (Nat.le_of_lt l2)
  have hd' : ∀ p ∈ tl, p.1 ≠ d := ne_of_ltAll l1
  k_lt2 l2
  (try dsimp only)
  try k_fold
  k_steps
  refine stopGo ?_
  refine LCg.ListComp_U (F₀ := by k_asm) (by with_unfolding_all rfl) (by decide) (by rfl) (by decide) (by rfl) ?_
  k_steps
  rename Fr g0 _ _ _ => F2
  rename News g0 _ _ _ => N2
  obtain ⟨b0, hb0, N3⟩ := opq (P := News _ _ _) N2
  have hnl0 : (nl, listOf (List.toArray nv) n0) ∈ b0 := by rw [hb0]; exact .tail _ (.tail _ hnl)
  clear N2
  refine stopGo ?_
  refine LCg.CompSrc.ledger (by rfl) F2 N3 hnl0 (size_line_le (by simp only [List.size_toArray]; omega)) ?_
  intro g'
  refine rest_inv (fun j ys news => ∃ mid, news = mid ++ b0 ∧ ys.length = j ∧ (∀ v ∈ ys, ListRef 0 mid v) ∧ (∀ q ∈ mid, ∀ p ∈ b0, p.1 ≠ q.1)) ?_ ?_ _ 0 [] _ (Nat.zero_add _) ⟨[], rfl, rfl, (fun _ h => nomatch h), (fun _ h => nomatch h)⟩
  · intro j v ys news I oI C' oC D m₂ h tk E' hj hv hI hO hx F6 N6 off ne
    obtain ⟨mid, rfl, hys, hyr, hmb⟩ := hI
    obtain ⟨b6, hb6⟩ : ∃ f, f = mid ++ b0 := ⟨_, rfl⟩
    rw [← hb6] at N6 off
    k_steps
    refine stopGo ?_
    rename News _ _ _ _ => N7
    rename _ ∧ _ ∧ _ ∧ AllLt _ _ => l7
    obtain ⟨l, rfl⟩ := head_of N7
    have hl7 := AllLt.mem l7.2.2.2
    refine compEnd (by assumption) N7 ((l, listOf #[] 0) :: b6) (by walk_at "mine sub") ?_ (.inr ⟨_, .tail _ (hb6 ▸ sub_r _ hnl0), rfl, _, rfl⟩) ⟨(l, listOf #[] 0) :: mid, by rw [hb6]; rfl, ?_, ?_, ?_⟩
    · intro p hp
      rcases List.mem_cons.mp hp with rfl | hp
      · exact ⟨Nat.ne_of_gt l7.1, Nat.ne_of_gt l7.2.1, Nat.ne_of_gt l7.2.2.1⟩
      · exact off p hp
    · simp [hys]
    · intro v hv
      rcases List.mem_append.mp hv with hv | hv
      · exact (hyr v hv).mono fun p hp => .tail _ hp
      · rw [List.mem_singleton.mp hv]
        exact ⟨l, [], 0, rfl, .head _, by simp⟩
    · intro q hq p hp
      rcases List.mem_cons.mp hq with rfl | hq
      · exact Nat.ne_of_lt (hl7 p (hb6 ▸ sub_r _ hp))
      · exact hmb q hq p hp
  · intro ys news hI
    obtain ⟨mid, rfl, hys, hyr, hmb⟩ := hI
    unfold LCg.FinE
    intro D h tk F7 N7 o1
    have o1' := off1_mem o1
    subst hb0
    have hDg : @Ne Nat g D := o1' (g, instObj 320 d) (sub_r _ (.head _))
    have hDd : @Ne Nat d D := o1' (d, _) (sub_r _ (.tail _ (.head _)))
    have hDm : ∀ p ∈ mid ++ tl, p.1 ≠ D := fun p hp => (List.mem_append.mp hp).elim (fun h => o1' p (sub_l _ h)) fun h => o1' p (sub_r _ (.tail _ (.tail _ h)))
    have hgm : ∀ p ∈ mid ++ tl, p.1 ≠ g := fun p hp => (List.mem_append.mp hp).elim (fun h => (hmb p h (g, _) (.head _)).symm) fun h => hg p h
    have hdm : ∀ p ∈ mid ++ tl, p.1 ≠ d := fun p hp => (List.mem_append.mp hp).elim (fun h => (hmb p h (d, _) (.tail _ (.head _))).symm) fun h => hd' p h
    have hmt : ∀ q ∈ mid, ∀ p ∈ tl, p.1 ≠ q.1 := fun q hq p hp => hmb q hq p (.tail _ (.tail _ hp))
    have N8 := News.subset (led' := (D, LCg.lst ys) :: (g, instObj 320 d) :: (d, _) :: (mid ++ tl)) N7 (sub_cons (.head _) (sub_cons (.tail _ (sub_r _ (.head _))) (sub_cons (.tail _ (sub_r _ (.tail _ (.head _)))) fun p hp => .tail _ ((List.mem_append.mp hp).elim (sub_l p) fun h => sub_r p (.tail _ (.tail _ h))))))
    obtain ⟨b1, hb1⟩ : ∃ f, f = mid ++ tl := ⟨_, rfl⟩
    rw [← hb1] at N8 hDm hgm hdm
    clear N7 N3 o1 o1' hmb hnl0
    have hRl1 : (Rl, listOf (List.toArray vs) n2) ∈ b1 := hb1 ▸ sub_r _ hRl
    k_steps
    rename News g0 _ _ _ => N9
    rename Fr g0 _ _ _ => F9
    rename _ ∧ D < _ ∧ _ => l9
    obtain ⟨Ow, rfl⟩ := head_of N9
    obtain ⟨Of, rfl⟩ := head_of (News.rest N9)
    rename D < Of ∧ _ => l8
    obtain ⟨es, nE, hes, hnE⟩ := dict_at N9
    rw [← hes, ← hnE] at N9
    have e_by : getL (Str.ofString "by_left") es = some (some (.ref D)) := by rw [hes]; k_get
    have e_of : getL (Str.ofString "offsets") es = some (some (.ref Of)) := by rw [hes]; k_get
    have e_ow : getL (Str.ofString "owners") es = some (some (.ref Ow)) := by rw [hes]; k_get
    have e_nm : getL (Str.ofString "names") es = some (some (.ref nl)) := by rw [hes]; k_get
    have hlt : ∀ p ∈ (D, LCg.lst ys) :: (g, instObj 320 d) :: (d, dictOf es nE) :: b1, p.1 < Of := by
      intro p hp
      rcases List.mem_cons.mp hp with rfl | hp
      · exact l8.1
      · rcases List.mem_cons.mp hp with rfl | hp
        · exact l8.2.1
        · rcases List.mem_cons.mp hp with rfl | hp
          · exact l8.2.2.1
          · exact AllLt.mem l8.2.2.2 p hp
    obtain ⟨fx, hfx⟩ : ∃ f, f = (D, LCg.lst ys) :: (g, instObj 320 d) :: (d, dictOf es nE) :: tl := ⟨_, rfl⟩
    have fD : (D, listOf (List.toArray ys) ys.length) ∈ fx := hfx ▸ .head _
    have fg : (g, instObj 320 d) ∈ fx := hfx ▸ .tail _ (.head _)
    have fd : (d, dictOf es nE) ∈ fx := hfx ▸ .tail _ (.tail _ (.head _))
    have ft : ∀ p ∈ tl, p ∈ fx := hfx ▸ fun p hp => .tail _ (.tail _ (.tail _ hp))
    have fsub : ∀ p ∈ mid ++ fx, p ∈ (D, LCg.lst ys) :: (g, instObj 320 d) :: (d, dictOf es nE) :: b1 := by
      intro p hp
      rw [hb1]
      rcases List.mem_append.mp hp with hp | hp
      · exact .tail _ (.tail _ (.tail _ (sub_l _ hp)))
      · rw [hfx] at hp
        rcases List.mem_cons.mp hp with rfl | hp
        · exact .head _
        · rcases List.mem_cons.mp hp with rfl | hp
          · exact .tail _ (.head _)
          · rcases List.mem_cons.mp hp with rfl | hp
            · exact .tail _ (.tail _ (.head _))
            · exact .tail _ (.tail _ (.tail _ (sub_r _ hp)))
    have hmf : ∀ q ∈ mid, ∀ p ∈ fx, p.1 ≠ q.1 := by
      intro q hq p hp
      have hqb : q ∈ b1 := hb1 ▸ sub_l _ hq
      rw [hfx] at hp
      rcases List.mem_cons.mp hp with rfl | hp
      · exact (hDm q hqb).symm
      · rcases List.mem_cons.mp hp with rfl | hp
        · exact (hgm q hqb).symm
        · rcases List.mem_cons.mp hp with rfl | hp
          · exact (hdm q hqb).symm
          · exact hmt q hq p hp
    have hltf : ∀ p ∈ mid ++ fx, p.1 < Of := fun p hp => hlt p (fsub p hp)
    have N10 := News.subset (led' := (Ow, listOf #[] 0) :: (Of, listOf #[] 0) :: (mid ++ fx)) N9 (sub_cons (.head _) (sub_cons (.tail _ (.head _)) fun p hp => .tail _ (.tail _ (fsub p hp))))
    have hOO : @Ne Nat Of Ow := Nat.ne_of_lt l9.1
    have hfO : ∀ p ∈ fx, p.1 ≠ Of ∧ p.1 ≠ Ow := fun p hp => ⟨Nat.ne_of_lt (hltf p (sub_r _ hp)), Nat.ne_of_lt (Nat.lt_trans (hltf p (sub_r _ hp)) l9.1)⟩
    have hmO : ∀ p ∈ mid, p.1 ≠ Of ∧ p.1 ≠ Ow := fun p hp => ⟨Nat.ne_of_lt (hltf p (sub_l _ hp)), Nat.ne_of_lt (Nat.lt_trans (hltf p (sub_l _ hp)) l9.1)⟩
    have hRl2 : (Rl, listOf (List.toArray vs) n2) ∈ fx := ft _ hRl
    clear N9 hlt hltf fsub hDm hgm hdm hmt hRl1 l8 l9
    refine stopGo ?_
    refine loop_list (by rfl) F9 N10 (r := Rl) (items := vs.toArray) ⟨_, (N10 _ (.tail _ (.tail _ (sub_r _ hRl2)))).1, rfl, n2, rfl⟩ (N10 _ (.tail _ (.tail _ (sub_r _ hRl2)))).2.1
      [Str.ofString "rule"] (fun _ : Unit => _)
      (fun i _ news => ∃ ovs no fvs nf mid, news = (Ow, listOf (List.toArray ovs) no) :: (Of, listOf (List.toArray fvs) nf) :: (mid ++ fx) ∧ (∀ v ∈ ys, ListRef i mid v) ∧ (∀ q ∈ mid, ∀ p ∈ fx, p.1 ≠ q.1) ∧ (∀ p ∈ mid, p.1 ≠ Of ∧ p.1 ≠ Ow) ∧ ovs.length ≤ 3 * i ∧ fvs.length ≤ i)
      () Agr.rfl ⟨[], 0, [], 0, mid, rfl, hyr, hmf, hmO, Nat.le_refl _, Nat.le_refl _⟩ ?_ ?_
    · clear N10 hmO hmf hyr
      intro i v _ u news₁ h tk It own hv hI hnit hown hItO F3 N3
      obtain ⟨ovs, no, fvs, nf, mid', rfl, hyr, hmf, hmO, hov, hfv⟩ := hI
      have hi : i < 3 := by
        have := (List.getElem?_eq_some_iff.mp (by simpa using hv)).1
        omega
      obtain ⟨y, cy, ey, ny, nu, tn, le, te, r, rv, k, rfl, h1, h2, h3, h4, ⟨h5, h5'⟩, h6, h7, h8⟩ := hvs v (List.mem_of_getElem? (i := i) (by simpa using hv))
      simp only [List.cons_append, List.append_assoc] at N3
      obtain ⟨b3, hb3⟩ : ∃ f, f = fx ++ own := ⟨_, rfl⟩
      rw [← hb3] at N3
      have hf3 : ∀ p ∈ fx, p ∈ b3 := hb3 ▸ sub_l
      have ho3 : ∀ p ∈ own, p ∈ b3 := hb3 ▸ sub_r
      have hm3 : ∀ q ∈ mid', ∀ p ∈ b3, p.1 ≠ q.1 := by
        intro q hq p hp
        rw [hb3] at hp
        rcases List.mem_append.mp hp with hp | hp
        · exact hmf q hq p hp
        · rcases hown p hp with e | e
          · rw [e]; exact (hnit q (.tail _ (.tail _ (sub_l _ hq)))).symm
          · rw [e]; exact hmf q hq _ hRl2
      have hb3O : ∀ p ∈ b3, p.1 ≠ Of ∧ p.1 ≠ Ow := by
        intro p hp
        rw [hb3] at hp
        rcases List.mem_append.mp hp with hp | hp
        · exact hfO p hp
        · rcases hown p hp with e | e
          · rw [e]; exact ⟨(hnit _ (.tail _ (.head _))).symm, (hnit _ (.head _)).symm⟩
          · rw [e]; exact hfO _ hRl2
      obtain ⟨bl, xl, nx, hbl, hblm, hxl⟩ := hyr _ (List.mem_of_getElem? (List.getElem?_eq_getElem (show le.toNat < ys.length by rw [hys]; simp only [List.size_toArray]; omega)))
      have hr3 : ∃ r3, r3 = off bl mid' ++ b3 := ⟨_, rfl⟩
      obtain ⟨r3, hr3⟩ := hr3
      have h33 : ∀ p ∈ b3, p ∈ r3 := hr3 ▸ sub_r
      have hblO := hmO _ hblm
      have hr3b : ∀ p ∈ r3, p.1 ≠ bl := by
        intro p hp
        rw [hr3] at hp
        rcases List.mem_append.mp hp with hp | hp
        · exact off_ne p hp
        · exact hm3 _ hblm p hp
      have hr3O : ∀ p ∈ r3, p.1 ≠ Of := by
        intro p hp
        rw [hr3] at hp
        rcases List.mem_append.mp hp with hp | hp
        · exact (hmO p (off_sub p hp)).1
        · exact (hb3O p hp).1
      have hr3W : ∀ p ∈ r3, p.1 ≠ Ow := by
        intro p hp
        rw [hr3] at hp
        rcases List.mem_append.mp hp with hp | hp
        · exact (hmO p (off_sub p hp)).2
        · exact (hb3O p hp).2
      have N4 := News.subset (led' := (bl, listOf (List.toArray xl) nx) :: (Of, listOf (List.toArray fvs) nf) :: (Ow, listOf (List.toArray ovs) no) :: r3) N3 (sub_cons (.tail _ (.tail _ (sub_l _ hblm))) (sub_cons (.tail _ (.head _)) (sub_cons (.head _) fun p hp => .tail _ (.tail _ (by
        rw [hr3] at hp
        exact (List.mem_append.mp hp).elim (fun h => sub_l _ (off_sub p h)) fun h => sub_r _ h)))))
      clear N3
      have hbO : @Ne Nat bl Of := hblO.1
      have hbW : @Ne Nat bl Ow := hblO.2
      have gg := h33 _ (hf3 _ fg)
      have gd' := h33 _ (hf3 _ fd)
      have gD := h33 _ (hf3 _ fD)
      have g1 := h33 _ (hf3 _ (ft _ h1))
      have g2 := h33 _ (hf3 _ (ft _ h2))
      have g7 := h33 _ (hf3 _ (ft _ h7))
      k_unmd
      k_fold
      k_steps
      refine stopGo ?_
      refine list_item N4 (.tail _ (.tail _ (.tail _ gD))) h5 (by omega) (List.getElem?_eq_some_iff.mpr ⟨_, hbl⟩) ?_
      (try dsimp only)
      k_steps
      rename News g0 _ _ _ => N5
      rename Fr g0 _ _ _ => F5
      refine stopGo ?_
      refine call_len_list (items := List.toArray ovs) (News.isList N5 (.tail _ (.tail _ (.head _)))) (by simp only [List.size_toArray]; omega) ?_
      (try dsimp only)
      k_steps
      rename News g0 _ _ _ => N6
      rename Fr g0 _ _ _ => F6
      refine stopGo ?_
      refine P.len_tuple (N6 _ (.tail _ (.tail _ (.tail _ (.tail _ g7))))).1 (by simp only [List.size_toArray]; omega) ?_
      (try dsimp only)
      k_steps
      rename _ ∧ _ ∧ _ ∧ AllLt _ _ => l6
      obtain ⟨Kl, rfl⟩ := head_of N6
      refine stopGo ?_
      refine KMa.mul (vs := [.int nu tn]) F6 N6 (News.isList N6 (.head _)) (by simp only [List.size_toArray]; omega) (by simp only [List.size_toArray]; omega) (by simp only [List.size_toArray, List.length_cons, List.length_nil]; omega) rfl ?_
      intro Dm h7' F7' N7' l7'
      have l7'' := l7'
      k_lt l7'
      (try dsimp only)
      k_steps
      refine stopGo ?_
      have hwl : (List.replicate ((rv.toArray.size : Int) + 1).toNat [Value.int nu tn]).flatten.length = rv.length + 1 := by simp
      generalize (List.replicate ((rv.toArray.size : Int) + 1).toNat [Value.int nu tn]).flatten = ws at N7' hwl
      refine kl_extend (its := List.toArray ovs) (its2 := List.toArray ws) (by assumption) N7' (.head _) rfl (by simp only []; omega) (by k_upd) ?_ (size_line_le (by simp; omega)) (Nat.le_succ_of_le (size_line_le (by simp; omega))) ?_
      · simp [Builtin.List.listTooLong, sizeLine]; omega
      intro h8' F8' N8'
      (try dsimp only)
      k_steps
      rename News g0 _ _ _ => N9
      rename Fr g0 _ _ _ => F9
      simp only [List.push_toArray] at N9
      have hmr : ∀ p ∈ off bl mid', p ∈ r3 := hr3 ▸ sub_l
      obtain ⟨fvs', hfvs'⟩ := list_at4 N9
      have hfl : fvs'.length = fvs.length + 1 := by rw [hfvs']; simp
      rw [← hfvs'] at N9
      refine TurnPost.ok F9 N9 () ((Ow, listOf (List.toArray (ovs ++ ws)) (no + 1)) :: (Of, listOf (List.toArray fvs') (nf + 1)) :: (((bl, listOf (List.toArray (xl ++ [.int nu tn])) (nx + 1)) :: off bl mid') ++ fx)) (by walk_at "mine agr")
        ⟨ovs ++ ws, _, fvs', _, (bl, listOf (List.toArray (xl ++ [.int nu tn])) (nx + 1)) :: off bl mid', rfl, ?_, ?_, ?_, ?_, ?_⟩ ?_ ?_ ?_
      · intro v hv
        obtain ⟨a, x, n, e, hx, hl⟩ := hyr v hv
        by_cases hab : a = bl
        · subst hab
          exact ⟨a, _, _, e, .head _, by simp; omega⟩
        · exact ⟨a, x, n, e, .tail _ (mem_off.mpr ⟨hx, hab⟩), by omega⟩
      · intro q hq p hp
        rcases List.mem_cons.mp hq with rfl | hq
        · exact hmf _ hblm p hp
        · exact hmf q (off_sub q hq) p hp
      · intro p hp
        rcases List.mem_cons.mp hp with rfl | hp
        · exact hblO
        · exact hmO p (off_sub p hp)
      · simp; omega
      · omega
      · intro q hq
        rcases List.mem_cons.mp hq with rfl | hq
        · exact .tail _ (.tail _ (.tail _ (.tail _ (.head _))))
        · rcases List.mem_cons.mp hq with rfl | hq
          · exact .tail _ (.tail _ (.tail _ (.head _)))
          · rcases List.mem_append.mp hq with hq | hq
            · rcases List.mem_cons.mp hq with rfl | hq
              · exact .tail _ (.tail _ (.head _))
              · exact .tail _ (.tail _ (.tail _ (.tail _ (.tail _ (hmr q hq)))))
            · exact .tail _ (.tail _ (.tail _ (.tail _ (.tail _ (h33 q (hf3 q hq))))))
      · exact fun q hq => .tail _ (.tail _ (.tail _ (.tail _ (.tail _ (h33 q (ho3 q hq))))))
      · intro q hq
        rcases List.mem_cons.mp hq with rfl | hq
        · exact hnit (Ow, listOf (List.toArray ovs) no) (.head _)
        · rcases List.mem_cons.mp hq with rfl | hq
          · exact hnit (Of, listOf (List.toArray fvs) nf) (.tail _ (.head _))
          · rcases List.mem_append.mp hq with hq | hq
            · rcases List.mem_cons.mp hq with rfl | hq
              · exact hnit (bl, listOf (List.toArray xl) nx) (.tail _ (.tail _ (sub_l _ hblm)))
              · exact hnit q (.tail _ (.tail _ (sub_l _ (off_sub q hq))))
            · exact hnit q (.tail _ (.tail _ (sub_r _ hq)))
    · intro h tk _ u news' F4 N4 hI
      obtain ⟨ovs, no, fvs, nf, mid', rfl, hyr, hmf, hmO, hov, hfv⟩ := hI
      have hgm : ∀ p ∈ mid' ++ tl, p.1 ≠ d := fun p hp => (List.mem_append.mp hp).elim (fun h => (hmf p h _ fd).symm) fun h => hd' p h
      have hgg : ∀ p ∈ mid' ++ tl, p.1 ≠ g := fun p hp => (List.mem_append.mp hp).elim (fun h => (hmf p h _ fg).symm) fun h => hg p h
      have hDd' : @Ne Nat D d := Ne.symm hDd
      have h1 := (hfO _ fd).1
      have h2 := (hfO _ fd).2
      have h1' : @Ne Nat d Of := h1
      have h2' : @Ne Nat d Ow := h2
      have N5 := News.subset (led' := (Ow, listOf (List.toArray ovs) no) :: (g, instObj 320 d) :: (d, dictOf es nE) :: (mid' ++ tl)) N4 (sub_cons (.head _) (sub_cons (.tail _ (.tail _ (sub_r _ fg))) (sub_cons (.tail _ (.tail _ (sub_r _ fd))) fun p hp => .tail _ (.tail _ ((List.mem_append.mp hp).elim (sub_l p) fun h => sub_r p (ft p h))))))
      obtain ⟨b5, hb5⟩ : ∃ f, f = mid' ++ tl := ⟨_, rfl⟩
      rw [← hb5] at N5 hgm hgg
      have ht5 : ∀ p ∈ tl, p ∈ b5 := hb5 ▸ sub_r
      clear N4
      subst hes hnE
      (try dsimp only)
      k_steps
      refine stopGo ?_
      refine call_len_list (items := List.toArray ovs) (News.isList N5 (.head _)) (by simp only [List.size_toArray] at hov ⊢; omega) ?_
      (try dsimp only)
      k_steps
      rename News h₀ _ _ _ => N9
      rename Fr h₀ _ _ _ => F9
      exact ret _ _ _ _ _ _ _ F9 N9 (fun p hp => .tail _ (.tail _ (.tail _ (ht5 p hp)))) (.tail _ (.head _)) (.tail _ (.tail _ (.head _))) (by k_get)
end
end

section
open PySem.Calls
set_option maxRecDepth 100000
/-- a plain dict, its entries as they lie -/
noncomputable def RawAt (h : Heap) (d : Addr) (es : Array DictEntry) (ep : Nat) : Prop := ∃ o, h.get? d = some o ∧ o.ExactDict ∧ o.data = .dict es ep
theorem RawAt.keep {h h' : Heap} {d : Addr} {es : Array DictEntry} {ep : Nat} (x : RawAt h d es ep) (k : ∀ o, h.get? d = some o → h'.get? d = some o) : RawAt h' d es ep := let ⟨o, a, r⟩ := x; ⟨o, k _ a, r⟩
section
variable {prog : Program} {w : World} {A : Around} {E : Value → Shared → Prop} {s : Shared} {d it : Addr} {es : Array DictEntry} {ep i : Nat}
theorem RawAt.typeIs (x : RawAt s.heap d es ep) : s.TypeIs (.ref d) "dict" := let ⟨o, ho, hc, _⟩ := x; ⟨o, ho, hc.1⟩
theorem raw_iter {Q : Value → Shared → Prop} (hd : (d == sysModules) = false) (hm : RawAt s.heap d es ep)
    (hQ : Q (.ref s.heap.objs.size) { s with heap := s.heap.push { cls := .type "dict_keyiterator", data := .fields #[.ref d, .int 0 0, .int es.size 0, .int ep 0] } }) :
    wpAny (model prog w) A (pyIter (.ref d)) Q E s := by
  have hT := hm.typeIs
  obtain ⟨o, ho, hc, hdat⟩ := hm
  refine wpAny_pyIter_slot hT F.slot_dict_iter (wpAny_call_entry F.slot_dict_iter hT F.entry_dict_iter ?_ (F.args_dict_iter_1 _))
  unfold Builtin.«dict.__iter__»
  refine wpAny_bind ?_
  unfold Builtin.Dict.dictSlotNone
  refine wpAny_bind (wpAny_notOrdered_dict hT ?_)
  show wpAny _ _ (pure (Value.ref d)) _ _ s
  refine wpAny_pure ?_
  show wpAny _ _ (Builtin.Dict.showsAll d >>= _) _ _ s
  unfold Builtin.Dict.showsAll
  rw [if_neg (by rw [hd]; exact Bool.false_ne_true)]
  refine wpAny_bind (wpAny_pure ?_)
  refine wpAny_bind (wpAny_dictEntries ho hdat ?_)
  refine wpAny_bind (wpAny_dictEpoch ho hdat ?_)
  refine wpAny_bind (wpAny_newObj_type (wpAny_pure ⟨_, rfl, "dict_keyiterator", _, ⟨_, Heap.get?_push_size _ rfl, rfl⟩, F.slot_dict_keyiterator_next.lookup, ?_⟩))
  simpa [rawInt] using hQ
theorem raw_next {e : DictEntry} {Q : Option Value → Shared → Prop} (hit : s.heap.IsKeyIter it d i es.size ep) (hm : RawAt s.heap d es ep) (hx : es[i]? = some e)
    (hQ : ∀ h', h'.IsKeyIter it d (i + 1) es.size ep → Heap.SameBut it s.heap h' → Q (some e.key) { s with heap := h' }) :
    wpAny (model prog w) A (pyNext (.ref it)) Q E s := by
  obtain ⟨o, ho, hc, hd⟩ := id hit
  obtain ⟨od, hod, hcd, hdd⟩ := id hm
  have hown : Builtin.Dict_items.ownsTuple "dict_keyiterator" = false := by decide
  unfold pyNext
  refine wpAny_bind (wpAny_attempt (wpAny_callSpecial?_slot (name := Str.ofString "__next__") hit.typeIs F.slot_dict_keyiterator_next
    (wpAny_call_entry F.slot_dict_keyiterator_next hit.typeIs F.entry_dict_keyiterator_next ?_ (F.args_dict_keyiterator_next_1 _))))
  refine wpAny_bind (wpAny_pure ?_)
  refine wpAny_bind ?_
  refine wpAny_bind ?_
  first | refine wpAny_bind (wpAny_typeNameOfWhole_keyiter hit.typeIs (wpAny_pure ?_)) | refine wpAny_bind (wpAny_typeNameOf_keyiter hit.typeIs (wpAny_pure ?_))
  refine wpAny_bind (wpAny_fieldsOf ho hd ?_)
  simp only [hown, Bool.false_eq_true, if_false]
  show wpAny _ _ (if (Value.ref d == Value.none) = true then _ else _) _ _ s
  rw [if_neg (show ¬ ((Value.ref d == Value.none) = true) from Bool.false_ne_true)]
  refine wpAny_bind (wpAny_pure ?_)
  refine wpAny_bind (wpAny_dictEntries hod hdd ?_)
  rw [if_neg (by simp)]
  refine wpAny_bind (wpAny_pure ?_)
  refine wpAny_bind (wpAny_dictEpoch hod hdd ?_)
  rw [if_neg (by simp)]
  refine wpAny_pure ?_
  simp only [show ¬ ((i : Int) < 0) from by omega, if_false, Int.toNat_natCast, hx]
  refine wpAny_bind ?_
  first | refine wpAny_bind (wpAny_typeNameOfWhole_keyiter hit.typeIs (wpAny_pure ?_)) | refine wpAny_bind (wpAny_typeNameOf_keyiter hit.typeIs (wpAny_pure ?_))
  refine wpAny_bind (wpAny_isOneOf_keyiter hit.typeIs ?_)
  show wpAny _ _ (setField (.ref it) 1 (rawInt ((i : Int) + 1)) >>= _) _ _ s
  refine wpAny_bind (wpAny_setField ho hd (by simp) ?_)
  have hit' : (s.heap.update it (Obj.mapFields (·.setIfInBounds 1 (rawInt ((i : Int) + 1))))).IsKeyIter it d (i + 1) es.size ep :=
    ⟨_, Heap.get?_update_self _ ho (Obj.isFreed_of_fields (Obj.data_mapFields hd _)), (Obj.cls_mapFields ..).trans hc, by rw [Obj.data_mapFields hd]; simp [rawInt]⟩
  refine wpAny_bind (wpAny_holding ?_)
  refine wpAny_bind (wpAny_isOneOf_keyiter (s := { s with heap := s.heap.update it (Obj.mapFields (·.setIfInBounds 1 (rawInt ((i : Int) + 1)))) }) hit'.typeIs ?_)
  show wpAny _ _ (pure e.key) _ _ _
  exact wpAny_pure (wpAny_pure ⟨_, rfl, wpAny_pure (hQ _ hit' (Heap.SameBut.update ..))⟩)
theorem raw_end {Q : Option Value → Shared → Prop} (hh : A.handled = none) (hit : s.heap.IsKeyIter it d i es.size ep) (hm : RawAt s.heap d es ep) (hx : es.size ≤ i)
    (hQ : ∀ h', Heap.ExtBut it s.heap h' → Q none { s with heap := h' }) : wpAny (model prog w) A (pyNext (.ref it)) Q E s := by
  obtain ⟨o, ho, hc, hd⟩ := id hit
  obtain ⟨od, hod, hcd, hdd⟩ := id hm
  have hown : Builtin.Dict_items.ownsTuple "dict_keyiterator" = false := by decide
  unfold pyNext
  refine wpAny_bind (wpAny_attempt (wpAny_callSpecial?_slot (name := Str.ofString "__next__") hit.typeIs F.slot_dict_keyiterator_next
    (wpAny_call_entry F.slot_dict_keyiterator_next hit.typeIs F.entry_dict_keyiterator_next ?_ (F.args_dict_keyiterator_next_1 _))))
  refine wpAny_bind (wpAny_pure ?_)
  refine wpAny_bind ?_
  refine wpAny_bind ?_
  first | refine wpAny_bind (wpAny_typeNameOfWhole_keyiter hit.typeIs (wpAny_pure ?_)) | refine wpAny_bind (wpAny_typeNameOf_keyiter hit.typeIs (wpAny_pure ?_))
  refine wpAny_bind (wpAny_fieldsOf ho hd ?_)
  simp only [hown, Bool.false_eq_true, if_false]
  show wpAny _ _ (if (Value.ref d == Value.none) = true then _ else _) _ _ s
  rw [if_neg (show ¬ ((Value.ref d == Value.none) = true) from Bool.false_ne_true)]
  refine wpAny_bind (wpAny_pure ?_)
  refine wpAny_bind (wpAny_dictEntries hod hdd ?_)
  rw [if_neg (by simp)]
  refine wpAny_bind (wpAny_pure ?_)
  refine wpAny_bind (wpAny_dictEpoch hod hdd ?_)
  rw [if_neg (by simp)]
  refine wpAny_pure ?_
  simp only [show ¬ ((i : Int) < 0) from by omega, if_false, Int.toNat_natCast, Array.getElem?_eq_none hx]
  refine wpAny_bind ?_
  first | refine wpAny_bind (wpAny_typeNameOfWhole_keyiter hit.typeIs (wpAny_pure ?_)) | refine wpAny_bind (wpAny_typeNameOf_keyiter hit.typeIs (wpAny_pure ?_))
  show wpAny _ _ (setField (.ref it) 0 .none >>= _) _ _ s
  refine wpAny_bind (wpAny_setField ho hd (by simp) ?_)
  show wpAny _ _ (newExc (.type "StopIteration") [] >>= _) _ _ _
  refine wpAny_bind ?_
  simp only [newExc, newTuple]
  refine wpAny_bind (wpAny_newObj_type ?_ (by size_fits))
  refine wpAny_bind (m := firstArgMember _ _) (wpAny_of_eq (a := Value.none) (by first | rfl | (simp only [firstArgMember]; rfl)) ?_)
  refine wpAny_newObj_type ?_ (by size_fits)
  simp only [raiseNew]
  refine wpAny_bind (wpAny_handled ?_)
  rw [show A.in1.handled = none from hh]
  refine wpAny_bind (wpAny_pure (wpAny_throw ?_))
  refine wpAny_bind (wpAny_isInstance (T := "StopIteration") (b := true) ⟨_, Heap.get?_push_size _ rfl, rfl⟩ isSubtype_stop ?_)
  exact wpAny_pure (hQ _ (((Heap.SameBut.update ..).extBut.push _).push _))
theorem raw_walks (hh : A.handled = none) (I d : Addr) (hne : d ≠ I) (es : Array DictEntry) (ep : Nat) :
    Walks prog w A I [I, d] [I] es.size (fun i v => ∃ e, es[i]? = some e ∧ v = e.key) (fun i h => h.IsKeyIter I d i es.size ep ∧ RawAt h d es ep) where
  sub := fun b hb => by simp at hb; simp [hb]
  frame := fun _ _ _ st hk => ⟨st.1.at fun o e => hk I (by simp) o e, st.2.keep fun o e => hk d (by simp) o e⟩
  item := fun i s Q E hi st hQ => raw_next st.1 st.2 (Array.getElem?_eq_getElem hi) fun h' hit' hs' =>
    hQ _ h' s.toks ⟨_, Array.getElem?_eq_getElem hi, rfl⟩ ⟨hit', st.2.keep fun o e => hs'.extBut d o hne e⟩ fun b o hb e => hs'.extBut b o (fun h => hb (by simp [h])) e
  done := fun s Q E st hQ => raw_end hh st.1 st.2 (Nat.le_refl _) fun h' he' => hQ h' s.toks fun b o hb e => he' b o (fun h => hb (by simp [h])) e
  self := fun _ _ _ _ st hQ => wpAny_pyIter_keyiter st.1 hQ
end
noncomputable abbrev dictO (es : Array DictEntry) (ep : Nat) : Obj := { cls := .type "dict", data := .dict es ep }
section
variable {prog : Program} {w : World} {A : Around} {E : Value → Shared → Prop} {s : Shared} {h₀ : Heap} {L : Addr} {m : Str → Option Value} {env : Env}
open LCg
/-- the comprehension's source is a dict's keys -/
noncomputable def SrcK (prog : Program) (w : World) (A : Around) (h₀ : Heap) (L : Addr) (m : Str → Option Value) (env : Env) (elt : Expr) (x : Str) (scope : Scope) (cl : List (Str × Addr)) (Fin : Shared → List Value → List (Addr × Obj) → Prop) (xv : Value) (s₁ : Shared) : Prop :=
  ∃ ax es ep news, xv = .ref ax ∧ (ax == sysModules) = false ∧ A.handled = none ∧ Fr h₀ L s₁.heap m ∧ News h₀ L s₁.heap news ∧ (ax, dictO es ep) ∈ news ∧ es.size ≤ sizeLine ∧
    ∀ g, CompRest prog w A h₀ L m env elt x scope cl { s₁ with heap := g } (fun nw => (ax, dictO es ep) ∈ nw) (fun i v => ∃ e, es[i]? = some e ∧ v = e.key) (Fin { s₁ with heap := g }) es.size 0 [] news
theorem ListComp_Keys {elt iter : Expr} {x : Str} {px : Pos} {scope : Scope} {cl : List (Str × Addr)} {pos : Pos} {Q : Value → Shared → Prop} (_F₀ : Fr h₀ L s.heap m)
    (hclos : closureFor scope env = pure cl) (hcell : ∀ y ∈ scope.names, y.2 ≠ .cell) (hkind : scope.kind = .function)
    (hnames : ∀ y ∈ scope.names, y.2 = .local → scope.names.lookup y.1 = some .local) (hx : scope.names.lookup x = some .local)
    (h : wpAny (model prog w) A (eval iter env) (SrcK prog w A h₀ L m env elt x scope cl (fun s₂ => FinE h₀ L m s₂ Q)) E s)
    (hs : ∀ x, foldedSetIterable iter env x = pure x := by intro _; rfl) :
    wpAny (model prog w) A (eval (.ListComp elt [⟨.Name x px, iter, [], 0⟩] scope pos) env) Q E s := by
  rw [eval_ListComp]
  refine wpAny_comprehension_free (use := none) rfl hs hclos hkind hnames (wpAny_mono h (fun xv s₁ h₁ => ?_) fun _ _ e => e)
  obtain ⟨ax, es, ep, news, rfl, hsys, hh, F, N, S, hsz, R⟩ := h₁
  have hl : RawAt s₁.heap ax es ep := ⟨_, (N _ S).1, ⟨rfl, rfl, rfl⟩, rfl⟩
  have hlt : ax < s₁.heap.objs.size := Heap.lt_size (N _ S).1
  refine raw_iter hsys hl ?_
  have up : ∀ (z : Obj) b o, s₁.heap.get? b = some o → (s₁.heap.push z).get? b = some o := fun _ b o e => Heap.get?_push_of_some _ e
  refine block_U (raw_walks hh s₁.heap.objs.size ax (Nat.ne_of_lt hlt) es ep) hsz (fun i h st => by obtain ⟨o, e, _⟩ := st.1; exact ⟨o, e⟩)
    (fun i h h' o nw st e e' kp N' S' => ⟨by obtain ⟨o', q, r⟩ := st.1; rw [e] at q; cases q; exact ⟨o, e', r⟩, ⟨_, (N' _ S').1, ⟨rfl, rfl, rfl⟩, rfl⟩⟩) hcell hkind hx ⟨⟨_, Heap.get?_push_size _ rfl, rfl, rfl⟩, hl.keep fun o e => up _ _ o e⟩ (fun b hb => ?_)
    (F.keeps (up _)) (N.grown (up _)) (Nat.ne_of_lt F.ns.lt) (next_is_new F) (fun p hp => Nat.ne_of_lt (Heap.lt_size (N p hp).1)) S (R _) ?_
  · show b < (s₁.heap.push _).objs.size
    rw [Heap.size_push]
    rcases List.mem_cons.mp hb with rfl | hb
    · exact Nat.lt_succ_self _
    · rw [List.mem_singleton.mp hb]; exact Nat.lt_succ_of_lt hlt
  · intro D C h tk m' ys news' F' N' o1 hn hC₀ hD₀ hCL hDL hCD offC fin
    refine ⟨m', hn, fun h'' hs'' => fin D h'' tk (F'.change hs'' hCL hC₀) (fun p hp => ?_) o1⟩
    refine ⟨hs''.extBut _ _ ?_ (N' p hp).1, (N' p hp).2⟩
    rcases List.mem_cons.mp hp with rfl | hp
    · exact Ne.symm hCD
    · exact offC p hp

/-- a new key in a dict by tuples -/
theorem tk_put {h h' : Heap} {o : Obj} {led : List (Addr × Obj)} {d T : Addr} {xs : List (K3 × Addr × Value)} {a b c : Int} {ta tb tc : Tok} {n : Nat} {v : Value} (F : Fr h₀ L h m) (N : News h₀ L h ((d, o) :: led)) (hne : ∀ p ∈ led, p.1 ≠ d) (H : TK prog w ((d, o) :: led) d xs)
    (hT : (T, tupO [.int a ta, .int b tb, .int c tc] n) ∈ led) (hnew : atK xs (a, b, c) = none)
    (hm' : h'.DictOfH (tupleKind (intKind prog w)) d (storedH (xs.map fun x => (k3 x.1, x.2)) (k3 (a, b, c)) T v)) (hs : Heap.SameBut d h h') :
    ∃ o', Fr h₀ L h' m ∧ News h₀ L h' ((d, o') :: led) ∧ TK prog w ((d, o') :: led) d (xs ++ [((a, b, c), T, v)]) := by
  have hm := N _ (List.Mem.head _)
  have hk0 : atKey (xs.map fun x => (k3 x.1, x.2)) (k3 (a, b, c)) = none := by
    have := atK_is xs (a, b, c)
    rw [hnew] at this
    cases q : atKey (xs.map fun x => (k3 x.1, x.2)) (k3 (a, b, c)) with
    | none => rfl
    | some p => rw [q] at this; cases this
  rw [storedH_new hk0] at hm'
  obtain ⟨o', es, ep, ho', hc, hdat, he, _, hnd⟩ := hm'
  refine ⟨o', F.change hs hm.2.1 hm.2.2, N.setIn (own := []) (fun _ h => nomatch h) hne hs ho', ⟨es, ep, ?_, ?_⟩, ?_, ?_, H.sys⟩
  · obtain ⟨c1, c2, c3⟩ := hc
    obtain ⟨cls, dict, data, slots⟩ := o'
    dsimp only at c1 c2 c3 hdat
    subst c1 c2 c3 hdat
    exact .head _
  · rw [he]; simp [List.map_map, Function.comp_def]
  · intro x hx
    rcases List.mem_append.mp hx with hx | hx
    · obtain ⟨t1, t2, t3, k, hk⟩ := H.keys x hx
      rcases List.mem_cons.mp hk with e | hk
      · exact absurd (congrArg (·.2.cls) e) (fun e' => by
          obtain ⟨es2, ep2, h1, _⟩ := H.obj
          have q := News.same N (.head _) h1
          rw [q] at e'
          exact absurd e' (by simp))
      · exact ⟨t1, t2, t3, k, .tail _ hk⟩
    · rw [List.mem_singleton.mp hx]
      exact ⟨ta, tb, tc, n, .tail _ hT⟩
  · have := hnd
    rw [List.map_append, List.map_map] at this
    have e : (xs ++ [((a, b, c), T, v)]).map (fun x => k3 x.1) = (xs.map ((fun x : List Int × Addr × Value => x.1) ∘ fun x : K3 × Addr × Value => (k3 x.1, x.2))) ++ ([(k3 (a, b, c), T, v)].map (·.1)) := by
      rw [List.map_append]; rfl
    rw [← e] at this
    have e2 : (xs ++ [((a, b, c), T, v)]).map (fun x => k3 x.1) = ((xs ++ [((a, b, c), T, v)]).map (·.1)).map k3 := by rw [List.map_map]; rfl
    rw [e2] at this
    exact (List.pairwise_map.mp this).imp fun h e => h (congrArg k3 e)
theorem tk_set {o : Obj} {led : List (Addr × Obj)} {d T : Addr} {xs : List (K3 × Addr × Value)} {a b c : Int} {ta tb tc : Tok} {n : Nat} {v : Value} {Q : Unit → Shared → Prop} (F : Fr h₀ L s.heap m) (N : News h₀ L s.heap ((d, o) :: led)) (hne : ∀ p ∈ led, p.1 ≠ d) (H : TK prog w ((d, o) :: led) d xs)
    (hT : (T, tupO [.int a ta, .int b tb, .int c tc] n) ∈ led) (hu : A.units + 1 < cLine) (hnew : atK xs (a, b, c) = none) (hsz : xs.length ≤ 100000)
    (h : ∀ h' o', Fr h₀ L h' m → News h₀ L h' ((d, o') :: led) → TK prog w ((d, o') :: led) d (xs ++ [((a, b, c), T, v)]) → Q () { s with heap := h', toks := s.toks + 4 }) : wpAny (model prog w) A (setItem (.ref d) (.ref T) v) Q E s := by
  refine wpAny_setItem_heap (tupleKind_room_in1 (by simpa using hu)) (isKey_of N (.tail _ hT)) (H.dictOf N) (fun h' hm' hs => ?_) (by rw [sizeLine_eq, List.length_map]; omega)
  obtain ⟨o', F', N', H'⟩ := tk_put F N hne H hT hnew hm' hs
  exact h h' o' F' N' H'
theorem tk_nil {led : List (Addr × Obj)} {d : Addr} {ep : Nat} (hd : (d, dictO #[] ep) ∈ led) (hs : (d == sysModules) = false) : TK prog w led d [] := ⟨⟨#[], ep, hd, rfl⟩, (fun _ h => nomatch h), .nil, hs⟩
end
end

section
open PySem.Calls
set_option maxRecDepth 100000
theorem law_start {h₀ h : Heap} {L p c1 c2 c3 g d nl : Addr} {led : List (Addr × Obj)} {n k : Int} {tn tk : Tok} {e n' n0 : Nat} {o1 o2 o3 : Obj} {x1 x2 x3 : Option Value} {es : List DictEntry} {nv : List Value} {ta tb : Tok} (N : News h₀ L h led)
    (hp : (p, listOf #[.int n tn, .int k tk] e) ∈ led) (h1 : (c1, o1) ∈ led) (d1 : o1.data = .cell x1) (h2 : (c2, o2) ∈ led) (d2 : o2.data = .cell x2) (h3 : (c3, o3) ∈ led) (d3 : o3.data = .cell x3)
    (h12 : c1 ≠ c2) (h13 : c1 ≠ c3) (h23 : c2 ≠ c3) (hg : (g, instObj 320 d) ∈ led) (hd : (d, dictOf es n') ∈ led) (hn : getL (Str.ofString "names") es = some (some (.ref nl))) (hnl : (nl, listOf (List.toArray nv) n0) ∈ led) (h8 : nv.length = 8)
    (ha : nv[3]? = some (.str (Str.ofString "a") ta)) (hb : nv[4]? = some (.str (Str.ofString "b") tb)) :
    ∃ base c2' c3' o2' o3' tn' tk' e', c2' = c2 ∧ c3' = c3 ∧ o2'.data = .cell x2 ∧ o3'.data = .cell x3 ∧ News h₀ L h ((p, listOf #[.int n tn', .int k tk'] e') :: (c2', o2') :: (c3', o3') :: base) ∧ (∀ q ∈ base, q.1 ≠ p) ∧ (∀ q ∈ base, q.1 ≠ c2') ∧ (∀ q ∈ base, q.1 ≠ c3') ∧ (@Ne Nat c2' p) ∧ (@Ne Nat c3' p) ∧ (@Ne Nat c2' c3') ∧ (c1, o1) ∈ base ∧ GramIn base g := by
  have cne : ∀ {a b : Addr} {o : Obj} {x : Option Value} {o' : Obj}, (a, o) ∈ led → o.data = .cell x → (b, o') ∈ led → (∀ y, o'.data ≠ .cell y) → b ≠ a := fun ha hx hb hy e => by
    subst e
    have := News.same N ha hb
    subst this
    exact hy _ hx
  have hpc : ∀ {a : Addr} {o : Obj} {x : Option Value}, (a, o) ∈ led → o.data = .cell x → a ≠ p := fun ha hx => (cne ha hx hp (fun y q => nomatch q)).symm
  have ic : ∀ {a : Addr} {o : Obj} {x : Option Value}, (a, o) ∈ led → o.data = .cell x → g ≠ a ∧ d ≠ a ∧ nl ≠ a := fun ha hx =>
    ⟨cne ha hx hg (fun y q => nomatch q), cne ha hx hd (fun y q => nomatch q), cne ha hx hnl (fun y q => nomatch q)⟩
  have hnp : nl ≠ p := fun q => by
    subst q
    have := News.same N hnl hp
    have e : nv.toArray = #[.int n tn, .int k tk] := by
      have := congrArg Obj.data this
      exact (Data.seq.inj this).1
    have := congrArg Array.size e
    simp at this
    omega
  have hgp : g ≠ p := News.apart N hg hp (by simp)
  have hdp : d ≠ p := News.apart N hd hp (by simp)
  have mem : ∀ {a : Addr} {o : Obj}, (a, o) ∈ led → a ≠ p → a ≠ c2 → a ≠ c3 → (a, o) ∈ off p (off c2 (off c3 led)) := fun h a b c => mem_off.mpr ⟨mem_off.mpr ⟨mem_off.mpr ⟨h, c⟩, b⟩, a⟩
  refine ⟨off p (off c2 (off c3 led)), c2, c3, o2, o3, tn, tk, e, rfl, rfl, d2, d3, fun q hq => ?_, off_ne, fun q hq => off_ne q (off_sub q hq), fun q hq => off_ne q (off_sub q (off_sub q hq)), hpc h2 d2, hpc h3 d3, h23, mem h1 (hpc h1 d1) h12 h13, ?_⟩
  · rcases List.mem_cons.mp hq with rfl | hq
    · exact N _ hp
    · rcases List.mem_cons.mp hq with rfl | hq
      · exact N _ h2
      · rcases List.mem_cons.mp hq with rfl | hq
        · exact N _ h3
        · exact N _ (off_sub q (off_sub q (off_sub q hq)))
  · exact ⟨d, es, n', nl, nv, n0, ta, tb, mem hg hgp (ic h2 d2).1 (ic h3 d3).1, mem hd hdp (ic h2 d2).2.1 (ic h3 d3).2.1, hn, mem hnl hnp (ic h2 d2).2.2 (ic h3 d3).2.2, ha, hb⟩
/-- the pen and what lies behind it -/
noncomputable def PenLed (p : Addr) (X : List (Addr × Obj)) (K : Int) (news : List (Addr × Obj)) : Prop := ∃ n tn k tk e, news = (p, listOf #[.int n tn, .int k tk] e) :: X ∧ 0 ≤ n ∧ 0 ≤ k ∧ k ≤ K
theorem tv_snoc (rs : List (Int × Tok)) (a : Int) (t : Tok) : tv rs ++ [.int a t] = tv (rs ++ [(a, t)]) := by simp [tv]
theorem ne3 {p I C D : Addr} {X : List (Addr × Obj)} {o oI oC oD : Obj} (hX : ∀ q ∈ X, q.1 ≠ p) (off : ∀ q ∈ (p, o) :: X, q.1 ≠ I ∧ q.1 ≠ C ∧ q.1 ≠ D) : ∀ q ∈ (I, oI) :: (C, oC) :: (D, oD) :: X, q.1 ≠ p :=
  have h := off _ (.head _)
  ne_cons (Ne.symm h.1) (ne_cons (Ne.symm h.2.1) (ne_cons (Ne.symm h.2.2) hX))
theorem sub3 {p I C D : Addr} {X : List (Addr × Obj)} {o oI oC oD : Obj} : ∀ q ∈ (p, o) :: (I, oI) :: (C, oC) :: (D, oD) :: X, q ∈ (I, oI) :: (C, oC) :: (D, oD) :: (p, o) :: X := by
  intro q hq
  simp only [List.mem_cons] at hq ⊢
  rcases hq with h | h | h | h | h <;> simp [h]
theorem sub3' {p I C D : Addr} {X : List (Addr × Obj)} {o oI oC oD : Obj} : ∀ q ∈ (I, oI) :: (C, oC) :: (D, oD) :: (p, o) :: X, q ∈ (p, o) :: (I, oI) :: (C, oC) :: (D, oD) :: X := by
  intro q hq
  simp only [List.mem_cons] at hq ⊢
  rcases hq with h | h | h | h | h <;> simp [h]
theorem off3_same {p I C D : Addr} {X : List (Addr × Obj)} {o o' : Obj} (off : ∀ q ∈ (p, o) :: X, q.1 ≠ I ∧ q.1 ≠ C ∧ q.1 ≠ D) : ∀ q ∈ (p, o') :: X, q.1 ≠ I ∧ q.1 ≠ C ∧ q.1 ≠ D := fun q hq =>
  (List.mem_cons.mp hq).elim (fun e => by rw [e]; exact off (p, o) (.head _)) fun h => off q (.tail _ h)
theorem isDict_raw {prog : Program} {w : World} {K : Type} [DecidableEq K] {knd : KeyKind prog w K} {o : Obj} (h : o.IsDictOf knd []) : ∃ ep, o = dictO #[] ep := by
  obtain ⟨es, ep, ⟨c1, c2, c3⟩, hd, _, hp, _⟩ := h
  have : es = #[] := by
    cases hq : es.toList with
    | nil => exact Array.toList_eq_nil_iff.mp hq
    | cons a r => rw [hq] at hp; cases hp
  subst this
  obtain ⟨cls, dict, data, slots⟩ := o
  dsimp only at c1 c2 c3 hd
  subst c1 c2 c3 hd
  exact ⟨ep, rfl⟩
section
variable {h₀ h : Heap} {L : Addr} {a b c d : Addr × Obj} {B : List (Addr × Obj)}
theorem third_first (N : News h₀ L h (a :: b :: c :: d :: B)) : News h₀ L h (c :: a :: b :: d :: B) := fun q hq => N q (by
  simp only [List.mem_cons] at hq ⊢
  rcases hq with h | h | h | h | h <;> simp [h])
theorem fourth_first (N : News h₀ L h (a :: b :: c :: d :: B)) : News h₀ L h (d :: a :: b :: c :: B) := fun q hq => N q (by
  simp only [List.mem_cons] at hq ⊢
  rcases hq with h | h | h | h | h <;> simp [h])
theorem arrange (N : News h₀ L h (a :: b :: c :: d :: B)) : News h₀ L h (c :: d :: a :: b :: B) := fun q hq => N q (by
  simp only [List.mem_cons] at hq ⊢
  rcases hq with h | h | h | h | h <;> simp [h])
end
end

section
open PySem.Calls
set_option maxRecDepth 100000
theorem arrangeW {h₀ h : Heap} {L : Addr} {a b c d : Addr × Obj} {B : List (Addr × Obj)} (N : News h₀ L h (a :: b :: c :: d :: B)) : ∃ W, W = b :: B ∧ News h₀ L h (c :: d :: a :: W) := ⟨_, rfl, arrange N⟩
/-- behind the three -/
theorem under3 {h₀ h : Heap} {L : Addr} {x a b c : Addr × Obj} {W : List (Addr × Obj)} (N : News h₀ L h (x :: a :: b :: c :: W)) : ∃ V, V = x :: W ∧ News h₀ L h (a :: b :: c :: V) := ⟨_, rfl, fun q hq => N q (by
  simp only [List.mem_cons] at hq ⊢
  rcases hq with h | h | h | h | h <;> simp [h])⟩
theorem third_addr {h₀ h : Heap} {L c : Addr} {a b : Addr × Obj} {o : Obj} {l : List (Addr × Obj)} (_ : News h₀ L h (a :: b :: (c, o) :: l)) : ∃ c', c' = c := ⟨c, rfl⟩
theorem tup_is {h₀ h : Heap} {L T : Addr} {led : List (Addr × Obj)} {vs : List Value} {n : Nat} (N : News h₀ L h led) (hm : (T, tupO vs n) ∈ led) : h.IsTuple T vs.toArray ∧ T ≠ L := ⟨⟨_, (N _ hm).1, rfl, n, rfl⟩, (N _ hm).2.1⟩
theorem two_at {ta tb : Tok} {i : Nat} {v : Value} (h : (#[Value.int 6 ta, Value.int 7 tb] : Array Value)[i]? = some v) : ∃ sy tsy, v = .int sy tsy ∧ sy = 6 + (i : Int) ∧ i < 2 := by
  match i, h with
  | 0, h => exact ⟨6, ta, (Option.some.inj h).symm, rfl, by decide⟩
  | 1, h => exact ⟨7, tb, (Option.some.inj h).symm, rfl, by decide⟩
  | i + 2, h => simp at h
theorem tv_size (ws : List (Int × Tok)) : (tv ws).toArray.size = ws.length := by simp [tv]
noncomputable def KeyLt (i j l : Nat) (k : K3) : Prop := 6 ≤ k.1 ∧ (k.1 < 6 + (i : Int) ∨ (k.1 = 6 + (i : Int) ∧ (k.2.1 < (j : Int) ∨ (k.2.1 = (j : Int) ∧ k.2.2 < (j : Int) + (l : Int)))))
/-- the trees made so far -/
structure TSt (prog : Program) (w : World) (D : Addr) (mid : List (Addr × Obj)) (C : Nat) (P : K3 → Prop) (od om : Obj) (n k mk : Int) (tm : Tok) (ts : TS) : Prop where
  tk : TK prog w ((D, od) :: mid) D (tx ts)
  n0 : 0 ≤ n
  k0 : 0 ≤ k
  k1 : k ≤ 13 + (C : Int)
  om : om.data = .cell (some (.int mk tm))
  m0 : 1 ≤ mk
  m1 : mk ≤ 1 + 2 * (C : Int)
  nodes : ∀ t ∈ ts, NodesAt mid t.2.2.1 t.2.2.2
  marked : Marked ts
  two : ∀ t ∈ ts, t.2.2.2.length ≤ 2
  keys : ∀ t ∈ ts, P t.1
  len : ts.length ≤ C
noncomputable def TAt (prog : Program) (w : World) (D p c3 : Addr) (W : List (Addr × Obj)) (C : Nat) (P : K3 → Prop) (news : List (Addr × Obj)) : Prop :=
  ∃ od n tn k tk e om mk tm ts mid, news = (D, od) :: (p, listOf #[.int n tn, .int k tk] e) :: (c3, om) :: (mid ++ W) ∧ TSt prog w D mid C P od om n k mk tm ts ∧ ∀ q ∈ mid, (q.1 ≠ D ∧ q.1 ≠ p ∧ q.1 ≠ c3) ∧ ∀ z ∈ W, z.1 ≠ q.1
theorem TSt.imp {prog : Program} {w : World} {D : Addr} {mid : List (Addr × Obj)} {C C' : Nat} {P P' : K3 → Prop} {od om : Obj} {n k mk : Int} {tm : Tok} {ts : TS} (h : TSt prog w D mid C P od om n k mk tm ts) (hC : C ≤ C') (hP : ∀ x, P x → P' x) : TSt prog w D mid C' P' od om n k mk tm ts :=
  ⟨h.tk, h.n0, h.k0, by have := h.k1; omega, h.om, h.m0, by have := h.m1; omega, h.nodes, h.marked, h.two, fun t ht => hP _ (h.keys t ht), Nat.le_trans h.len hC⟩
theorem tst_nil {prog : Program} {w : World} {D : Addr} {ep : Nat} {od om : Obj} {n k : Int} {tm : Tok} (hD : od = dictO #[] ep) (hs : (D == sysModules) = false) (hn : 0 ≤ n) (hk : 0 ≤ k) (hk1 : k ≤ 13) (ho : om.data = .cell (some (.int 1 tm))) : TSt prog w D [] 0 (KeyLt 0 0 0) od om n k 1 tm [] :=
  ⟨tk_nil (ep := ep) (by rw [hD]; exact .head _) hs, hn, hk, by omega, ho, by omega, by omega, (fun _ h => nomatch h), (fun _ h => nomatch h), (fun _ h => nomatch h), (fun _ h => nomatch h), Nat.le_refl _⟩
theorem keyLt_l {i j l : Nat} {x : K3} (h : KeyLt i j l x) : KeyLt i j (l + 1) x := by
  unfold KeyLt at *; omega
theorem keyLt_j {i j l : Nat} {x : K3} (h : KeyLt i j l x) : KeyLt i (j + 1) 0 x := by
  unfold KeyLt at *; omega
theorem keyLt_i {i j l : Nat} {x : K3} (h : KeyLt i j l x) : KeyLt (i + 1) 0 0 x := by
  unfold KeyLt at *; omega
theorem apart_own {W own : List (Addr × Obj)} {It src c : Addr} {o : Obj} (hW : ∀ q ∈ W, q.1 ≠ c) (hown : ∀ q ∈ own, q.1 = It ∨ q.1 = src) (hc : c ≠ It) (hs : (src, o) ∈ W) : ∀ q ∈ W ++ own, q.1 ≠ c := fun q hq =>
  (List.mem_append.mp hq).elim (hW q) fun h => (hown q h).elim (fun e => e ▸ Ne.symm hc) fun e => by rw [e]; exact hW _ hs
theorem apart_own1 {W own : List (Addr × Obj)} {It c : Addr} (hW : ∀ q ∈ W, q.1 ≠ c) (hown : ∀ q ∈ own, q.1 = It) (hc : c ≠ It) : ∀ q ∈ W ++ own, q.1 ≠ c := fun q hq =>
  (List.mem_append.mp hq).elim (hW q) fun h => by rw [hown q h]; exact Ne.symm hc
theorem mid_own {mid W own : List (Addr × Obj)} {D p c3 It : Addr} (h : ∀ q ∈ mid, (q.1 ≠ D ∧ q.1 ≠ p ∧ q.1 ≠ c3) ∧ ∀ z ∈ W, z.1 ≠ q.1) (hnit : ∀ q ∈ mid, q.1 ≠ It) (hown : ∀ z ∈ own, z.1 = It ∨ ∃ o, (z.1, o) ∈ W) :
    ∀ q ∈ mid, (q.1 ≠ D ∧ q.1 ≠ p ∧ q.1 ≠ c3) ∧ ∀ z ∈ W ++ own, z.1 ≠ q.1 := fun q hq => ⟨(h q hq).1, fun z hz => by
  rcases List.mem_append.mp hz with hz | hz
  · exact (h q hq).2 z hz
  · rcases hown z hz with e | ⟨o, ho⟩
    · rw [e]; exact (hnit q hq).symm
    · exact (h q hq).2 (z.1, o) ho⟩
/-- from the inner loop's ledger to the outer one's -/
theorem tat_out {prog : Program} {w : World} {D p c3 It : Addr} {W own : List (Addr × Obj)} {C C' : Nat} {P P' : K3 → Prop} {news : List (Addr × Obj)} (h : TAt prog w D p c3 (W ++ own) C P news) (hC : C ≤ C') (hP : ∀ x, P x → P' x) (hIt : ∃ o, (It, o) ∈ own) (hne : D ≠ It ∧ p ≠ It ∧ c3 ≠ It ∧ ∀ q ∈ W, q.1 ≠ It) :
    ∃ news', TAt prog w D p c3 W C' P' news' ∧ (∀ q ∈ news', q ∈ news) ∧ (∀ q ∈ own, q ∈ news) ∧ ∀ q ∈ news', q.1 ≠ It := by
  obtain ⟨od, n, tn, k, tk, e, om, mk, tm, ts, mid, rfl, hT, hm⟩ := h
  obtain ⟨oI, hI⟩ := hIt
  refine ⟨_, ⟨od, n, tn, k, tk, e, om, mk, tm, ts, mid, rfl, hT.imp hC hP, fun q hq => ⟨(hm q hq).1, fun z hz => (hm q hq).2 z (sub_l _ hz)⟩⟩, ?_, ?_, ?_⟩
  · intro q hq
    simp only [List.mem_cons, List.mem_append] at hq ⊢
    rcases hq with h | h | h | h | h <;> simp [h]
  · intro q hq
    simp only [List.mem_cons, List.mem_append]
    simp [hq]
  · intro q hq
    simp only [List.mem_cons, List.mem_append] at hq
    rcases hq with rfl | rfl | rfl | h | h
    · exact hne.1
    · exact hne.2.1
    · exact hne.2.2.1
    · exact ((hm q h).2 _ (sub_r _ hI)).symm
    · exact hne.2.2.2 q h
end

section
open PySem.Calls
set_option maxRecDepth 100000
theorem swap12 {h₀ h : Heap} {L : Addr} {a b : Addr × Obj} {W : List (Addr × Obj)} (N : News h₀ L h (a :: b :: W)) : News h₀ L h (b :: a :: W) := fun q hq => N q (by
  simp only [List.mem_cons] at hq ⊢
  rcases hq with h | h | h <;> simp [h])
theorem tst_skip {prog : Program} {w : World} {D : Addr} {mid : List (Addr × Obj)} {C : Nat} {P P' : K3 → Prop} {od om : Obj} {n k mk n2 : Int} {tm : Tok} {ts : TS} (h : TSt prog w D mid C P od om n k mk tm ts) (hn : 0 ≤ n2) (hP : ∀ x, P x → P' x) : TSt prog w D mid (C + 1) P' od om n2 (k + 1) mk tm ts :=
  ⟨h.tk, hn, by have := h.k0; omega, by have := h.k1; omega, h.om, h.m0, by have := h.m1; omega, h.nodes, h.marked, h.two, fun t ht => hP _ (h.keys t ht), Nat.le_trans h.len (Nat.le_succ _)⟩
theorem turn_ne {D p c3 It : Addr} {od od' o1 o1' om om' : Obj} {mid mid' V : List (Addr × Obj)} (hnit : ∀ q ∈ (D, od) :: (p, o1) :: (c3, om) :: (mid ++ V), q.1 ≠ It) (hm : ∀ q ∈ mid', q ∈ mid ∨ q.1 ≠ It) : ∀ q ∈ (D, od') :: (p, o1') :: (c3, om') :: (mid' ++ V), q.1 ≠ It := by
  intro q hq
  simp only [List.mem_cons, List.mem_append] at hq
  rcases hq with rfl | rfl | rfl | h | h
  · exact hnit (D, od) (.head _)
  · exact hnit (p, o1) (.tail _ (.head _))
  · exact hnit (c3, om) (.tail _ (.tail _ (.head _)))
  · rcases hm q h with h | h
    · exact hnit q (.tail _ (.tail _ (.tail _ (sub_l _ h))))
    · exact h
  · exact hnit q (.tail _ (.tail _ (.tail _ (sub_r _ h))))
noncomputable def mkN (mk : Int) (j : Nat) : List Node := (List.range j).map fun (i : Nat) => Node.tree (mk + i)
theorem mkN_succ (mk : Int) (j : Nat) : mkN mk (j + 1) = mkN mk j ++ [.tree (mk + j)] := by simp [mkN, List.range_succ]
theorem mkN_length (mk : Int) (j : Nat) : (mkN mk j).length = j := by simp [mkN]
theorem mkN_marked {mk : Int} {j : Nat} (h0 : 0 ≤ mk) (h1 : mk + j ≤ 1000) : ∀ nd ∈ mkN mk j, ∃ k : Int, nd = .tree k ∧ 0 ≤ k ∧ k ≤ 1000 := by
  intro nd hnd
  obtain ⟨i, hi, rfl⟩ := List.mem_map.mp hnd
  have := List.mem_range.mp hi
  exact ⟨_, rfl, by omega, by omega⟩
theorem Paired.monoNodes {led led' : List (Addr × Obj)} (hs : ∀ p ∈ led, p ∈ led') {vs : List Value} {ns : List Node} (h : Paired (NodeIn led) vs ns) : Paired (NodeIn led') vs ns := Paired.imp (fun _ _ => NodeIn.monoNL fun p hp _ => hs p hp) h
end

section
open PySem.Calls
set_option maxRecDepth 100000
section
variable {prog : Program} {w : World} {h₀ h : Heap} {L D p c3 T Dl : Addr}
theorem third3 {a b c : Addr × Obj} {B : List (Addr × Obj)} (N : News h₀ L h (a :: b :: c :: B)) : News h₀ L h (c :: a :: b :: B) := fun q hq => N q (by
  simp only [List.mem_cons] at hq ⊢
  rcases hq with h | h | h | h <;> simp [h])
theorem third3' {a b c : Addr × Obj} {B : List (Addr × Obj)} (N : News h₀ L h (c :: a :: b :: B)) : News h₀ L h (a :: b :: c :: B) := fun q hq => N q (by
  simp only [List.mem_cons] at hq ⊢
  rcases hq with h | h | h | h <;> simp [h])
theorem yes_led {oT oL od op om : Obj} {new M4 Z : List (Addr × Obj)} (hZ : Z = (p, op) :: (D, od) :: (c3, om) :: M4) (N : News h₀ L h ((T, oT) :: (Dl, oL) :: (new ++ Z))) (hT : ∀ q ∈ (Dl, oL) :: (new ++ Z), q.1 < T) (hDl : ∀ q ∈ new ++ Z, q.1 ≠ Dl) (hnw : ∀ q ∈ new, ∀ z ∈ Z, z.1 ≠ q.1)
    (mD : ∀ q ∈ M4, q.1 ≠ D) (mp : ∀ q ∈ M4, q.1 ≠ p) (m3 : ∀ q ∈ M4, q.1 ≠ c3) :
    ∃ R, R = (T, oT) :: (Dl, oL) :: (new ++ M4) ∧ News h₀ L h ((D, od) :: (p, op) :: (c3, om) :: R) ∧ (∀ q ∈ R, q.1 ≠ D) ∧ (∀ q ∈ R, q.1 ≠ p) ∧ (∀ q ∈ R, q.1 ≠ c3) ∧ (∀ q ∈ (T, oT) :: (Dl, oL) :: new, ∀ z ∈ M4, z.1 ≠ q.1) := by
  have zp : (p, op) ∈ Z := hZ ▸ .head _
  have zD : (D, od) ∈ Z := hZ ▸ .tail _ (.head _)
  have z3 : (c3, om) ∈ Z := hZ ▸ .tail _ (.tail _ (.head _))
  have zM : ∀ q ∈ M4, q ∈ Z := hZ ▸ fun q hq => .tail _ (.tail _ (.tail _ hq))
  have f : ∀ {a : Addr} {o : Obj}, (a, o) ∈ Z → (∀ q ∈ M4, q.1 ≠ a) → ∀ q ∈ (T, oT) :: (Dl, oL) :: (new ++ M4), q.1 ≠ a := fun {a o} ha hm q hq => by
    simp only [List.mem_cons, List.mem_append] at hq
    rcases hq with rfl | rfl | hq | hq
    · exact Nat.ne_of_gt (hT (a, o) (.tail _ (sub_r _ ha)))
    · exact (hDl (a, o) (sub_r _ ha)).symm
    · exact (hnw q hq (a, o) ha).symm
    · exact hm q hq
  refine ⟨_, rfl, fun q hq => N q ?_, f zD mD, f zp mp, f z3 m3, ?_⟩
  · simp only [List.mem_cons, List.mem_append] at hq ⊢
    rcases hq with rfl | rfl | rfl | rfl | rfl | hq | hq
    · simp [zD]
    · simp [zp]
    · simp [z3]
    · simp
    · simp
    · simp [hq]
    · simp [zM q hq]
  · intro q hq z hz
    simp only [List.mem_cons] at hq
    rcases hq with rfl | rfl | hq
    · exact Nat.ne_of_lt (hT z (.tail _ (sub_r _ (zM z hz))))
    · exact hDl z (sub_r _ (zM z hz))
    · exact hnw q hq z (zM z hz)
theorem tk_restrict {xs : List (K3 × Addr × Value)} {led mid mid' : List (Addr × Obj)} {o' od : Obj} {a b c : Int} {ta tb tc : Tok} {n : Nat} {v : Value} (N : News h₀ L h ((D, o') :: led)) (H' : TK prog w ((D, o') :: led) D (xs ++ [((a, b, c), T, v)])) (H : TK prog w ((D, od) :: mid) D xs) (hm : ∀ q ∈ mid, q.1 ≠ D ∧ q ∈ mid')
    (hT : (T, tupO [.int a ta, .int b tb, .int c tc] n) ∈ mid') : TK prog w ((D, o') :: mid') D (xs ++ [((a, b, c), T, v)]) := by
  obtain ⟨es, ep, h1, h2⟩ := H'.obj
  have e := News.same N (.head _) h1
  refine ⟨⟨es, ep, by rw [e]; exact .head _, h2⟩, ?_, H'.nodup, H'.sys⟩
  intro x hx
  rcases List.mem_append.mp hx with hx | hx
  · obtain ⟨t1, t2, t3, k, hk⟩ := H.keys x hx
    refine ⟨t1, t2, t3, k, ?_⟩
    rcases List.mem_cons.mp hk with hk | hk
    · exfalso
      obtain ⟨es', ep', g1, _⟩ := H.obj
      rcases List.mem_cons.mp g1 with g1 | g1
      · have q1 := congrArg (·.2.cls) hk
        have q2 := congrArg (·.2.cls) g1
        rw [← q1] at q2
        exact absurd q2 (by simp)
      · exact (hm _ g1).1 rfl
    · exact .tail _ (hm _ hk).2
  · rw [List.mem_singleton.mp hx]
    exact ⟨ta, tb, tc, n, .tail _ hT⟩
theorem atK_none {ts : TS} {k : K3} (h : ∀ t ∈ ts, t.1 ≠ k) : atK (tx ts) k = none := by
  unfold atK
  rw [Option.map_eq_none_iff, List.find?_eq_none]
  intro x hx e
  obtain ⟨t, ht, rfl⟩ := List.mem_map.mp hx
  exact h t ht (of_decide_eq_true e)
theorem tst_add {mid mid' : List (Addr × Obj)} {C : Nat} {P P' : K3 → Prop} {od om o' om' : Obj} {n k mk n2 d : Int} {tm tm' : Tok} {ts : TS} {key : K3} (h : TSt prog w D mid C P od om n k mk tm ts) (hTK : TK prog w ((D, o') :: mid') D (tx ts ++ [(key, T, .ref Dl)])) (hmm : ∀ q ∈ mid, q ∈ mid') (hn2 : 0 ≤ n2)
    (hom : om'.data = .cell (some (.int (mk + d) tm'))) (hd : 0 < d) (hd3 : d < 3) (hC : C ≤ 400) (hnodes : NodesAt mid' Dl (mkN mk d.toNat)) (hP : ∀ x, P x → P' x) (hkey : P' key) :
    TSt prog w D mid' (C + 1) P' o' om' n2 (k + 1) (mk + d) tm' (ts ++ [(key, T, Dl, mkN mk d.toNat)]) := by
  have h1 := h.m1
  have h0 := h.m0
  have hk0 := h.k0
  have hk1 := h.k1
  have split : ∀ {Q : (K3 × Addr × Addr × List Node) → Prop}, (∀ t ∈ ts, Q t) → Q (key, T, Dl, mkN mk d.toNat) → ∀ t ∈ ts ++ [(key, T, Dl, mkN mk d.toNat)], Q t := fun ha hb t ht => (List.mem_append.mp ht).elim (ha t) fun e => by rw [List.mem_singleton.mp e]; exact hb
  refine ⟨by simpa [tx] using hTK, hn2, by omega, by omega, hom, by omega, by omega, split (fun t ht => (h.nodes t ht).mono hmm) hnodes, split h.marked (mkN_marked (by omega) (by omega)), split h.two (by rw [mkN_length]; omega), split (fun t ht => hP _ (h.keys t ht)) hkey, ?_⟩
  have := h.len
  simp; omega
theorem key_new {i j l : Nat} {sy : Int} (hs : sy = 6 + (i : Int)) : KeyLt i j (l + 1) (sy, (j : Int), (j : Int) + (l : Int)) := by
  unfold KeyLt; dsimp only; omega
theorem key_fresh {i j l : Nat} {sy : Int} {x : K3} (hs : sy = 6 + (i : Int)) (h : KeyLt i j l x) : x ≠ (sy, (j : Int), (j : Int) + (l : Int)) := by
  rintro rfl
  unfold KeyLt at h; dsimp only at h; omega
end
end

section
open PySem.Calls
set_option maxRecDepth 100000
theorem room_mono {A : Around} {d d' : Nat} (R : Room A d) (h : d' ≤ d) : Room A d' := ⟨R.handled, by have := R.depth; omega, by have := R.units; omega⟩
theorem arrangeV {h₀ h : Heap} {L : Addr} {a b c d : Addr × Obj} {B : List (Addr × Obj)} (N : News h₀ L h (a :: b :: c :: d :: B)) : ∃ W, W = c :: B ∧ News h₀ L h (a :: b :: d :: W) := ⟨_, rfl, fun q hq => N q (by
  simp only [List.mem_cons] at hq ⊢
  rcases hq with h | h | h | h | h <;> simp [h])⟩
end

section
open PySem.Calls
set_option maxRecDepth 100000
theorem list_no_keys : typeLookup (.type "list") "keys" = pure none := am_miss_of_fast (by kernel_rfl)
theorem getAttrQ_list {prog : Program} {w : World} {A : Around} {E : Value → Shared → Prop} {s : Shared} {a : Addr} {o : Obj} {xs : Array Value} {k : Nat} {Q : Option Value → Shared → Prop}
    (hx : s.heap.get? a = some o) (hc : o.cls = .type "list") (hdat : o.data = .seq xs k) (hd : o.dict = none) (hA : A.handled = none)
    (h : ∀ h' tk, (∀ b ob, s.heap.get? b = some ob → h'.get? b = some ob) → Q none { s with heap := h', toks := tk }) :
    wpAny (model prog w) A (getAttr? (.ref a) "keys") Q E s := by
  obtain ⟨c, dct, dat, sl⟩ := o
  simp only at hc hdat hd
  subst hc hdat hd
  obtain ⟨hp, g, d, tk, os⟩ := s
  have hT : ∀ tk', (⟨hp, g, d, tk', os⟩ : Shared).TypeIs (.ref a) "list" := fun _ => ⟨_, hx, rfl⟩
  have f1 := sub_AttributeError
  have f3 := F.slot_list_getattribute.lookup
  have f4 := F.slot_list_getattribute.bind (.ref a)
  have f5 := am_list_getattr_none
  unfold getAttr? getAttrBy? getAttrBy
  repeat (any_goals (first | assumption | exact hT _ | ((with_reducible show wpAny _ _ (call (Value.builtin "list.__getattribute__") _ _) _ _ _); refine call_meets F.slot_list_getattribute (hT _) am_entry_list_getattribute (F.args_list_getattribute_2 _ _) (meets_getattribute_miss_list a xs k sl _ _ list_no_keys (by decide)) ⟨hx, hA, fun h' tk' e hx' => ?_⟩) | wp_step))
  obtain ⟨t', u', he⟩ := hx'.there
  show wpAny _ _ (getattributeRaised _ _ _ _ _ _ _) _ _ _
  unfold getattributeRaised
  repeat (any_goals (first | assumption | wp_step))
  exact h _ _ hx'.keeps
theorem plain_pairs : plainId "dict.update.loop" = true := by decide +kernel
theorem entry_pairs : entryFor table "dict.update.loop" = some Builtin.«dict.update.loop» := entryFor_of_fast (by kernel_rfl)
section
variable {prog : Program} {w : World} {A : Around} {h₀ : Heap} {L D I l : Addr} {m : Str → Option Value} {led : List (Addr × Obj)} {R : Result → Shared → Prop}
theorem pairs_loop {items : Array Value} {nl : Nat} {xs : List (K3 × Addr × Value)} (hh : A.handled = none) (hu : A.units + 3 < cLine) (hlI : l ≠ I) (hIL : L ≠ I) (hI0 : h₀.get? I = none) (hIl : ∀ p ∈ led, p.1 ≠ I) (hDI : D ≠ I) (hne : ∀ p ∈ led, p.1 ≠ D) (hl : (l, listOf items nl) ∈ led)
    (hxl : xs.length = items.size) (hsz : xs.length ≤ 1000) (hp : ∀ (j : Nat) (v : Value), items[j]? = some v → ∃ x P n, xs[j]? = some x ∧ v = .ref P ∧ (P, tupO [.ref x.2.1, x.2.2] n) ∈ led)
    (hk : ∀ x ∈ xs, ∃ t1 t2 t3 n, (x.2.1, tupO [.int x.1.1 t1, .int x.1.2.1 t2, .int x.1.2.2 t3] n) ∈ led) (hnd : (xs.map (·.1)).Nodup) :
    ∀ (k i : Nat) (s : Shared) (o : Obj), i + k = items.size → s.heap.IsListIter I l i → Fr h₀ L s.heap m → News h₀ L s.heap ((D, o) :: led) → TK prog w ((D, o) :: led) D (xs.take i) →
      (∀ h' tk o', Fr h₀ L h' m → News h₀ L h' ((D, o') :: led) → TK prog w ((D, o') :: led) D xs → R (.ok (.ret .none)) { s with heap := h', toks := tk }) →
      codeAny (model prog w) A (.builtin "dict.update.loop" ⟨[.ref D, .ref I, rawInt i, .none], []⟩) R s := by
  have W := Walks.list (prog := prog) (w := w) (A := A.in1) hh I l hlI items
  have off : ∀ o, ∀ p ∈ (D, o) :: led, p.1 ≠ I := fun o => ne_cons hDI hIl
  intro k
  induction k with
  | zero =>
    intro i s o hi hit F N H fin
    have hin : i = items.size := by omega
    subst hin
    refine codeAny_builtin entry_pairs ?_
    rw [Around.under_plainId plain_pairs _]
    show wpAny _ A.in1 (pyNext (.ref I) >>= _) _ _ s
    refine wpAny_bind (W.done s _ _ ⟨hit, News.isList N (.tail _ hl)⟩ fun h' tk hk' => ?_)
    show wpAny _ _ (Builtin.Dict.addKeywords D [] >>= _) _ _ _
    refine wpAny_bind (wpAny_pure (wpAny_pure ?_))
    refine fin h' tk o (LCg.fr_but F hk' hIL hI0) (LCg.news_but N hk' (off o)) ?_
    rw [List.take_of_length_le (by omega)] at H
    exact H
  | succ k ih =>
    intro i s o hi hit F N H fin
    have hlt : i < items.size := by omega
    refine codeAny_builtin entry_pairs ?_
    rw [Around.under_plainId plain_pairs _]
    show wpAny _ A.in1 (pyNext (.ref I) >>= _) _ _ s
    refine wpAny_bind (W.item i s _ _ hlt ⟨hit, News.isList N (.tail _ hl)⟩ fun v h' tk hP hst' hk' => ?_)
    obtain ⟨x, P, n, hx, rfl, hPm⟩ := hp i v hP
    obtain ⟨t1, t2, t3, n1, hkm⟩ := hk x (List.mem_of_getElem? hx)
    have F' := LCg.fr_but F hk' hIL hI0
    have N' := LCg.news_but N hk' (off o)
    refine wpAny_bind (wpAny_holding ?_)
    refine wpAny_bind (wpAny_tryCatch ?_)
    unfold Builtin.Dict.pairItems
    refine wpAny_bind (wpAny_typeOf ⟨_, (N' _ (.tail _ hPm)).1, rfl⟩ ?_)
    rw [if_pos (by decide)]
    refine wpAny_bind (wpAny_seqItems (N' _ (.tail _ hPm)).1 rfl ?_)
    refine wpAny_pure ?_
    show wpAny _ _ (holding [Value.ref x.2.1, x.2.2] (dictSet D (.ref x.2.1) x.2.2)) _ _ _
    refine wpAny_holding ?_
    have hnew : atK (xs.take i) x.1 = none := by
      unfold atK
      rw [Option.map_eq_none_iff, List.find?_eq_none]
      intro y hy e
      obtain ⟨j, hj⟩ := List.mem_iff_getElem?.mp hy
      have hji : j < i := by
        have := (List.getElem?_eq_some_iff.mp hj).1
        rw [List.length_take] at this; omega
      rw [List.getElem?_take_of_lt hji] at hj
      have e1 : (xs.map (·.1))[j]? = some y.1 := by rw [List.getElem?_map, hj]; rfl
      have e2 : (xs.map (·.1))[i]? = some x.1 := by rw [List.getElem?_map, hx]; rfl
      have e3 : y.1 = x.1 := of_decide_eq_true e
      rw [e3] at e1
      have := (List.getElem?_inj (List.getElem?_eq_some_iff.mp e1).1 hnd).mp (e1.trans e2.symm)
      omega
    refine wpAny_dictSet_heap (tupleKind_room_in1 (by simpa using Nat.lt_of_le_of_lt (by omega) hu)) (isKey_of N' (.tail _ hkm)) (H.dictOf N') (fun h2 hm2 hs2 => ?_) (by rw [sizeLine_eq, List.length_map, List.length_take]; omega)
    obtain ⟨o2, F2, N2, H2⟩ := tk_put F' N' hne H hkm hnew hm2 hs2
    refine wpAny_pure ⟨plainId_quiet plain_pairs _, ?_⟩
    refine ih (i + 1) _ o2 (by omega) ?_ F2 N2 ?_ fin
    · obtain ⟨oi, hoi, r⟩ := hst'.1
      exact ⟨oi, hs2.extBut _ _ (Ne.symm hDI) hoi, r⟩
    · rw [List.take_add_one, hx]
      exact H2
theorem dict_pairs {E : Value → Shared → Prop} {s : Shared} {Q : Value → Shared → Prop} {items : Array Value} {nl : Nat} {xs : List (K3 × Addr × Value)} (hh : A.handled = none) (hu : A.units + 10 < cLine) (F : Fr h₀ L s.heap m) (N : News h₀ L s.heap led) (hbig : h₀.NoLimit) (hl : (l, listOf items nl) ∈ led)
    (hxl : xs.length = items.size) (hsz : xs.length ≤ 1000) (hp : ∀ (j : Nat) (v : Value), items[j]? = some v → ∃ x P n, xs[j]? = some x ∧ v = .ref P ∧ (P, tupO [.ref x.2.1, x.2.2] n) ∈ led)
    (hk : ∀ x ∈ xs, ∃ t1 t2 t3 n, (x.2.1, tupO [.int x.1.1 t1, .int x.1.2.1 t2, .int x.1.2.2 t3] n) ∈ led) (hnd : (xs.map (·.1)).Nodup)
    (h : ∀ d o h' tk, Fr h₀ L h' m → News h₀ L h' ((d, o) :: led) → (∀ p ∈ led, p.1 ≠ d) → TK prog w ((d, o) :: led) d xs → Q (.ref d) { s with heap := h', toks := tk }) :
    wpAny (model prog w) A (call (.type "dict") [.ref l]) Q E s := by
  refine callType_codes (Q₁ := fun obj s₁ => obj = .ref s.heap.objs.size ∧ s₁ = { s with heap := s.heap.push { cls := .type "dict", data := .dict #[] } }) PySem.F.kt_called_dict (PySem.F.kt_typeCall_dict_1 _) PySem.F.entry_dict_init (kt_code_dict_new _ ⟨rfl, rfl⟩) ?_
  rintro obj s₁ ⟨rfl, rfl⟩
  have F1 : Fr h₀ L (s.heap.push (dictO #[] 0)) m := F.push _
  have N1 : News h₀ L (s.heap.push (dictO #[] 0)) ((s.heap.objs.size, dictO #[] 0) :: led) := News.push F N _
  have hlow : (s.heap.objs.size == sysModules) = false := F.notModules (modules_low hbig)
  have hne : ∀ p ∈ led, p.1 ≠ s.heap.objs.size := N.apart
  have hT : ({ s with heap := s.heap.push (dictO #[] 0) } : Shared).TypeIs (.ref s.heap.objs.size) "dict" := ⟨_, (N1 _ (.head _)).1, rfl⟩
  generalize hD : s.heap.objs.size = D at N1 hlow hne hT
  generalize hG : s.heap.push (dictO #[] 0) = g at F1 N1 hT
  refine ⟨hT, PySem.F.args_dict_init_2 _ _, ?_⟩
  unfold Builtin.«dict.__init__»
  refine wpAny_bind ?_
  unfold Builtin.Dict.selfAndRest
  refine wpAny_bind (wpAny_notOrdered_dict hT ?_)
  show wpAny _ _ (pure (D, [Value.ref l])) _ _ _
  refine wpAny_pure ?_
  show wpAny _ _ (Builtin.Dict.updateFrom "dict.__init__" D (.ref l) [] .none) _ _ _
  unfold Builtin.Dict.updateFrom
  refine wpAny_bind (wpAny_typeOf (News.isList N1 (.tail _ hl)).typeIs ?_)
  rw [if_pos (by decide)]
  refine wpAny_bind (getAttrQ_list (N1 _ (.tail _ hl)).1 rfl rfl rfl hh fun h2 tk2 k2 => ?_)
  simp only [Option.isNone_none, if_true]
  refine wpAny_bind (wpAny_rule ?_)
  have F2 : Fr h₀ L h2 m := F1.keeps k2
  have N2 : News h₀ L h2 ((D, dictO #[] 0) :: led) := fun p hp => ⟨k2 _ _ (N1 p hp).1, (N1 p hp).2⟩
  refine wpAny_bind (wpAny_pyIter_list (News.isList N2 (.tail _ hl)) ?_)
  refine wpAny_pure ⟨plainId_quiet plain_pairs _, ?_⟩
  have up : ∀ (z : Obj) b o, h2.get? b = some o → (h2.push z).get? b = some o := fun _ b o e => Heap.get?_push_of_some _ e
  have lt : ∀ p ∈ (D, dictO #[] 0) :: led, p.1 ≠ h2.objs.size := fun p hp => Nat.ne_of_lt (Heap.lt_size (N2 p hp).1)
  exact pairs_loop (A := A.in1) (I := h2.objs.size) hh (by simp only [Around.in1_units]; omega) (lt _ (.tail _ hl)) (Nat.ne_of_lt F2.ns.lt) (next_is_new F2) (fun p hp => lt p (.tail _ hp)) (lt _ (.head _)) hne hl hxl hsz hp hk hnd
    items.size 0 _ (dictO #[] 0) (Nat.zero_add _) ⟨_, Heap.get?_push_size _ rfl, rfl, rfl⟩ (F2.keeps (up _)) (fun p hp => ⟨up _ _ _ (N2 p hp).1, (N2 p hp).2⟩) (tk_nil (.head _) hlow)
    fun h' tk o' F' N' H' => ⟨rfl, h D o' h' tk F' N' hne H'⟩
end
end

section
open PySem.Calls
set_option maxRecDepth 100000
section
variable {prog : Program} {w : World} {A : Around} {E : Value → Shared → Prop} {s : Shared} {h₀ : Heap} {L a b : Addr} {led : List (Addr × Obj)}
theorem ci_get {ka kb : List (K3 × Addr × Int × Tok)} (hs : ci ka = ci kb) {i : Nat} {x : K3 × Addr × Int × Tok} (hx : ka[i]? = some x) : ∃ y, kb[i]? = some y ∧ y.1 = x.1 ∧ y.2.2.1 = x.2.2.1 := by
  have h1 : (ci ka)[i]? = some (x.1, x.2.2.1) := by simp [ci, hx]
  rw [hs] at h1
  simp only [ci, List.getElem?_map] at h1
  cases q : kb[i]? with
  | none => rw [q] at h1; cases h1
  | some y =>
    rw [q] at h1
    have := Option.some.inj h1
    exact ⟨y, rfl, congrArg (·.1) this, congrArg (·.2) this⟩
theorem tk_same {nm : String} {ka kb : List (K3 × Addr × Int × Tok)} {Q : Bool → Shared → Prop} (N : News h₀ L s.heap led) (Ha : TK prog w led a (cx ka)) (Hb : TK prog w led b (cx kb)) (hs : ci ka = ci kb) (hu : A.units < cLine) (h : Q true s) :
    wpAny (model prog w) A (Builtin.Dict.samePairs nm a b) Q E s := by
  obtain ⟨oa, es, ep, hoa, _, hda, hea, hia, hna⟩ := Ha.dictOf N
  obtain ⟨ob, es', ep', hob, _, hdb, heb, hib, hnb⟩ := Hb.dictOf N
  have hlen : ka.length = kb.length := by have := congrArg List.length hs; simpa [ci] using this
  have hla : es.size = ka.length := by rw [size_of_entries hea]; simp [cx]
  have hlb : es'.size = kb.length := by rw [size_of_entries heb]; simp [cx]
  unfold Builtin.Dict.samePairs Builtin.Dict.showsAll
  rw [if_neg (show ¬ (a == sysModules) = true by rw [Ha.sys]; exact Bool.false_ne_true), if_neg (show ¬ (b == sysModules) = true by rw [Hb.sys]; exact Bool.false_ne_true)]
  refine wpAny_bind (wpAny_pure (wpAny_bind (wpAny_pure ?_)))
  refine wpAny_bind (wpAny_dictEntries hoa hda ?_)
  dsimp only
  refine wpAny_bind (wpAny_dictEntries hob hdb ?_)
  rw [if_neg (by rw [hla, hlb, hlen]; simp)]
  refine wpAny_bind (wpAny_dictEpoch hoa hda ?_)
  refine wpAny_bind ?_
  rw [Std.Legacy.Range.forIn_eq_forIn_range']
  simp only [Std.Legacy.Range.size, Nat.sub_zero, Nat.add_sub_cancel, Nat.div_one]
  refine wpAny_forIn_list _ (fun rest q s' => s' = s ∧ q = (none, ()) ∧ ∃ i, rest = List.range' i (es.size - i) ∧ i ≤ es.size) _ ?_ ?_ _ _ ⟨rfl, rfl, 0, by simp, Nat.zero_le _⟩
  · rintro x rest q s' ⟨rfl, rfl, i, hr, hi⟩
    have hlt : i < es.size := by
      rcases Nat.lt_or_ge i es.size with h | h
      · exact h
      · rw [Nat.sub_eq_zero_of_le h] at hr; simp at hr
    obtain ⟨rfl, hrest⟩ : x = i ∧ rest = List.range' (i + 1) (es.size - (i + 1)) := by
      have e : es.size - i = (es.size - (i + 1)) + 1 := by omega
      rw [e, List.range'_succ] at hr
      injection hr with h1 h2
      exact ⟨h1, h2⟩
    have hx' : x < ka.length := by omega
    obtain ⟨⟨k, T, n, t⟩, hk⟩ : ∃ c, ka[x]? = some c := ⟨_, List.getElem?_eq_getElem hx'⟩
    obtain ⟨⟨k', T', n', t'⟩, hk', e1, e2⟩ := ci_get hs hk
    dsimp only at e1 e2
    subst e1 e2
    have gx : ((cx ka).map fun x => (k3 x.1, x.2))[x]? = some (k3 k', T, Value.int n' t) := by simp [cx, hk]
    have gy : ((cx kb).map fun x => (k3 x.1, x.2))[x]? = some (k3 k', T', Value.int n' t') := by simp [cx, hk']
    refine wpAny_bind (wpAny_dictEntries hoa hda ?_)
    rw [entry_at hea x, gx]
    show wpAny _ _ (holding [Value.ref T, Value.int n' t] _ >>= _) _ _ _
    refine wpAny_bind (wpAny_holding (wpAny_bind (wpAny_dictFind_heap (knd := tupleKind (intKind prog w)) hu (hia _ (List.mem_of_getElem? gx)) hob hdb heb hib hnb (fun hno => absurd gy (hno x _)) fun j p hj => ?_)))
    have hjx : j = x := idxH_unique hnb hj gy
    subst hjx
    rw [gy] at hj
    cases hj
    refine wpAny_bind (wpAny_dictEntries hob hdb ?_)
    rw [entry_at heb j, gy]
    refine wpAny_holding (keq_flat (.int n' t) (.int n' t') prog w _ _ ?_)
    have e : PyData.eqv (.int n') (.int n') = true := by simp [PyData.eqv]
    rw [e]
    show wpAny _ _ (if (!true) = true then _ else _) _ _ _
    rw [if_neg (by decide)]
    refine wpAny_bind (wpAny_dictEpoch hoa hda ?_)
    rw [if_neg (by simp)]
    exact wpAny_pure ⟨rfl, rfl, j + 1, hrest, hlt⟩
  · rintro q s' ⟨rfl, rfl, i, hr, hi⟩
    exact wpAny_pure h
theorem tk_eq {ka kb : List (K3 × Addr × Int × Tok)} {Q : Value → Shared → Prop} (N : News h₀ L s.heap led) (Ha : TK prog w led a (cx ka)) (Hb : TK prog w led b (cx kb)) (hs : ci ka = ci kb) (hu : A.units + 1 < cLine) (h : Q (.bool true) s) :
    wpAny (model prog w) A (compareOp .Eq (.ref a) (.ref b)) Q E s := by
  have da := Ha.dictOf N
  have db := Hb.dictOf N
  refine wpAny_richCompare_same_room (op := .Eq) da.typeIs db.typeIs PySem.F.slot_dict_eq (wpAny_call_entry PySem.F.slot_dict_eq da.typeIs PySem.F.entry_dict_eq ?_ (PySem.F.args_dict_eq_2 _ _)) (Nat.lt_of_succ_lt hu)
  show wpAny _ _ (Builtin.Dict.dictSlotArgs "__eq__" ⟨[.ref a, .ref b], []⟩ >>= _) _ _ s
  refine wpAny_bind ?_
  unfold Builtin.Dict.dictSlotArgs
  refine wpAny_bind (wpAny_notOrdered_dict da.typeIs ?_)
  show wpAny _ _ (pure (Value.ref a, Value.ref b)) _ _ s
  refine wpAny_pure ?_
  refine wpAny_bind (wpAny_isInstance (T := "dict") db.typeIs PySem.F.sub_dict_dict ?_)
  simp only [Bool.not_true, Bool.false_eq_true, if_false]
  refine wpAny_bind (wpAny_pure (wpAny_bind (wpAny_pure ?_)))
  refine wpAny_bind (tk_same N Ha Hb hs (by simpa using hu) ?_)
  refine wpAny_pure ⟨_, rfl, ?_, ?_⟩
  · exact fun x => nomatch x
  · simpa using h
end
end

section
open PySem.Calls
set_option maxRecDepth 100000
noncomputable def NodeOk (nd : Node) : Prop := ∀ k : Int, nd = .tree k → 0 ≤ k ∧ k ≤ 1000
theorem optN_ok {ts : TS} (h : Marked ts) (word : List Int) (sy b e : Int) : ∀ nd ∈ optN (tP ts) word sy b e, NodeOk nd := by
  intro nd hnd k hk
  unfold optN at hnd
  split at hnd
  · split at hnd
    · rw [List.mem_singleton.mp hnd] at hk; cases hk
    · cases hnd
  · cases q : tP ts (sy, b, e) with
    | none => rw [q] at hnd; cases hnd
    | some ns =>
      rw [q] at hnd
      obtain ⟨k', e1, h1⟩ := marked_tP h q nd hnd
      rw [e1] at hk
      cases hk
      exact h1
theorem covN_ok {ts : TS} (h : Marked ts) (word : List Int) : ∀ (rev : List Int) (b e : Int), ∀ row ∈ covN (tP ts) word rev b e, ∀ nd ∈ row, NodeOk nd
  | [], b, e => by
    rw [covN]; split
    · intro x hx; rw [List.mem_singleton.mp hx]; intro nd hnd; cases hnd
    · intro x hx; cases hx
  | sy :: rest, b, e => by
    rw [covN]
    intro x hx nd hnd
    obtain ⟨i, _, hx⟩ := List.mem_flatMap.mp hx
    obtain ⟨a, ha, hx⟩ := List.mem_flatMap.mp hx
    obtain ⟨o, ho, rfl⟩ := List.mem_map.mp hx
    rcases List.mem_append.mp hnd with hnd | hnd
    · exact covN_ok h word rest _ _ a ha nd hnd
    · rw [List.mem_singleton.mp hnd]
      exact optN_ok h word _ _ _ o ho
theorem tP_none {ts : TS} (h : ∀ t ∈ ts, 6 ≤ t.1.1) : ∀ k : K3, k.1 < 5 → tP ts k = none := by
  intro k hk
  unfold tP
  rw [Option.map_eq_none_iff, List.find?_eq_none]
  intro t ht e
  have := h t ht
  have e := of_decide_eq_true e
  rw [e] at this
  omega
theorem word_lt {ws : List (Int × Tok)} (h : ∀ q ∈ ws, q.1 = 3 ∨ q.1 = 4) : ∀ i, (ti ws).getD i 0 < 5 := by
  intro i
  rw [List.getD_eq_getElem?_getD]
  cases q : (ti ws)[i]? with
  | none => decide
  | some x =>
    obtain ⟨p, hp, rfl⟩ := List.mem_map.mp (List.mem_of_getElem? q)
    have := h p hp
    simp only [Option.getD_some]; omega
theorem cnt_len {ts : TS} {l : List (K3 × Int)} (h : l = ts.map fun t => (t.1, (t.2.2.2.length : Int))) (k : K3) : cntP l k = (((tP ts k).getD []).length : Nat) := by
  subst h
  unfold cntP tP
  induction ts with
  | nil => rfl
  | cons t r ih =>
    by_cases hk : t.1 = k
    · simp [hk]
    · simp only [List.map_cons, List.find?_cons, hk, decide_false] at ih ⊢
      exact ih
theorem atK_get {ts : TS} (hn : (ts.map (·.1)).Nodup) {j : Nat} {t : K3 × Addr × Addr × List Node} (ht : ts[j]? = some t) : atK (tx ts) t.1 = some (.ref t.2.2.1) := by
  induction ts generalizing j with
  | nil => simp at ht
  | cons a r ih =>
    rw [List.map_cons, List.nodup_cons] at hn
    cases j with
    | zero =>
      simp at ht; subst ht
      simp [atK, tx]
    | succ j =>
      simp only [List.getElem?_cons_succ] at ht
      have hne : ¬ a.1 = t.1 := fun e => hn.1 (List.mem_map.mpr ⟨t, List.mem_of_getElem? ht, e.symm⟩)
      have := ih hn.2 ht
      simpa [atK, tx, List.find?_cons, hne] using this
theorem tx_nodup {ts : TS} (h : ((tx ts).map (·.1)).Nodup) : (ts.map (·.1)).Nodup := by
  unfold tx at h; rwa [List.map_map] at h

/-! lists of tuples of strs, compared -/
noncomputable def datOf (l : List Str) : Dat := .tuple (l.map .str)
theorem strs_dat {led : List (Addr × Obj)} {vs : List Value} {ls : List Str} (h : StrsAre vs ls) : DatAll led vs (ls.map .str) := by
  induction h with
  | nil => exact .nil
  | cons x t _ ih => exact .cons (.str x t) ih
theorem rows_dat {led : List (Addr × Obj)} : ∀ {vs : List Value} {ls : List (List Str)}, Paired (StrsTup led) vs ls → DatAll led vs (ls.map datOf) := by
  intro vs ls p
  induction p with
  | nil => exact .nil
  | cons a _ ih =>
    obtain ⟨_, _, _, e, hm, hs⟩ := a
    exact .cons (e ▸ .tuple hm (strs_dat hs)) ih
theorem dat_ok {l : List Str} (h : ∀ x ∈ l, PyData.strOk x = true) : kqdOk 8 (datOf l) = true := by
  unfold datOf
  rw [kqdOk, List.all_eq_true]
  intro d hd
  obtain ⟨x, hx, rfl⟩ := List.mem_map.mp hd
  rw [kqdOk]
  exact h x hx
section
variable {prog : Program} {w : World} {A : Around} {E : Value → Shared → Prop} {s : Shared} {h₀ : Heap} {L a b : Addr} {led : List (Addr × Obj)}
theorem rows_same {xs ys : List Value} {ka kb : Nat} {ls : List (List Str)} {Q : Value → Shared → Prop} (N : News h₀ L s.heap led) (ma : (a, listOf (List.toArray xs) ka) ∈ led) (mb : (b, listOf (List.toArray ys) kb) ∈ led) (pa : Paired (StrsTup led) xs ls) (pb : Paired (StrsTup led) ys ls)
    (hok : ∀ l ∈ ls, ∀ x ∈ l, PyData.strOk x = true) (hu : A.units + 64 < cLine) (h : Q (.bool true) s) : wpAny (model prog w) A (compareOp .Eq (.ref a) (.ref b)) Q E s := by
  have ok : ∀ d ∈ ls.map datOf, kqdOk 8 d = true := fun d hd => by
    obtain ⟨l, hl, rfl⟩ := List.mem_map.mp hd
    exact dat_ok (hok l hl)
  refine kqd_eq N ma rfl rfl (rows_dat pa) (fun _ h => h) mb rfl rfl (rows_dat pb) (fun _ h => h) ok ok hu ?_
  simpa using h
end
theorem covS_strOk (T : K3 → Option (List Node)) (word : List Int) (rev : List Int) (b e : Int) : ∀ l ∈ covS T word rev b e, ∀ x ∈ l, PyData.strOk x = true := by
  intro l hl x hx
  rw [covS_eq] at hl
  obtain ⟨r, _, rfl⟩ := List.mem_map.mp hl
  obtain ⟨nd, _, rfl⟩ := List.mem_map.mp hx
  exact lab_ok nd
theorem Paired.takeN {α β : Type} {F : α → β → Prop} : ∀ {l₁ : List α} {l₂ : List β}, Paired F l₁ l₂ → ∀ n, Paired F (l₁.take n) (l₂.take n) := by
  intro l₁ l₂ p
  induction p with
  | nil => intro n; simp; exact .nil
  | cons h _ ih =>
    intro n
    cases n with
    | zero => exact .nil
    | succ n => exact .cons h (ih n)
theorem keys_size {prog : Program} {w : World} {es : Array DictEntry} {ts : TS} (h : es.toList = (tx ts).map fun x => entryOfKey (tupleKind (intKind prog w)) (k3 x.1, x.2)) : es.size = ts.length := by
  have := congrArg List.length h
  simpa [tx] using this
theorem keys_key {prog : Program} {w : World} {es : Array DictEntry} {ts : TS} (h : es.toList = (tx ts).map fun x => entryOfKey (tupleKind (intKind prog w)) (k3 x.1, x.2)) {j : Nat} {t : K3 × Addr × Addr × List Node} {e : DictEntry} (ht : ts[j]? = some t) (he : es[j]? = some e) : e.key = .ref t.2.1 := by
  have : es.toList[j]? = some e := by rw [Array.getElem?_toList]; exact he
  rw [h] at this
  simp [tx, ht, entryOfKey] at this
  rw [← this]
noncomputable abbrev CS := List (K3 × Addr × Int × Tok)
noncomputable def cT (c : K3 × Addr × Int × Tok) : K3 × Addr × Int := (c.1, c.2.1, c.2.2.1)
noncomputable def tT3 (t : K3 × Addr × Addr × List Node) : K3 × Addr × Int := (t.1, t.2.1, (t.2.2.2.length : Int))
theorem cs_facts {ts : TS} {cs : CS} (h : cs.map cT = ts.map tT3) : ci cs = ts.map (fun t => (t.1, (t.2.2.2.length : Int))) ∧ (cx cs).map (·.1) = ts.map (·.1) ∧ (∀ x ∈ cx cs, ∃ t ∈ ts, x.1 = t.1 ∧ x.2.1 = t.2.1) ∧ cs.length = ts.length ∧ ∀ c ∈ cs, ∃ t ∈ ts, c.2.2.1 = (t.2.2.2.length : Int) := by
  refine ⟨?_, ?_, ?_, ?_, ?_⟩
  · have := congrArg (List.map fun x : K3 × Addr × Int => (x.1, x.2.2)) h
    rw [List.map_map, List.map_map] at this
    exact this
  · have := congrArg (List.map fun x : K3 × Addr × Int => x.1) h
    rw [List.map_map, List.map_map] at this
    unfold cx; rw [List.map_map]; exact this
  · intro x hx
    obtain ⟨c, hc, rfl⟩ := List.mem_map.mp hx
    have : cT c ∈ ts.map tT3 := h ▸ List.mem_map_of_mem hc
    obtain ⟨t, ht, e⟩ := List.mem_map.mp this
    exact ⟨t, ht, congrArg (·.1) e.symm, congrArg (·.2.1) e.symm⟩
  · have := congrArg List.length h; simpa using this
  · intro c hc
    have : cT c ∈ ts.map tT3 := h ▸ List.mem_map_of_mem hc
    obtain ⟨t, ht, e⟩ := List.mem_map.mp this
    exact ⟨t, ht, congrArg (·.2.2) e.symm⟩
theorem cs_snoc {ts : TS} {cs : CS} {j : Nat} {t : K3 × Addr × Addr × List Node} {tk : Tok} (h : cs.map cT = (ts.take j).map tT3) (ht : ts[j]? = some t) : (cs ++ [(t.1, t.2.1, (t.2.2.2.length : Int), tk)]).map cT = (ts.take (j + 1)).map tT3 := by
  rw [List.take_add_one, ht, List.map_append, List.map_append, h]; rfl
/-- the pairs' tuples -/
noncomputable def PairsIn (led : List (Addr × Obj)) (vs : List Value) (cs : CS) : Prop := Paired (fun v (c : K3 × Addr × Int × Tok) => ∃ P n, v = .ref P ∧ (P, tupO [.ref c.2.1, .int c.2.2.1 c.2.2.2] n) ∈ led) vs cs
theorem PairsIn.mono {led led' : List (Addr × Obj)} (hs : ∀ p ∈ led, p ∈ led') {vs : List Value} {cs : CS} (h : PairsIn led vs cs) : PairsIn led' vs cs := Paired.imp (fun _ _ ⟨P, n, e, hm⟩ => ⟨P, n, e, hs _ hm⟩) h
theorem PairsIn.get {led : List (Addr × Obj)} {vs : List Value} {cs : CS} (h : PairsIn led vs cs) : ∀ (j : Nat) (v : Value), vs.toArray[j]? = some v → ∃ x P n, (cx cs)[j]? = some x ∧ v = .ref P ∧ (P, tupO [.ref x.2.1, x.2.2] n) ∈ led := by
  intro j v hv
  obtain ⟨c, hc, P, n, e, hm⟩ := Paired.get h (i := j) (a := v) (by simpa using hv)
  exact ⟨(c.1, c.2.1, .int c.2.2.1 c.2.2.2), P, n, by simp [cx, hc], e, hm⟩
theorem rows_facts {ts : TS} {ws : List (Int × Tok)} (h5 : ∀ t ∈ ts, 6 ≤ t.1.1) (hws : ∀ q ∈ ws, q.1 = 3 ∨ q.1 = 4) (hmk : Marked ts) {b e : Int} {m : Nat} (hm : 0 < m) (hbe : b ≤ e) (right : List Int) (hc : (covS (tP ts) (ti ws) right.reverse b e).length ≤ 1000) :
    (rowsP (tP ts) (ti ws) b e m right).map (·.map lab) = (covS (tP ts) (ti ws) right.reverse b e).take m ∧ (rowsP (tP ts) (ti ws) b e m right).length ≤ 1000 ∧
      ∀ row ∈ rowsP (tP ts) (ti ws) b e m right, (∀ nd ∈ row, NodeOk nd) ∧ row.length ≤ right.length := by
  have h1 := rows_law (tP_none h5) (word_lt hws) hm hbe right
  refine ⟨h1, ?_, fun row hrow => ⟨?_, ?_⟩⟩
  · have := congrArg List.length h1
    rw [List.length_map, List.length_take] at this
    omega
  · rw [rows_eq (tP_none h5) (word_lt hws) hm hbe] at hrow
    exact covN_ok hmk _ _ _ _ row (List.mem_of_mem_take hrow)
  · have h2 : row.map lab ∈ (rowsP (tP ts) (ti ws) b e m right).map (·.map lab) := List.mem_map_of_mem hrow
    rw [h1] at h2
    have := covS_row _ _ _ _ _ _ (List.mem_of_mem_take h2)
    simp at this
    omega
theorem slice_take {vs : List Value} {x : Int} (h : 0 ≤ x) : (slicePick vs.toArray none (some x) none).toList = vs.take x.toNat := by
  obtain ⟨n, rfl⟩ := Int.eq_ofNat_of_zero_le h
  rw [slicePick_upto']
  simp
end

end
section
open PySem.Calls
theorem cutH {h₀ h : Heap} {L l : Addr} {m mg mb : Str → Option Value} {led : List (Addr × Obj)} {p : Program} {lo : List Str} {me : ExcName → Option Value} {K : Frag} {A : Around} {xs : Array Value} (F : Fr h₀ L h m) (N : News h₀ L h led) (T : Top p lo me mg mb h₀) (X : K.In h₀) (B : Below A h₀ [] h₀) (hl : h₀.IsList l xs) :
    ∃ h0, h0 = h₀ ∧ Fr h0 L h m ∧ News h0 L h led ∧ Top p lo me mg mb h0 ∧ K.In h0 ∧ Below A h0 [] h0 ∧ h0.IsList l xs := ⟨h₀, rfl, F, N, T, X, B, hl⟩
theorem cutL {h₀ h : Heap} {L : Addr} {m : Str → Option Value} (_ : Fr h₀ L h m) : ∃ L', L' = L := ⟨L, rfl⟩
theorem cutM {h₀ h : Heap} {L : Addr} {m : Str → Option Value} (F : Fr h₀ L h m) : ∃ m', m' = m ∧ Fr h₀ L h m' := ⟨m, rfl, F⟩
theorem len63 {vs : List Value} {ns : List Int} (h : IntsAre vs ns) (hc : ¬ ((63 : Nat) : Int) < (ns.length : Int)) : vs.length ≤ 1000 := by
  rw [h.length]; omega
theorem list_topT {prog : Program} {w : World} {A : Around} {E : Value → Shared → Prop} {s : Shared} {h₀ : Heap} {L b : Addr} {m : Str → Option Value} {news : List (Addr × Obj)} {K : Frag} {its : Array Value} {n : Nat} {d : Option Addr} {sl : Array (Option Value)} {zs : List Value} {Q : Value → Shared → Prop} (F : Fr h₀ L s.heap m) (N : News h₀ L s.heap news) (X₀ : K.In h₀) (ho : K.lookup b = some { cls := .type "tuple", dict := d, data := .seq its n, slots := sl }) (e : its.toList = zs)
    (h : ∀ D c h', Fr h₀ L h' m → News h₀ L h' ((D, listOf zs.toArray c) :: news) → (∀ q ∈ news, q.1 < D) → Q (.ref D) { s with heap := h' }) (hz : its.size ≤ sizeLine) : wpAny (model prog w) A (call (.type "list") [.ref b]) Q E s := by
  refine list_copyKT F N (kun_topT F X₀ ho) (fun D c h' F' N' l1 => h D c h' F' ?_ l1) hz
  rw [← e, Array.toArray_toList]
  exact N'
theorem lenTv {prog : Program} {w : World} {A : Around} {E : Value → Shared → Prop} {s : Shared} {h₀ : Heap} {L a : Addr} {news : List (Addr × Obj)} {ws : List (Int × Tok)} {n : Nat} {Q : Value → Shared → Prop} (N : News h₀ L s.heap news) (hm : (a, tupO (tv ws) n) ∈ news) (hs : ws.length < 1000)
    (h : Q (.int ((tv ws).toArray.size : Int) (s.toks + 1)) { s with toks := s.toks + 1 + 1 }) : wpAny (model prog w) A (call (.builtin "len") [.ref a]) Q E s :=
  P.len_tuple (News.get N hm) (by simp only [List.size_toArray, tv, List.length_map]; omega) h
noncomputable def StU : Prop := True
noncomputable def StI : Prop := True
noncomputable def StG : Prop := True
noncomputable def StL : Prop := True
def stpU (a : String) (s : Lean.TSyntax `str) : Lean.MacroM Lean.Syntax := if has a s.getString then here (mkd ``StU stopT) else Lean.Macro.throwUnsupported
def stpI (a : String) (s : Lean.TSyntax `str) : Lean.MacroM Lean.Syntax := if has a s.getString then here (mkd ``StI stopT) else Lean.Macro.throwUnsupported
local macro_rules | `(tactic| walk_at $s) => stp "|SrcK|" s
local macro_rules | `(tactic| walk_at $s) => stpU "|exec For Tuple Name cons nil|exec For Name Tuple cons nil|exec For Name Call cons nil|pyIter ref|eval ListComp|CompSrc|CompEnd|call type:tuple|call builtin:list.index|setItem ref ref|" s
local macro_rules | `(tactic| walk_at $s) => stpI "|exec Assign cons ListComp|subscriptTail Name Name ref ref|call type:dict|compareOp Eq ref ref|subscriptTail Name Slice ref ref|" s
local macro_rules | `(tactic| walk_at "call type:list") => here (ord 5 0 false (rf ``list_topT "ssskr?d"))
local macro_rules | `(tactic| walk_at "mine room") => rf ``Room.mk "rBB"
local macro_rules | `(tactic| walk_at "call builtin:list.index") => here (thn (rf ``strs_index "amrecD?") dsT)
local macro_rules | `(tactic| walk_at "call ref") => here (oth (crT 344 stopT) (oth (crT 238 stopT) (oth (crT 351 stopT) (mkd ``StU stopT))))
local macro_rules | `(tactic| k_all) => mkd ``StU kallT
local macro_rules | `(tactic| k_mem) => mkd ``StU kmemT
local macro_rules | `(tactic| k_get) => mkd ``StU asmT
local macro_rules | `(tactic| walk_at "call builtin:len") => here (mkd ``StG (rf ``lenTv "amo?"))
local macro_rules | `(tactic| walk_at "call builtin:len") => here (mkd ``StL stopT)
local macro_rules | `(tactic| walk_at "call type:range") => here (mkd ``StU (oth (thn (rf ``range1_rows "aa?") (inw 9)) (thn (rf ``range2_rows "aa?") (inw 9))))
local macro_rules | `(tactic| k_qdec) => `(tactic| first | (rw [PySem.W.Fast.te17448422675489707002]; kernel_rfl) | kernel_rfl)

set_option maxRecDepth 100000 in
set_option maxHeartbeats 100000000 in
theorem tLaw : PySem.Challenge.rw_on0168_01.Holds := hd (by
  k_go0
  all_goals (try k_fold)
  rename Fr _ _ _ _ => F00
  rename News _ _ _ _ => N00
  rename Top _ _ _ _ _ _ => T00
  rename Frag.In _ _ => X00
  rename Below _ _ _ _ => K00
  rename Heap.IsList _ _ _ => hl00
  obtain ⟨h00, hh00, F01, N01, T01, X01, K01, hl01⟩ := cutH F00 N00 T00 X00 K00 hl00
  clear F00 N00 X00 K00 hl00
  obtain ⟨L00, hL00⟩ := cutL F01
  rw [← hL00] at F01 N01 ⊢
  k_steps
  refine stopGo ?_
  refine pen_spec (by walk_at "mine room") (by assumption) (by assumption) (by assumption) (by assumption) (by assumption) (by assumption) (len63 (by assumption) (by assumption)) ?_
  intro p n tn tk e h' t' hn F' N' hp
  clear F01 N01
  obtain ⟨m00, hm00, F'⟩ := cutM F'
  rename Shared => s99
  generalize hgn00 : s99.gens = gn00
  generalize hdr00 : s99.drawn = dr00
  generalize hos00 : s99.os = os00
  have hp1 := neN (hp _ (.head _))
  have hp2 := neN (hp _ (.tail _ (.head _)))
  have hp3 := neN (hp _ (.tail _ (.tail _ (.head _))))
  clear hp
  dsimp only at hp1 hp2 hp3
  (try dsimp only)
  refine' storeX_C ?zF ?zN ?zc ?zU ?zd ?_ ?za ?zb
  case za => rfl
  case zb => rfl
  case zF => assumption
  case zN => assumption
  case zc => rfl
  case zU => k_updF
  case zd => k_asm
  k_whole
  intro h' o' F' N' d'
  (try dsimp only [List.cons_append, List.nil_append] at N')
  (try dsimp only)
  (try k_sweep)
  k_steps
  refine stopGo ?_
  (have stU9 : StU := trivial); (have stL9 : StL := trivial)
  try row_walk
  rename News _ _ _ _ => N0
  obtain ⟨bs, hbs, N1⟩ := opq (P := News _ _ _) N0
  clear N0
  have hall := mem_of_eq hbs
  simp only [List.forall_mem_cons, List.not_mem_nil, false_implies, implies_true, and_true] at hall
  obtain ⟨m1, m2, m3, m4, m5, m6, m7, m8, m9, m10, m11, m12, m13, m14, m15, m16, m17, m18, m19⟩ := hall
  refine rule_spec (by walk_at "mine room") (by assumption) (by assumption) (by assumption) N1 ?_
  intro y c es n1 h1 t1 F1 N2 l1 l2 e1 e2 e3
  have hyc : c ≠ y := Nat.ne_of_lt l2
  have hy : ∀ p ∈ bs, p.1 ≠ y := ne_ltAll' l1 (Nat.le_of_lt l2)
  have hc : ∀ p ∈ bs, p.1 ≠ c := ne_of_ltAll l1
  (try dsimp only)
  (try k_sweep)
  k_steps
  refine stopGo ?_
  (with_reducible rename Fr _ _ _ _ => kF)
  refine For_invTF kF ?_ ?hs ?hE
  case hs => intro _; rfl
  case hE => passes_own
  k_steps
  rename News _ _ _ _ => N3
  rename Fr _ _ _ _ => F3
  obtain ⟨Rl, rfl⟩ := head_of N3
  rename _ ∧ _ ∧ AllLt _ _ => l3
  rename_i h9 t9
  refine stopGo ?_
  obtain ⟨nv, hnl, hnvs, hnv8, hnv3, hnv4, hbeg, hpairs⟩ := pairs_ok m2 m14 m15 m12 m13
  try row_walk
  refine loop_listT (by rfl) F3 N3 ⟨_, (N3 _ (.tail _ (.tail _ (.tail _ m11)))).1, rfl, _, rfl⟩ (N3 _ (.tail _ (.tail _ (.tail _ m11)))).2.1
    [Str.ofString "left", Str.ofString "parts", Str.ofString "right"] (fun _ : Unit => _)
    (fun i _ news => ∃ vs n new, news = (Rl, listOf (List.toArray vs) n) :: (new ++ bs) ∧ vs.length = i + 1 ∧ (∀ v ∈ vs, RuleOK (new ++ bs) v) ∧ (∀ q ∈ new ++ bs, q.1 ≠ Rl))
    () Agr.rfl ⟨[.ref y], 0, [(y, instObj 238 c), (c, dictOf es n1)], rfl, rfl, ?_, ?_⟩ ?_ ?_
  · intro v hv
    rw [List.mem_singleton.mp hv]
    exact ⟨y, c, es, n1, _, _, _, _, _, [_, _], 0, rfl, .head _, .tail _ (.head _), e1, e2, by decide, e3, .tail _ (.tail _ m1), Nat.le_refl 2⟩
  · intro q hq
    rcases List.mem_cons.mp hq with rfl | hq
    · exact Nat.ne_of_lt l3.1
    · rcases List.mem_cons.mp hq with rfl | hq
      · exact Nat.ne_of_lt l3.2.1
      · exact Nat.ne_of_lt (AllLt.mem l3.2.2 q hq)
  · intro i v _ u news₁ s1 It own hv hI hnit hown hItO F4 N4
    obtain ⟨vs, n2, new, rfl, hvl, hvr, hnr⟩ := hI
    have hi : i < 2 := (Array.getElem?_eq_some_iff.mp hv).1
    obtain ⟨T, lf, pl, nT, pvs, npl, rfl, hT, ⟨lx, lt, lj, rfl, hlj, hlj8⟩, hpl, hpi, hpl2⟩ := hpairs i v hv
    simp only [List.cons_append] at N4
    have hs4 : ∀ p ∈ new ++ bs, p ∈ new ++ bs ++ own := sub_l
    have ho4 : ∀ p ∈ own, p ∈ new ++ bs ++ own := sub_r
    have hn4 : ∀ p ∈ new ++ bs ++ own, p.1 ≠ Rl := own_apart2 hown hnr (hnit _ (.head _)) (hnr _ (sub_r _ m11))
    have hb4 : ∀ p ∈ bs, p ∈ new ++ bs ++ own := fun p hp => hs4 _ (sub_r _ hp)
    obtain ⟨b4, hb4e⟩ : ∃ f, f = new ++ bs ++ own := ⟨_, rfl⟩
    rw [← hb4e] at N4 hs4 ho4 hn4 hb4
    refine assign_pair (by rfl) F4 N4 (.tail _ (hb4 _ hT)) (by rfl) (by rfl) (by rfl) ?_
    intro h5 tk5 F5 N5
    have hcell := hb4 _ m10
    have hnl4 := hb4 _ hnl
    have hpl4 := hb4 _ hpl
    (try dsimp only)
    k_steps
    refine stopGo ?_
    refine LCg.ListComp_U (F₀ := by k_asm) (by with_unfolding_all rfl) (by decide) (by rfl) (by decide) (by rfl) ?_
    k_steps
    refine stopGo ?_
    refine LCg.CompSrc.ledger (by rfl) (by assumption) N5 (.tail _ hpl4) (size_line_le (by simp only [List.size_toArray]; omega)) ?_
    intro g'
    refine rest_inv (fun j ys news => news = (Rl, listOf (List.toArray vs) n2) :: b4 ∧ ys.length = j ∧ ∃ ks, IntsAre ys ks) ?_ ?_ _ 0 [] _ (Nat.zero_add _) ⟨rfl, rfl, [], .nil⟩
    · intro j v ys news I oI C' oC D m₂ h tk E' hj hv hI hO hx F6 N6 off ne
      obtain ⟨rfl, hys, ks, hks⟩ := hI
      have hvm : v ∈ pvs := List.mem_of_getElem? (by simpa using hv)
      obtain ⟨x, t, jj, rfl, hjj, hjj8⟩ := hpi v hvm
      k_steps
      refine stopGo ?_
      refine strs_index (by assumption) (by k_mem) hnvs hjj rfl (by omega) ?_
      k_steps
      refine stopGo ?_
      refine compEnd (by assumption) (by assumption) _ sub_rf off (.inr ⟨_, .tail _ hpl4, rfl, _, rfl⟩) ⟨rfl, ?_, ?_⟩
      · simp [hys]
      · exact ⟨_, IntsAre.append hks (.cons _ _ .nil)⟩
    · intro ys news hI
      obtain ⟨rfl, hys, ks, hks⟩ := hI
      unfold LCg.FinE
      intro D h tk F7 N7 o1
      k_steps
      have hys2 : ys.length ≤ 2 := by rw [hys]; simpa using hpl2
      refine stopGo ?_
      refine kde_tupleOf (zs := ys) (items := ys.toArray) (by assumption) N7 ⟨_, (N7 _ (.head _)).1, rfl, _, rfl⟩ (by simp; omega) (by simp) ?_
      intro D8 h8 F8 N8 l8
      have l8' := l8
      k_lt l8
      (try dsimp only)
      k_steps
      refine stopGo ?_
      refine call_len_list (items := List.toArray vs) (News.isList (by k_asm) (.tail _ (.tail _ (.head _)))) (by simp only [List.size_toArray]; omega) ?_
      k_steps
      refine stopGo ?_
      refine strs_index (by assumption) (.tail _ (.tail _ (.tail _ hnl4))) hnvs hlj rfl (by omega) ?_
      k_steps
      refine stopGo ?_
      refine lt_spec (by walk_at "mine room") (by assumption) (by assumption) (by assumption) (by assumption) (.head _) hks ?_
      intro kk kt h9 t9 F9 N9
      (try dsimp only)
      k_steps
      refine stopGo ?_
      refine rule_spec (by walk_at "mine room") (by assumption) (by assumption) (by assumption) N9 ?_
      intro y9 c9 es9 n9 h10 t10 F10 N10 l10 l11 f1 f2 f3
      have l10' := l10
      k_lt l10
      replace l11 := ltN l11
      have hDR : @Ne Nat D Rl := Ne.symm o1.1
      have hown9 : ∀ p ∈ own, p ∈ b4 := ho4
      (try dsimp only)
      (try k_sweep)
      k_steps
      rename News _ _ _ _ => N11
      simp only [List.push_toArray] at N11
      obtain ⟨io, hio⟩ := hItO
      have hIt4 := ho4 _ hio
      have hItc : It < c9 := AllLt.mem l10.2.2.2 _ hIt4
      have hItD : It < D8 := AllLt.mem l8.2.2 _ hIt4
      have hsb : ∀ p ∈ new ++ bs, p ∈ (y9, instObj 238 c9) :: (c9, dictOf es9 n9) :: (D8, tupO ys 0) :: (new ++ bs) := fun p hp => .tail _ (.tail _ (.tail _ hp))
      refine TurnT.ok (by assumption) N11 () ((Rl, listOf (List.toArray (vs ++ [.ref y9])) (n2 + 1)) :: ((y9, instObj 238 c9) :: (c9, dictOf es9 n9) :: (D8, tupO ys 0) :: new ++ bs)) (by walk_at "mine agr") ⟨vs ++ [.ref y9], _, (y9, instObj 238 c9) :: (c9, dictOf es9 n9) :: (D8, tupO ys 0) :: new, rfl, by simp [hvl], ?_, ?_⟩ ?_ ?_ ?_
      · intro v hv
        rcases List.mem_append.mp hv with hv | hv
        · exact (hvr v hv).mono hsb
        · rw [List.mem_singleton.mp hv]
          exact ⟨y9, c9, es9, n9, _, _, _, _, D8, ys, 0, rfl, .head _, .tail _ (.head _), f1, f2, ⟨by omega, by omega⟩, f3, .tail _ (.tail _ (.head _)), hys2⟩
      · intro q hq
        rcases List.mem_cons.mp hq with rfl | hq
        · exact Nat.ne_of_gt (Nat.lt_trans l10.2.2.1 l11)
        · rcases List.mem_cons.mp hq with rfl | hq
          · exact Nat.ne_of_gt l10.2.2.1
          · rcases List.mem_cons.mp hq with rfl | hq
            · exact Nat.ne_of_gt l8.2.1
            · exact hnr q hq
      · intro q hq
        rcases List.mem_cons.mp hq with rfl | hq
        · exact .tail _ (.tail _ (.tail _ (.tail _ (.head _))))
        · rcases List.mem_cons.mp hq with rfl | hq
          · exact .head _
          · rcases List.mem_cons.mp hq with rfl | hq
            · exact .tail _ (.head _)
            · rcases List.mem_cons.mp hq with rfl | hq
              · exact .tail _ (.tail _ (.head _))
              · exact .tail _ (.tail _ (.tail _ (.tail _ (.tail _ (hs4 q hq)))))
      · exact fun q hq => .tail _ (.tail _ (.tail _ (.tail _ (.tail _ (ho4 q hq)))))
      · intro q hq
        rcases List.mem_cons.mp hq with rfl | hq
        · exact hnit (Rl, listOf (List.toArray vs) n2) (.head _)
        · rcases List.mem_cons.mp hq with rfl | hq
          · exact Nat.ne_of_gt (Nat.lt_trans hItc l11)
          · rcases List.mem_cons.mp hq with rfl | hq
            · exact Nat.ne_of_gt hItc
            · rcases List.mem_cons.mp hq with rfl | hq
              · exact Nat.ne_of_gt hItD
              · exact hnit _ (.tail _ hq)
  · intro h tk _ u news' F4 N4 hI
    obtain ⟨vs, n2, new, rfl, hvl, hvr, hnr⟩ := hI
    have hb4 : ∀ p ∈ bs, p ∈ new ++ bs := sub_r
    obtain ⟨b4, hb4e⟩ : ∃ f, f = new ++ bs := ⟨_, rfl⟩
    rw [← hb4e] at N4 hb4 hnr hvr
    have hcell := hb4 _ m10
    have hnl4 := hb4 _ hnl
    (try dsimp only)
    k_steps
    refine stopGo ?_
    obtain ⟨lx, lt, lj, hlx, hlj, hlj8⟩ := hbeg
    obtain ⟨rfl, rfl⟩ := Value.str.inj hlx
    rename News _ _ _ _ => N5
    refine strs_index N5 (.tail _ (.tail _ hnl4)) hnvs hlj rfl (by omega) ?_
    k_steps
    refine stopGo ?_
    try row_walk
    have hrv : ∀ v ∈ vs, RuleOK ((Rl, listOf (List.toArray vs) n2) :: b4) v := fun v hv => (hvr v hv).mono fun p hp => List.Mem.tail _ hp
    refine grammar_spec (by walk_at "mine room") (by assumption) (by assumption) (by assumption) N5 (.tail _ (.tail _ hnl4)) hnv8 (.tail _ (.head _)) (by simp at hvl; omega) (fun v hv => (hrv v hv).mono fun p hp => .tail _ hp) ?_
    intro gg dg eg ng led hG tG FG NG hsG hg1 hg2 hg3
    (try dsimp only)
    k_steps
    refine stopGo ?_
    rename News _ _ _ _ => NL
    rename Fr _ _ _ _ => FL
    obtain ⟨base, c2, c3, o2, o3, tn0, tk0, e0, ec2, ec3, dc2, dc3, NB, hbp, hb2, hb3, h2p, h3p, h23, hcB, hGB⟩ := law_start NL (hsG _ (.tail _ (.tail _ (hb4 _ m16)))) (hsG _ (.tail _ (.tail _ (hb4 _ m19)))) (by assumption) (hsG _ (.tail _ (.tail _ (hb4 _ m18)))) (by assumption) (hsG _ (.tail _ (.tail _ (hb4 _ m17)))) (by assumption)
      (by show @Ne Nat _ _; omega) (by show @Ne Nat _ _; omega) (by show @Ne Nat _ _; omega) hg1 hg2 hg3 (hsG _ (.tail _ (.tail _ hnl4))) hnv8 hnv3 hnv4
    clear hsG hg1 hg2 hg3 NG FG hrv NL N5 hnl4 hcell hb4 hvr hnr hlx hlj hlj8 N3 F3 hpairs hnl hnv3 hnv4 hnv8 hnvs m1 m2 m3 m4 m5 m6 m7 m8 m9 m10 m11 m12 m13 m14 m15 m16 m17 m18 m19 hy hc hyc hbs
    try row_walk
    refine LCg.ListComp_U (F₀ := by k_asm) (by with_unfolding_all rfl) (by decide) (by rfl) (by decide) (by rfl) ?_
    k_steps
    refine stopGo ?_
    have hpX : ∀ q ∈ ((c2, o2) :: (c3, o3) :: base : List (Addr × Obj)), q.1 ≠ p := ne_cons h2p (ne_cons h3p hbp)
    obtain ⟨X, hX⟩ : ∃ X, X = (c2, o2) :: (c3, o3) :: base := ⟨_, rfl⟩
    rw [← hX] at NB hpX
    refine draw_spec (by walk_at "mine room") (by assumption) (by assumption) (by assumption) NB hpX hn (Int.le_refl 0) (by decide) (by decide) (by decide) ?_
    intro d td n' tn' tk' e' h' t' hd0 hd1 hn' F' N'
    (try dsimp only)
    k_steps
    refine stopGo ?_
    rename IsRange _ _ _ _ _ _ _ _ => hR
    rename Fr _ _ _ _ => F2
    rename News _ _ _ _ => N2
    have hcX : (_, o') ∈ X := hX ▸ List.Mem.tail _ (List.Mem.tail _ hcB)
    refine LCg.CompSrc.range (n := d.toNat) (by rfl) F2 N2 hR (range_small (by omega) (by omega) (by omega) (by omega)) (by rw [range_n, Int.sub_zero]) (size_line_le (by omega)) ?_
    intro g1
    clear F2 N2 hR F' N' NB FL
    refine rest_inv (fun j ys news => PenLed p X (1 + 2 * (j : Nat)) news ∧ ∃ rs, ys = tv rs ∧ rs.length = j ∧ ∀ q ∈ rs, q.1 = 3 ∨ q.1 = 4 ∨ q.1 = 6 ∨ q.1 = 7) ?_ ?_ _ 0 [] _ (Nat.zero_add _) ⟨⟨n', tn', _, tk', e', rfl, hn', by decide, by decide⟩, [], rfl, rfl, (fun _ h => nomatch h)⟩
    · intro j v ys news I oI C' oC D m₂ h tk E' hj hv hI hO hx F6 N6 off ne
      obtain ⟨⟨n1, tn1, k1, tk1, e1, rfl, hn1, hk1, hk2⟩, rs, rfl, hrl, hrs⟩ := hI
      k_steps
      refine stopGo ?_
      refine draw_spec (by walk_at "mine room") (by assumption) (by assumption) (by assumption) (News.subset N6 sub3) (ne3 hpX off) hn1 hk1 (by omega) (by decide) (by decide) ?_
      intro d2 td2 n2 tn2 tk2 e2 h2 t2 hd0 hd1 hn2 F7 N7
      (try dsimp only)
      k_steps
      · refine stopGo ?_
        refine draw_spec (by walk_at "mine room") (by assumption) (by assumption) (by assumption) N7 (ne3 hpX off) hn2 (by omega) (by omega) (by decide) (by decide) ?_
        intro d3 td3 n3 tn3 tk3 e3 h3 t3 hd0 hd1 hn3 F8 N8
        (try dsimp only)
        k_steps
        refine stopGo ?_
        refine compEnd F8 N8 ((p, listOf #[.int n3 tn3, .int _ tk3] e3) :: X) sub3' (off3_same off) trivial ⟨⟨n3, tn3, _, tk3, e3, rfl, hn3, by omega, by omega⟩, _, tv_snoc _ _ _, by simp [hrl], ?_⟩
        intro q hq
        rcases List.mem_append.mp hq with hq | hq
        · exact hrs q hq
        · rw [List.mem_singleton.mp hq]; dsimp only; omega
      · refine stopGo ?_
        refine draw_spec (by walk_at "mine room") (by assumption) (by assumption) (by assumption) N7 (ne3 hpX off) hn2 (by omega) (by omega) (by decide) (by decide) ?_
        intro d3 td3 n3 tn3 tk3 e3 h3 t3 hd0 hd1 hn3 F8 N8
        (try dsimp only)
        k_steps
        refine stopGo ?_
        refine compEnd F8 N8 ((p, listOf #[.int n3 tn3, .int _ tk3] e3) :: X) sub3' (off3_same off) trivial ⟨⟨n3, tn3, _, tk3, e3, rfl, hn3, by omega, by omega⟩, _, tv_snoc _ _ _, by simp [hrl], ?_⟩
        intro q hq
        rcases List.mem_append.mp hq with hq | hq
        · exact hrs q hq
        · rw [List.mem_singleton.mp hq]; dsimp only; omega
    · intro ys news hI
      obtain ⟨⟨n1, tn1, k1, tk1, e1, rfl, hn1, hk1, hk2⟩, rs, rfl, hrl, hrs⟩ := hI
      unfold LCg.FinE
      intro D h tk F7 N7 o1
      k_steps
      refine stopGo ?_
      have hrl3 : rs.length ≤ 3 := by omega
      refine kde_tupleOf (zs := tv rs) (items := (tv rs).toArray) (by assumption) N7 ⟨_, (N7 _ (.head _)).1, rfl, _, rfl⟩ (by simp [tv]; omega) (by simp) ?_
      intro r h8 F8 N8 l8
      (try dsimp only)
      have lp : p < r := l8 (p, listOf #[.int n1 tn1, .int k1 tk1] e1) (.tail _ (.head _))
      have lX : ∀ q ∈ X, q.1 < r := fun q hq => l8 q (.tail _ (.tail _ hq))
      have N9 := News.subset N8 (led' := (p, listOf #[.int n1 tn1, .int k1 tk1] e1) :: (r, tupO (tv rs) 0) :: X) (sub_cons (.tail _ (.tail _ (.head _))) (sub_cons (.head _) fun q hq => .tail _ (.tail _ (.tail _ hq))))
      clear N8 l8 N7 F7 o1 hrl
      obtain ⟨Y, hY⟩ : ∃ Y, Y = (r, tupO (tv rs) 0) :: X := ⟨_, rfl⟩
      have hpY : ∀ q ∈ Y, q.1 ≠ p := hY ▸ ne_cons (Nat.ne_of_gt lp) hpX
      rw [← hY] at N9
      have hcY : (_, o') ∈ Y := hY ▸ List.Mem.tail _ hcX
      k_steps
      refine stopGo ?_
      refine LCg.ListComp_U (F₀ := by k_asm) (by with_unfolding_all rfl) (by decide) (by rfl) (by decide) (by rfl) ?_
      k_steps
      refine stopGo ?_
      rename News _ _ _ _ => N2
      refine draw_spec (by walk_at "mine room") (by assumption) (by assumption) (by assumption) N2 hpY hn1 hk1 (by omega) (by decide) (by decide) ?_
      intro d td n2 tn2 tk2 e2 h2 t2 hd0 hd1 hn2 F' N'
      (try dsimp only)
      k_steps
      refine stopGo ?_
      rename IsRange _ _ _ _ _ _ _ _ => hR
      rename Fr _ _ _ _ => F2
      rename News _ _ _ _ => N2
      refine LCg.CompSrc.range (n := d.toNat) (by rfl) F2 N2 hR (range_small (by omega) (by omega) (by omega) (by omega)) (by rw [range_n, Int.sub_zero]) (size_line_le (by omega)) ?_
      intro g1
      clear F2 N2 hR F' N'
      refine rest_inv (fun j ys news => PenLed p Y (8 + (j : Nat)) news ∧ ∃ rs, ys = tv rs ∧ rs.length = j ∧ ∀ q ∈ rs, q.1 = 3 ∨ q.1 = 4) ?_ ?_ _ 0 [] _ (Nat.zero_add _) ⟨⟨n2, tn2, _, tk2, e2, rfl, hn2, by omega, by omega⟩, [], rfl, rfl, (fun _ h => nomatch h)⟩
      · intro j v ys news I oI C' oC D m₂ h tk E' hj hv hI hO hx F6 N6 off ne
        obtain ⟨⟨n1, tn1, k1, tk1, e1, rfl, hn1, hk1, hk2⟩, rs, rfl, hrl, hrs⟩ := hI
        k_steps
        refine stopGo ?_
        refine draw_spec (by walk_at "mine room") (by assumption) (by assumption) (by assumption) (News.subset N6 sub3) (ne3 hpY off) hn1 hk1 (by omega) (by decide) (by decide) ?_
        intro d3 td3 n3 tn3 tk3 e3 h3 t3 hd0 hd1 hn3 F8 N8
        (try dsimp only)
        k_steps
        refine stopGo ?_
        refine compEnd F8 N8 ((p, listOf #[.int n3 tn3, .int _ tk3] e3) :: Y) sub3' (off3_same off) trivial ⟨⟨n3, tn3, _, tk3, e3, rfl, hn3, by omega, by omega⟩, _, tv_snoc _ _ _, by simp [hrl], ?_⟩
        intro q hq
        rcases List.mem_append.mp hq with hq | hq
        · exact hrs q hq
        · rw [List.mem_singleton.mp hq]; dsimp only; omega
      · intro ys news hI
        obtain ⟨⟨n4, tn4, k4, tk4, e4, rfl, hn4, hk4, hk5⟩, ws, rfl, hwl, hws⟩ := hI
        unfold LCg.FinE
        intro D h tk F7 N7 o1
        k_steps
        refine stopGo ?_
        have hwl4 : ws.length ≤ 4 := by omega
        refine kde_tupleOf (zs := tv ws) (items := (tv ws).toArray) (by assumption) N7 ⟨_, (N7 _ (.head _)).1, rfl, _, rfl⟩ (by simp [tv]; omega) (by simp) ?_
        intro wd h8 F8 N8 l8
        (try dsimp only)
        have lp2 : p < wd := l8 (p, listOf #[.int n4 tn4, .int k4 tk4] e4) (.tail _ (.head _))
        have lX2 : ∀ q ∈ Y, q.1 < wd := fun q hq => l8 q (.tail _ (.tail _ hq))
        have l2r : c2 < r := lX (c2, o2) (hX ▸ .head _)
        have l3r : c3 < r := lX (c3, o3) (hX ▸ .tail _ (.head _))
        have l2w : c2 < wd := lX2 (c2, o2) (hY ▸ .tail _ (hX ▸ .head _))
        have l3w : c3 < wd := lX2 (c3, o3) (hY ▸ .tail _ (hX ▸ .tail _ (.head _)))
        obtain ⟨B, hB⟩ : ∃ B, B = (wd, tupO (tv ws) 0) :: (r, tupO (tv rs) 0) :: base := ⟨_, rfl⟩
        have N9 := News.subset N8 (led' := (p, listOf #[.int n4 tn4, .int k4 tk4] e4) :: (c2, o2) :: (c3, o3) :: B) (by
          rw [hB, hY, hX]
          walk_at "mine sub")
        have hB1 : (wd, tupO (tv ws) 0) ∈ B := hB ▸ .head _
        have hB2 : (r, tupO (tv rs) 0) ∈ B := hB ▸ .tail _ (.head _)
        have hB3 : (_, o') ∈ B := hB ▸ List.Mem.tail _ (List.Mem.tail _ hcB)
        have hB4 : GramIn B gg := hGB.mono (hB ▸ fun q hq => .tail _ (.tail _ hq))
        have bp : ∀ q ∈ B, q.1 ≠ p := hB ▸ ne_cons (Nat.ne_of_gt lp2) (ne_cons (Nat.ne_of_gt lp) hbp)
        have b2 : ∀ q ∈ B, q.1 ≠ c2 := hB ▸ ne_cons (Nat.ne_of_gt l2w) (ne_cons (Nat.ne_of_gt l2r) hb2)
        have b3 : ∀ q ∈ B, q.1 ≠ c3 := hB ▸ ne_cons (Nat.ne_of_gt l3w) (ne_cons (Nat.ne_of_gt l3r) hb3)
        clear N8 l8 N7 F7 o1 hwl hB hY hX hcY hcX hpY hpX lX2 lX lp2 l2w l3w hbp hb2 hb3 hcB hGB
        try row_walk
        subst ec2 ec3
        k_steps
        refine stopGo ?_
        rename_i hs1 f1 i1 f2 lt1 hA oc2 dc2' hB oc3 F4 N4 dc3'
        clear f1 i1 f2
        obtain ⟨D, rfl⟩ := head_of N4
        obtain ⟨epD, rfl⟩ := isDict_raw hs1
        rename (_ == sysModules) = false => lo1
        have hDp : @Ne Nat p D := Nat.ne_of_lt lt1.1
        have hD2 := Nat.ne_of_lt lt1.2.1
        have hD3 := Nat.ne_of_lt lt1.2.2.1
        have hDB : ∀ q ∈ B, q.1 ≠ D := fun q hq => Nat.ne_of_lt (AllLt.mem lt1.2.2.2 q hq)
        obtain ⟨W, hW, N5⟩ := arrangeV N4
        have wD : ∀ q ∈ W, q.1 ≠ D := hW ▸ ne_cons hD2 hDB
        have wp : ∀ q ∈ W, q.1 ≠ p := hW ▸ ne_cons h2p bp
        have w3 : ∀ q ∈ W, q.1 ≠ _ := hW ▸ ne_cons h23 b3
        have wT : (_, oc2) ∈ W := hW ▸ List.Mem.head _
        have wP : (_, o') ∈ W := hW ▸ List.Mem.tail _ hB3
        have wR : (r, tupO (tv rs) 0) ∈ W := hW ▸ List.Mem.tail _ hB2
        have wW : (wd, tupO (tv ws) 0) ∈ W := hW ▸ List.Mem.tail _ hB1
        have wG : GramIn W gg := hB4.mono (hW ▸ fun q hq => .tail _ hq)
        clear N4 hW hB1 hB2 hB3 hB4 bp b2 b3 hDB h2p l2r l3r lt1 hs1
        (with_reducible rename Fr _ _ _ _ => kF)
        refine For_invVF kF ?hx ?hp ?_ ?hs ?hE
        case hx => rfl
        case hp => rfl
        case hs => intro _; rfl
        case hE => (rw [hL00]; with_reducible exact PassesOwn.leaving)
        k_steps
        rename_i F5 N5 hx FX NX kX xX xY nX
        have hTp := fun q hq => Heap.lt_size (N5 q hq).1
        clear F5 N5 kX
        (try dsimp only at NX hTp)
        generalize hB.objs.size = Tp at NX hTp ⊢
        obtain ⟨V, hV, N6⟩ := under3 NX
        have hTD := hTp _ (.head _)
        have hTq := hTp _ (.tail _ (.head _))
        have hT3 := hTp _ (.tail _ (.tail _ (.head _)))
        dsimp only at hTD hTq hT3
        have vD : ∀ q ∈ V, q.1 ≠ D := hV ▸ ne_cons (Nat.ne_of_gt hTD) wD
        have vp : ∀ q ∈ V, q.1 ≠ p := hV ▸ ne_cons (Nat.ne_of_gt hTq) wp
        have v3 : ∀ q ∈ V, q.1 ≠ _ := hV ▸ ne_cons (Nat.ne_of_gt hT3) w3
        have vT : (_, oc2) ∈ V := hV ▸ List.Mem.tail _ wT
        have vP : (_, o') ∈ V := hV ▸ List.Mem.tail _ wP
        have vR : (r, tupO (tv rs) 0) ∈ V := hV ▸ List.Mem.tail _ wR
        have vW : (wd, tupO (tv ws) 0) ∈ V := hV ▸ List.Mem.tail _ wW
        have vG : GramIn V gg := wG.mono (hV ▸ fun q hq => .tail _ hq)
        have vS : (Tp, tupO [.int 6 _, .int 7 _] 0) ∈ V := hV ▸ List.Mem.head _
        clear hV wD wp w3 wT wP wR wW wG NX hTp hTD hTq hT3
        (rename StL => stL8); clear stL8; (have stG9 : StG := trivial)
        try row_walk
        refine stopGo ?_
        rename World => w0
        obtain ⟨c3, ec3⟩ := third_addr N6
        rw [← ec3] at N6 v3 h3p hD3
        obtain ⟨hTu, hTL⟩ := tup_is N6 (.tail _ (.tail _ (.tail _ vS)))
        refine loop_tuple (by rfl) FX N6 hTu hTL
          [Str.ofString "symbol", Str.ofString "first", Str.ofString "behind", Str.ofString "many"] (fun _ : Unit => _)
          (fun i _ news => TAt Challenge.rw_on0168_01.row.prog w0 D p c3 V (25 * i) (KeyLt i 0 0) news)
          () Agr.rfl ⟨_, n4, tn4, k4, tk4, e4, oc3, 1, _, [], [], rfl, tst_nil rfl lo1 hn4 hk4 (by omega) dc3', (fun _ h => nomatch h)⟩ ?_ ?_
        · intro i v _ u news₁ h tk It own hv hI hnit hown hItO F3 N3
          obtain ⟨od, n, tn, k, tk0, e, om, mk, tm, ts, mid, rfl, hT, hmid⟩ := hI
          obtain ⟨sy, tsy, rfl, hsy, hi2⟩ : ∃ sy tsy, v = .int sy tsy ∧ sy = 6 + (i : Int) ∧ i < 2 := two_at hv
          simp only [List.cons_append, List.append_assoc] at N3
          have v2D := apart_own vD hown (hnit (D, od) (.head _)) vS
          have v2p := apart_own vp hown (hnit (p, _) (.tail _ (.head _))) vS
          have v23 := apart_own v3 hown (hnit (c3, om) (.tail _ (.tail _ (.head _)))) vS
          have v2I : D ≠ It ∧ p ≠ It ∧ c3 ≠ It ∧ ∀ q ∈ V, q.1 ≠ It := ⟨hnit (D, od) (.head _), hnit (p, _) (.tail _ (.head _)), hnit (c3, om) (.tail _ (.tail _ (.head _))), fun q hq => hnit q (.tail _ (.tail _ (.tail _ (sub_r _ hq))))⟩
          have hmid2 := mid_own hmid (fun q hq => hnit q (.tail _ (.tail _ (.tail _ (sub_l _ hq))))) fun z hz => (hown z hz).imp id fun e => ⟨_, e ▸ vS⟩
          clear hmid
          have v2s : ∀ q ∈ V, q ∈ V ++ own := sub_l
          obtain ⟨V2, hV2⟩ : ∃ V2, V2 = V ++ own := ⟨_, rfl⟩
          rw [← hV2] at N3 v2D v2p v23 v2s hmid2
          have w2 := v2s _ vW
          have w2' : (wd, tupO (tv ws) 0) ∈ mid ++ V2 := sub_r _ w2
          obtain ⟨M2, hM2⟩ : ∃ M2, M2 = mid ++ V2 := ⟨_, rfl⟩
          rw [← hM2] at N3 w2'
          k_unmd
          k_fold
          k_steps
          refine stopGo ?_
          (with_reducible rename Fr _ _ _ _ => kF)
          refine For_invVF kF ?hx ?hp ?_ ?hs ?hE
          case hx => rfl
          case hp => rfl
          case hs => intro _; rfl
          case hE => (rw [hL00]; with_reducible exact PassesOwn.leaving)
          k_steps
          refine stopGo ?_
          rename IsRange _ _ _ _ _ _ _ _ => hR
          rename Fr _ _ _ _ => F4
          rename News _ _ _ _ => N4
          rw [tv_size] at hR
          rw [hM2] at N4
          refine loop_range (by rfl) F4 N4 hR (range_small (by omega) (by omega) (by omega) (by omega)) (ws.length + 1) (by rw [range_n]; omega)
            [Str.ofString "first", Str.ofString "behind", Str.ofString "many"] (fun _ : Unit => _)
            (fun j _ news => TAt Challenge.rw_on0168_01.row.prog w0 D p c3 V2 (25 * i + 5 * j) (KeyLt i j 0) news)
            () Agr.rfl ⟨od, n, tn, k, tk0, e, om, mk, tm, ts, mid, rfl, hT, hmid2⟩ ?_ ?_
          · clear hT hmid2 hM2 w2' F4 N4 hR N3
            intro j tj _ u3 news₃ h3 tk3 It3 own3 hj hI3 hnit3 hown3 hItO3 F5 N5
            obtain ⟨od, n, tn, k, tk0, e, om, mk, tm, ts, mid, rfl, hT, hmid⟩ := hI3
            simp only [List.cons_append, List.append_assoc, Int.zero_add] at N5 F5
            have v3D := apart_own1 v2D hown3 (hnit3 (D, od) (.head _))
            have v3p := apart_own1 v2p hown3 (hnit3 (p, _) (.tail _ (.head _)))
            have v33 := apart_own1 v23 hown3 (hnit3 (c3, om) (.tail _ (.tail _ (.head _))))
            have v3I : D ≠ It3 ∧ p ≠ It3 ∧ c3 ≠ It3 ∧ ∀ q ∈ V2, q.1 ≠ It3 := ⟨hnit3 (D, od) (.head _), hnit3 (p, _) (.tail _ (.head _)), hnit3 (c3, om) (.tail _ (.tail _ (.head _))), fun q hq => hnit3 q (.tail _ (.tail _ (.tail _ (sub_r _ hq))))⟩
            have hmid3 := mid_own hmid (fun q hq => hnit3 q (.tail _ (.tail _ (.tail _ (sub_l _ hq))))) fun z hz => .inl (hown3 z hz)
            clear hmid
            have v3s : ∀ q ∈ V, q ∈ V2 ++ own3 := fun q hq => sub_l _ (v2s q hq)
            obtain ⟨V3, hV3⟩ : ∃ V3, V3 = V2 ++ own3 := ⟨_, rfl⟩
            rw [← hV3] at N5 v3D v3p v33 v3s hmid3
            have w3 := v3s _ vW
            have w3' : (wd, tupO (tv ws) 0) ∈ mid ++ V3 := sub_r _ w3
            obtain ⟨M3, hM3⟩ : ∃ M3, M3 = mid ++ V3 := ⟨_, rfl⟩
            rw [← hM3] at N5 w3'
            k_unmd
            k_fold
            k_steps
            refine stopGo ?_
            (with_reducible rename Fr _ _ _ _ => kF)
            refine For_invVF kF ?hx ?hp ?_ ?hs ?hE
            case hx => rfl
            case hp => rfl
            case hs => intro _; rfl
            case hE => (rw [hL00]; with_reducible exact PassesOwn.leaving)
            k_steps
            refine stopGo ?_
            rename IsRange _ _ _ _ _ _ _ _ => hR
            rename Fr _ _ _ _ => F6
            rename News _ _ _ _ => N6
            rw [tv_size] at hR
            rw [hM3] at N6
            refine loop_range (by rfl) F6 N6 hR (range_small (by omega) (by omega) (by omega) (by omega)) (ws.length + 1 - j) (by rw [range_n]; omega)
              [Str.ofString "behind", Str.ofString "many"] (fun _ : Unit => _)
              (fun l _ news => TAt Challenge.rw_on0168_01.row.prog w0 D p c3 V3 (25 * i + 5 * j + l) (KeyLt i j l) news)
              () Agr.rfl ⟨od, n, tn, k, tk0, e, om, mk, tm, ts, mid, rfl, hT, hmid3⟩ ?_ ?_
            · clear hT hmid3 hM3 w3' F6 N6 hR N5
              intro l tl _ u4 news₄ h4 tk4 It4 own4 hl hI4 hnit4 hown4 hItO4 F7 N7
              obtain ⟨od, n, tn, k, tk0, e, om, mk, tm, ts, mid, rfl, hT, hmid⟩ := hI4
              simp only [List.cons_append, List.append_assoc] at N7
              have v4D := apart_own1 v3D hown4 (hnit4 (D, od) (.head _))
              have v4p := apart_own1 v3p hown4 (hnit4 (p, _) (.tail _ (.head _)))
              have v43 := apart_own1 v33 hown4 (hnit4 (c3, om) (.tail _ (.tail _ (.head _))))
              have v4s : ∀ q ∈ V, q ∈ V3 ++ own4 := fun q hq => sub_l _ (v3s q hq)
              have m4D : ∀ q ∈ mid ++ (V3 ++ own4), q.1 ≠ D := fun q hq => (List.mem_append.mp hq).elim (fun h => (hmid q h).1.1) (v4D q)
              have m4p : ∀ q ∈ mid ++ (V3 ++ own4), q.1 ≠ p := fun q hq => (List.mem_append.mp hq).elim (fun h => (hmid q h).1.2.1) (v4p q)
              have m43 : ∀ q ∈ mid ++ (V3 ++ own4), q.1 ≠ c3 := fun q hq => (List.mem_append.mp hq).elim (fun h => (hmid q h).1.2.2) (v43 q)
              have p4 : (_, o') ∈ mid ++ (V3 ++ own4) := sub_r _ (v4s _ vP)
              have t4 : (_, oc2) ∈ mid ++ (V3 ++ own4) := sub_r _ (v4s _ vT)
              have mm4 : ∀ q ∈ mid, q ∈ mid ++ (V3 ++ own4) := sub_l
              have mv4 : ∀ q ∈ V3, q ∈ mid ++ (V3 ++ own4) := fun q hq => sub_r _ (sub_l _ hq)
              have mo4 : ∀ q ∈ own4, q ∈ mid ++ (V3 ++ own4) := fun q hq => sub_r _ (sub_r _ hq)
              obtain ⟨M4, hM4⟩ : ∃ M4, M4 = mid ++ (V3 ++ own4) := ⟨_, rfl⟩
              rw [← hM4] at N7 m4D m4p m43 p4 t4 mm4 mv4 mo4
              clear v4D v4p v43 v4s v3D v3p v33 hM4
              k_unmd
              k_fold
              k_steps
              refine stopGo ?_
              have hk1 := hT.k1
              have hm1 := hT.m1
              refine draw_spec (by walk_at "mine room") (by assumption) (by assumption) (by assumption) (swap12 N7) (ne_cons (Ne.symm hDp) (ne_cons h3p m4p)) hT.n0 hT.k0 (by omega) (by decide) (by decide) ?_
              intro d td n2 tn2 tk2 e2 h2 t2 hd0 hd1 hn2 F8 N8
              (try dsimp only)
              k_steps
              · try row_walk
                refine stopGo ?_
                refine LCg.ListComp_U (F₀ := by k_asm) (by with_unfolding_all rfl) (by decide) (by rfl) (by decide) (by rfl) ?_
                k_steps
                refine stopGo ?_
                rename IsRange _ _ _ _ _ _ _ _ => hR
                rename Fr _ _ _ _ => F9
                rename News _ _ _ _ => N9
                obtain ⟨Z, hZ⟩ : ∃ Z, Z = (p, listOf #[.int n2 tn2, .int (k + 1) tk2] e2) :: (D, od) :: (c3, om) :: M4 := ⟨_, rfl⟩
                rw [← hZ] at N9
                have zc3 : (c3, om) ∈ Z := hZ ▸ .tail _ (.tail _ (.head _))
                rw [ec3] at zc3
                have hom := hT.om
                have hm0 := hT.m0
                refine LCg.CompSrc.range (n := d.toNat) (by rfl) F9 N9 hR (range_small (by omega) (by omega) (by omega) (by omega)) (by rw [range_n, Int.sub_zero]) (size_line_le (by omega)) ?_
                intro g9
                clear F9 N9 hR F8 N8
                refine rest_inv (fun x ys news => ∃ new, news = new ++ Z ∧ ys.length = x ∧ Paired (NodeIn new) ys (mkN mk x) ∧ (∀ q ∈ new, ∀ z ∈ Z, z.1 ≠ q.1)) ?_ ?_ _ 0 [] _ (Nat.zero_add _) ⟨[], rfl, rfl, .nil, (fun _ h => nomatch h)⟩
                · intro x v ys news I oI C' oC D' m₂ h tk E' hx' hv hI hO hx F6 N6 off ne
                  obtain ⟨new, rfl, hyl, hpr, hnw⟩ := hI
                  obtain ⟨tx9, rfl⟩ := hv
                  have zc4 := sub_r (a := new) _ zc3
                  have zn : ∀ q ∈ new, q ∈ new ++ Z := sub_l
                  have zz : ∀ q ∈ Z, q ∈ new ++ Z := sub_r
                  obtain ⟨Z9, hZ9⟩ : ∃ Z9, Z9 = new ++ Z := ⟨_, rfl⟩
                  rw [← hZ9] at N6 off zc4 zn zz
                  rw [Int.zero_add] at hx
                  k_steps
                  refine stopGo ?_
                  rename News _ _ _ _ => N7
                  refine tree_spec (by walk_at "mine room") (by assumption) (by assumption) (by assumption) N7 (.head _) ?_
                  intro y c q es n1 nn h1 t1 F8 N8 l8 l9 l10 g1 g2
                  (try dsimp only)
                  k_steps
                  refine stopGo ?_
                  rename Fr _ _ _ _ => FA
                  rename News _ _ _ _ => NA
                  have lI := l8 (I, oI) (.tail _ (.head _))
                  have lC := l8 (C', oC) (.tail _ (.tail _ (.head _)))
                  have lD := l8 (D', LCg.lst ys) (.tail _ (.tail _ (.tail _ (.head _))))
                  have lZ : ∀ z ∈ Z9, z.1 < c := fun z hz => l8 z (.tail _ (.tail _ (.tail _ (.tail _ hz))))
                  dsimp only at lI lC lD
                  refine compEnd FA NA ((y, instObj 161 c) :: (c, dictOf es n1) :: Z9) (by walk_at "mine sub") ?_ trivial ⟨(y, instObj 161 c) :: (c, dictOf es n1) :: new, by rw [hZ9]; rfl, by simp [hyl], ?_, ?_⟩
                  · intro z hz
                    rcases List.mem_cons.mp hz with rfl | hz
                    · exact ⟨Nat.ne_of_gt (Nat.lt_trans lI l9), Nat.ne_of_gt (Nat.lt_trans lC l9), Nat.ne_of_gt (Nat.lt_trans lD l9)⟩
                    · rcases List.mem_cons.mp hz with rfl | hz
                      · exact ⟨Nat.ne_of_gt lI, Nat.ne_of_gt lC, Nat.ne_of_gt lD⟩
                      · exact off z hz
                  · rw [mkN_succ]
                    exact Paired.snoc (.tree (.head _) (.tail _ (.head _)) g1 g2) (Mine.Paired.monoNodes (fun z hz => .tail _ (.tail _ hz)) hpr)
                  · intro z hz u hu
                    rcases List.mem_cons.mp hz with rfl | hz
                    · exact Nat.ne_of_lt (Nat.lt_trans (lZ u (zz u hu)) l9)
                    · rcases List.mem_cons.mp hz with rfl | hz
                      · exact Nat.ne_of_lt (lZ u (zz u hu))
                      · exact hnw z hz u hu
                · intro ys news hI
                  obtain ⟨new, rfl, hyl, hpr, hnw⟩ := hI
                  unfold LCg.FinE
                  intro Dl h tk F7 N7 o1
                  have o1' := off1_mem o1
                  have zc4 := sub_r (a := new) _ zc3
                  have zM : ∀ z ∈ M4, z ∈ Z := hZ ▸ fun z hz => .tail _ (.tail _ (.tail _ hz))
                  have zp4 := sub_r (a := new) _ (zM _ p4)
                  have zt4 := sub_r (a := new) _ (zM _ t4)
                  obtain ⟨Z9, hZ9⟩ : ∃ Z9, Z9 = new ++ Z := ⟨_, rfl⟩
                  rw [← hZ9] at N7 zc4 zp4 zt4
                  try row_walk
                  k_steps
                  refine stopGo ?_
                  rename_i FB NB hx FX NX kX xX xY nX
                  rw [hZ9] at NX NB
                  have hTT := fun q hq => Heap.lt_size (NB q hq).1
                  clear FB NB kX
                  (try dsimp only at NX hTT)
                  (try dsimp only)
                  generalize h.objs.size = T at NX hTT ⊢
                  obtain ⟨R, hR, N8, rD, rp, r3, rM⟩ := yes_led hZ NX hTT o1' hnw m4D m4p m43
                  have hT2 : d.toNat ≤ 2 := by omega
                  have htk := hT.tk.mono (led' := (D, od) :: (p, listOf #[.int n2 tn2, .int (k + 1) tk2] e2) :: (c3, om) :: R) (fun q hq => (List.mem_cons.mp hq).elim (fun e => e ▸ .head _) fun hq => .tail _ (.tail _ (.tail _ (by rw [hR]; exact .tail _ (.tail _ (sub_r _ (mm4 q hq)))))))
                  have hlen := hT.len
                  refine tk_set FX N8 (ne_cons hDp (ne_cons hD3 rD)) htk (by rw [hR]; exact .tail _ (.tail _ (.head _))) (Nat.le_of_ble_eq_true rfl) (atK_none fun t ht => key_fresh hsy (hT.keys t ht)) (by simp only [tx, List.length_map]; omega) ?_
                  intro h9 oD F9 N9 H9
                  have rT : (T, tupO [.int sy tsy, .int (j : Int) tj, .int ((j : Int) + (l : Int)) tl] 0) ∈ R := by rw [hR]; exact .head _
                  have rL : (Dl, LCg.lst ys) ∈ R := by rw [hR]; exact .tail _ (.head _)
                  have rMM : ∀ q ∈ M4, q ∈ R := by rw [hR]; exact fun q hq => .tail _ (.tail _ (sub_r _ hq))
                  have rn : ∀ q ∈ new, q ∈ R := by rw [hR]; exact fun q hq => .tail _ (.tail _ (sub_l _ hq))
                  have p9 := rMM _ p4
                  have t9 := rMM _ t4
                  clear NX N8 FX htk hR
                  obtain ⟨mid', hmid'⟩ : ∃ mid', mid' = (T, tupO [.int sy tsy, .int (j : Int) tj, .int ((j : Int) + (l : Int)) tl] 0) :: (Dl, LCg.lst ys) :: (new ++ mid) := ⟨_, rfl⟩
                  have mT : (T, tupO [.int sy tsy, .int (j : Int) tj, .int ((j : Int) + (l : Int)) tl] 0) ∈ mid' := by rw [hmid']; exact .head _
                  have mL : (Dl, LCg.lst ys) ∈ mid' := by rw [hmid']; exact .tail _ (.head _)
                  have mn : ∀ q ∈ new, q ∈ mid' := by rw [hmid']; exact fun q hq => .tail _ (.tail _ (sub_l _ hq))
                  have mm : ∀ q ∈ mid, q ∈ mid' := by rw [hmid']; exact fun q hq => .tail _ (.tail _ (sub_r _ hq))
                  have m3 : ∀ q ∈ mid', q ∈ R ∧ ((∀ z ∈ M4, z.1 ≠ q.1) ∨ q ∈ mid) := by
                    rw [hmid']
                    intro q hq
                    simp only [List.mem_cons, List.mem_append] at hq
                    rcases hq with rfl | rfl | hq | hq
                    · exact ⟨rT, .inl (rM _ (.head _))⟩
                    · exact ⟨rL, .inl (rM _ (.tail _ (.head _)))⟩
                    · exact ⟨rn q hq, .inl (rM q (.tail _ (.tail _ hq)))⟩
                    · exact ⟨rMM q (mm4 q hq), .inr hq⟩
                  have hTK := tk_restrict N9 H9 hT.tk (fun q hq => ⟨(hmid q hq).1.1, mm q hq⟩) mT
                  subst ec3
                  (try dsimp only)
                  k_steps
                  rename_i h10 om' F11 N11 d10
                  have hC4 : 25 * i + 5 * j + l ≤ 400 := by omega
                  obtain ⟨oI4, hI4⟩ := hItO4
                  refine TurnPost.ok F11 N11 () ((D, oD) :: (p, listOf #[.int n2 tn2, .int (k + 1) tk2] e2) :: (_, om') :: (mid' ++ V3)) (by walk_at "mine agr")
                    ⟨oD, n2, tn2, k + 1, tk2, e2, om', mk + d, _, ts ++ [((sy, (j : Int), (j : Int) + (l : Int)), T, Dl, mkN mk d.toNat)], mid', rfl,
                      tst_add hT hTK mm hn2 d10 (by omega) hd1 hC4 ⟨ys, _, mL, Mine.Paired.monoNodes mn (by rw [hyl] at *; exact hpr)⟩ (fun _ => keyLt_l) (key_new hsy), ?_⟩ ?_ ?_ ?_
                  · intro q hq
                    obtain ⟨q1, q2⟩ := m3 q hq
                    refine ⟨⟨rD q q1, rp q q1, r3 q q1⟩, fun z hz => ?_⟩
                    rcases q2 with q2 | q2
                    · exact q2 z (mv4 z hz)
                    · exact (hmid q q2).2 z hz
                  · intro q hq
                    simp only [List.mem_cons, List.mem_append] at hq ⊢
                    rcases hq with hq | hq | hq | hq | hq
                    · simp [hq]
                    · simp [hq]
                    · simp [hq]
                    · simp [(m3 q hq).1]
                    · simp [rMM q (mv4 q hq)]
                  · intro q hq
                    simp [rMM q (mo4 q hq)]
                  · refine turn_ne hnit4 fun q hq => ?_
                    rcases (m3 q hq).2 with q2 | q2
                    · exact .inr (q2 _ (mo4 _ hI4)).symm
                    · exact .inl q2
              · rename Fr _ _ _ _ => F9
                rename News _ _ _ _ => N9
                refine TurnPost.ok F9 N9 () ((D, od) :: (p, listOf #[.int n2 tn2, .int (k + 1) tk2] e2) :: (c3, om) :: (mid ++ V3)) (by walk_at "mine agr") ⟨od, n2, tn2, k + 1, tk2, e2, om, mk, tm, ts, mid, rfl, tst_skip hT hn2 fun _ => keyLt_l, hmid⟩ ?_ ?_ (turn_ne hnit4 fun q hq => .inl hq)
                · intro q hq
                  simp only [List.mem_cons, List.mem_append] at hq ⊢
                  rcases hq with h | h | h | h | h
                  · simp [h]
                  · simp [h]
                  · simp [h]
                  · simp [mm4 q h]
                  · simp [mv4 q h]
                · intro q hq
                  simp [mo4 q hq]
            · intro h5 tk5 _ u5 news5 F7 N7 hI5
              rw [hV3] at hI5
              obtain ⟨news6, hI6, s6, o6, i6⟩ := tat_out (C' := 25 * i + 5 * (j + 1)) (P' := KeyLt i (j + 1) 0) hI5 (by omega) (fun _ => keyLt_j) hItO3 v3I
              k_steps
              rename Fr _ _ _ _ => F8
              exact TurnPost.ok F8 N7 () news6 (by walk_at "mine agr") hI6 s6 o6 i6
          · intro h5 tk5 _ u5 news5 F7 N7 hI5
            rw [hV2] at hI5
            obtain ⟨news6, hI6, s6, o6, i6⟩ := tat_out (C' := 25 * (i + 1)) (P' := KeyLt (i + 1) 0 0) hI5 (by omega) (fun _ => keyLt_i) hItO v2I
            k_steps
            rename Fr _ _ _ _ => F8
            exact TurnPost.ok F8 N7 () news6 (by walk_at "mine agr") hI6 s6 o6 i6
        · intro h tk _ u news' F4 N4 hI
          try row_walk
          obtain ⟨od, n, tn, k, tk0, e, om, mk, tm, ts, mid, rfl, hT, hmid⟩ := hI
          have hk0 := hT.k0
          have hk1 : k ≤ 63 := hT.k1
          have hn0 := hT.n0
          obtain ⟨Y, hY⟩ : ∃ Y, Y = (D, od) :: (c3, om) :: (mid ++ V) := ⟨_, rfl⟩
          have yD : (D, od) ∈ Y := hY ▸ .head _
          have ym : ∀ q ∈ mid, q ∈ Y := hY ▸ fun q hq => .tail _ (.tail _ (sub_l _ hq))
          have yV : ∀ q ∈ V, q ∈ Y := hY ▸ fun q hq => .tail _ (.tail _ (sub_r _ hq))
          have yK : TK Challenge.rw_on0168_01.row.prog w0 Y D (tx ts) := hT.tk.mono fun q hq => (List.mem_cons.mp hq).elim (fun e => e ▸ yD) (ym q)
          have yN : ∀ t ∈ ts, NodesAt Y t.2.2.1 t.2.2.2 := fun t ht => (hT.nodes t ht).mono ym
          have yp : ∀ q ∈ Y, q.1 ≠ p := hY ▸ ne_cons (Ne.symm hDp) (ne_cons h3p fun q hq => (List.mem_append.mp hq).elim (fun h => (hmid q h).1.2.1) (vp q))
          have hmk := hT.marked
          have h2 := hT.two
          have h5 : ∀ t ∈ ts, 6 ≤ t.1.1 := fun t ht => (hT.keys t ht).1
          have hts : ts.length ≤ 50 := hT.len
          have yP := yV _ vP
          have yT := yV _ vT
          have yR := yV _ vR
          have yW := yV _ vW
          have yG := vG.mono yV
          have N5 := News.subset (led' := (p, listOf #[.int n tn, .int k tk0] e) :: Y) N4 (by
            rw [hY]
            intro q hq
            simp only [List.mem_cons] at hq ⊢
            rcases hq with h | h | h | h <;> simp [h])
          clear N4 hT hmid hY ym yV vP vT vR vW vG vS vD vp v3
          (try dsimp only)
          k_unmd
          try k_fold
          k_steps
          refine stopGo ?_
          rename News _ _ _ _ => N6
          rename Fr _ _ _ _ => F6
          refine draw_spec (by walk_at "mine room") F6 (by assumption) (by assumption) N6 yp hn0 hk0 (by omega) (by simp only [tv_size]; omega) (by simp only [tv_size]; omega) ?_
          simp only [tv_size]
          intro fi tfi n1 tn1 tk1 e1 h1 t1 hf0 hf1 hn1 F7 N7
          (try dsimp only)
          k_steps
          refine stopGo ?_
          rename News _ _ _ _ => N7'
          rename Fr _ _ _ _ => F7'
          refine draw_spec (by walk_at "mine room") F7' (by assumption) (by assumption) N7' yp hn1 (by omega) (by omega) (by simp only [tv_size]; omega) (by simp only [tv_size]; omega) ?_
          simp only [tv_size]
          intro bd tbd n2 tn2 tk2 e2 h2' t2 hb0 hb1 hn2 F8 N8
          (try dsimp only)
          k_steps
          refine stopGo ?_
          rename News _ _ _ _ => N8'
          rename Fr _ _ _ _ => F8'
          refine draw_spec (by walk_at "mine room") F8' (by assumption) (by assumption) N8' yp hn2 (by omega) (by omega) (by decide) (by decide) ?_
          intro bo tbo n3 tn3 tk3 e3 h3' t3 hb0' hb1' hn3 F9 N9
          (try dsimp only)
          k_steps
          refine stopGo ?_
          rename News _ _ _ _ => NA
          rename Fr _ _ _ _ => FA
          obtain ⟨U, hU⟩ : ∃ U, U = (p, listOf #[.int n3 tn3, .int (k + 1 + 1 + 1) tk3] e3) :: Y := ⟨_, rfl⟩
          have uY : ∀ q ∈ Y, q ∈ U := hU ▸ fun q hq => .tail _ hq
          rw [← hU] at NA
          have hfe : fi + bd ≤ (ws.length : Int) := by omega
          have hrs7 : ∀ q ∈ rs, 0 ≤ q.1 ∧ q.1 ≤ 7 := fun q hq => by have := hrs q hq; omega
          refine covers_spec rs.length rfl (room_mono (d := 9) (by walk_at "mine room") (by omega)) FA (by assumption) (by assumption) NA (uY _ yR) (uY _ yW) (yK.mono uY) (fun t ht => (yN t ht).mono uY) hmk h2 hrl3 hwl4 hrs7 hf0 (by omega) hfe ?_
          intro du dvs dk new hB tB FB NB hdv hd1 hd2
          (try dsimp only)
          have hdl := covS_len h2 (ti ws) (ti rs).reverse fi (fi + bd) hf0 (by omega)
          have hrl : (ti rs).reverse.length ≤ 3 := by simp [ti]; omega
          obtain ⟨U1, hU1⟩ : ∃ U1, U1 = (du, listOf (List.toArray dvs) dk) :: (new ++ U) := ⟨_, rfl⟩
          have u1 : ∀ q ∈ Y, q ∈ U1 := hU1 ▸ fun q hq => .tail _ (sub_r _ (uY q hq))
          have uL : (du, listOf (List.toArray dvs) dk) ∈ U1 := hU1 ▸ .head _
          have uS := hdv
          have uS : Paired (StrsTup U1) dvs (covS (tP ts) (ti ws) (ti rs).reverse fi (fi + bd)) := Paired.imp (fun _ _ => StrsTup.mono (hU1 ▸ fun q hq => .tail _ (sub_l _ hq))) hdv
          rw [← hU1] at NB
          have uK := yK.mono u1
          have uN : ∀ t ∈ ts, NodesAt U1 t.2.2.1 t.2.2.2 := fun t ht => (yN t ht).mono u1
          have uP := u1 _ yP
          have uT := u1 _ yT
          have uR := u1 _ yR
          have uW := u1 _ yW
          have uG := yG.mono u1
          have hdl3 : (covS (tP ts) (ti ws) (ti rs).reverse fi (fi + bd)).length ≤ 1000 := Nat.le_trans hdl ((Nat.pow_le_pow_right (n := 10) (by decide) hrl : 10 ^ _ ≤ 10 ^ 3))
          clear hdv hd1 hd2 hU1 u1 yK yN yP yT yR yW yG yD yp uY NA FA hU hdl
          k_steps
          refine stopGo ?_
          (rename StG => stG8); clear stG8; (have stL9 : StL := trivial); (have stI9 : StI := trivial)
          try row_walk
          refine ListComp_Keys (by assumption) (by with_unfolding_all rfl) (by decide) (by rfl) (by decide) (by rfl) ?_
          k_steps
          refine stopGo ?_
          rename News _ _ _ _ => NA
          rename Fr _ _ _ _ => FA
          obtain ⟨es, ep, hDm, hes⟩ := uK.obj
          have hesz : es.size = ts.length := keys_size hes
          have htn := tx_nodup uK.nodup
          refine ⟨D, es, ep, U1, rfl, uK.sys, rfl, FA, NA, hDm, size_line_le (by omega), ?_⟩
          intro g9
          refine rest_inv (fun j ys news => ∃ new cs, news = new ++ U1 ∧ ys.length = j ∧ cs.map cT = (ts.take j).map tT3 ∧ PairsIn new ys cs) ?_ ?_ _ 0 [] _ (Nat.zero_add _) ⟨[], [], rfl, rfl, rfl, .nil⟩
          · intro j v ys news I oI C' oC D' m₂ h tk E' hj hv hI hO hx F6 N6 off ne
            obtain ⟨new, cs, rfl, hyl, hcs, hpr⟩ := hI
            obtain ⟨en, hen, rfl⟩ := hv
            have hjt : j < ts.length := by omega
            obtain ⟨⟨tk9, tT, tl, tn⟩, ht⟩ : ∃ t, ts[j]? = some t := ⟨_, List.getElem?_eq_getElem hjt⟩
            have hek : en.key = .ref tT := keys_key hes ht hen
            rw [hek] at hx
            have zc4 := sub_r (a := new) _ uT
            have zn : ∀ q ∈ new, q ∈ new ++ U1 := sub_l
            have zz : ∀ q ∈ U1, q ∈ new ++ U1 := sub_r
            obtain ⟨Z9, hZ9⟩ : ∃ Z9, Z9 = new ++ U1 := ⟨_, rfl⟩
            rw [← hZ9] at N6 off zc4 zn zz
            have hPP := fun q hq => Heap.lt_size (N6 q hq).1
            k_steps
            refine stopGo ?_
            obtain ⟨q1, q2, q3, qn, hkm⟩ := uK.keys (tk9, tT, .ref tl) (List.mem_map.mpr ⟨_, List.mem_of_getElem? ht, rfl⟩)
            have hatk := atK_get htn ht
            obtain ⟨ka, kb, kc⟩ := tk9
            refine tk_item (v := .ref tl) uK N6 (fun q hq => .tail _ (.tail _ (.tail _ (zz q hq)))) (.tail _ (.tail _ (.tail _ (zz _ hkm)))) (Nat.le_of_ble_eq_true rfl) hatk ?_
            (try dsimp only)
            k_steps
            refine stopGo ?_
            obtain ⟨lvs, ln, hlm, hlp⟩ := uN _ (List.mem_of_getElem? ht)
            have hll : lvs.length = tn.length := Paired.len hlp
            have hl2 : tn.length ≤ 2 := h2 _ (List.mem_of_getElem? ht)
            refine call_len_list (items := List.toArray lvs) (News.isList N6 (.tail _ (.tail _ (.tail _ (zz _ hlm))))) (by simp only [List.size_toArray]; omega) ?_
            (try dsimp only)
            k_steps
            refine stopGo ?_
            rename Fr _ _ _ _ => FB
            rename News _ _ _ _ => NB
            (try dsimp only at NB hPP)
            rw [show lvs.toArray.size = tn.length by simp [hll]] at NB
            generalize h.objs.size = P at NB hPP
            have pI := hPP (I, oI) (.head _)
            have pC := hPP (C', oC) (.tail _ (.head _))
            have pD := hPP (D', LCg.lst ys) (.tail _ (.tail _ (.head _)))
            refine compEnd FB NB ((P, tupO [.ref tT, .int (tn.length : Int) _] 0) :: Z9) (by walk_at "mine sub") ?_ (.tail _ (zz _ hDm)) ⟨(P, tupO [.ref tT, .int (tn.length : Int) _] 0) :: new, _, by rw [hZ9]; rfl, by simp [hyl], cs_snoc hcs ht, Paired.snoc ⟨P, 0, rfl, .head _⟩ (hpr.mono fun q hq => .tail _ hq)⟩
            intro q hq
            rcases List.mem_cons.mp hq with rfl | hq
            · exact ⟨Nat.ne_of_gt pI, Nat.ne_of_gt pC, Nat.ne_of_gt pD⟩
            · exact off q hq
          · intro ys news hI
            obtain ⟨new, cs, rfl, hyl, hcs, hpr⟩ := hI
            rw [take_all (l := ts) hesz] at hcs
            obtain ⟨hci, hck, hcm, hcl, hcv⟩ := cs_facts hcs
            unfold LCg.FinE
            intro Dl h tk F7 N7 o1
            k_steps
            refine stopGo ?_
            rename Fr _ _ _ _ => FB
            rename News _ _ _ _ => NB
            refine dict_pairs (xs := cx cs) rfl (Nat.le_of_ble_eq_true rfl) FB NB (Top.nolimit (by assumption)) (.head _) (by simp [cx]; exact (Paired.len hpr).symm) (by simp [cx]; omega) (hpr.mono fun q hq => .tail _ (sub_l _ hq)).get
              (fun x hx => by
                obtain ⟨t, ht, e1, e2⟩ := hcm x hx
                obtain ⟨q1, q2, q3, qn, hkm⟩ := uK.keys (t.1, t.2.1, .ref t.2.2.1) (List.mem_map.mpr ⟨t, ht, rfl⟩)
                rw [e1, e2]
                exact ⟨q1, q2, q3, qn, .tail _ (sub_r _ hkm)⟩) (by rw [hck]; exact htn) ?_
            intro Cd oCd h9 t9 F9 N9 hCn HK
            obtain ⟨U2, hU2⟩ : ∃ U2, U2 = (Cd, oCd) :: (Dl, LCg.lst ys) :: (new ++ U1) := ⟨_, rfl⟩
            rw [← hU2] at N9 HK
            have u2 : ∀ q ∈ U1, q ∈ U2 := hU2 ▸ fun q hq => .tail _ (.tail _ (sub_r _ hq))
            have vK := uK.mono u2
            have vN : ∀ t ∈ ts, NodesAt U2 t.2.2.1 t.2.2.2 := fun t ht => (uN t ht).mono u2
            have vT := u2 _ uT
            have vR := u2 _ uR
            have vW := u2 _ uW
            have vG := uG.mono u2
            have vL := u2 _ uL
            have vS : Paired (StrsTup U2) dvs (covS (tP ts) (ti ws) (ti rs).reverse fi (fi + bd)) := Paired.imp (fun _ _ => StrsTup.mono u2) uS
            have hways : waysP (cntP (ci cs)) (ti ws) fi (fi + bd) (ti rs) = (dvs.length : Int) := by
              rw [Paired.len vS]
              exact ways_law (tP_none h5) (word_lt hws) (cnt_len hci) (by omega) (ti rs)
            clear uK uN uT uR uW uG uL uS u2 hU2 hpr hyl o1 hCn NB FB NA FA
            k_steps
            refine stopGo ?_
            rename Fr _ _ _ _ => FA
            rename News _ _ _ _ => NA
            refine ways_spec (by walk_at "mine room") FA (by assumption) (by assumption) NA vR vW HK hrl3 hwl4 hf0 (by omega) hfe (fun c hc => by
              obtain ⟨t, ht, e⟩ := hcv c hc
              have := h2 t ht
              omega) ?_
            intro tw hW tW FW NW
            rw [hways]
            have hdv : dvs.length ≤ 1000 := Paired.len vS ▸ hdl3
            clear FA NA
            (try dsimp only)
            k_steps
            refine stopGo ?_
            rename News _ _ _ _ => NB
            refine call_len_list (items := List.toArray dvs) (News.isList NB vL) (by simp only [List.size_toArray]; omega) ?_
            (try dsimp only)
            rw [List.size_toArray]
            k_steps
            · exact absurd rfl ‹(dvs.length : Int) ≠ (dvs.length : Int)›
            refine stopGo ?_
            clear hways hcm hcv
            try row_walk
            refine LCg.Assign_ListComp_U (F₀ := by k_asm) (by rfl) (by with_unfolding_all rfl) (by rfl) (by decide) (by rfl) (by decide) (by rfl) (by rfl) (by rfl) ?_
            k_steps
            refine stopGo ?_
            rename News _ _ _ _ => NB
            refine call_len_list (items := List.toArray dvs) (News.isList NB vL) (by simp only [List.size_toArray]; omega) ?_
            (try dsimp only)
            k_steps
            refine stopGo ?_
            rename Fr _ _ _ _ => FA
            rename News _ _ _ _ => NA
            obtain ⟨f1, f2, f3⟩ := rows_facts h5 hws hmk (m := dvs.length + 1) (Nat.succ_pos _) (show fi ≤ fi + bd by omega) (ti rs) hdl3
            have hrl3' : (ti rs).length ≤ 3 := by simp only [ti, List.length_map]; exact hrl3
            refine rows_spec (by walk_at "mine room") FA (by assumption) (by assumption) NA vG vR vW vK vN hrl3 hwl4 hws hf0 (by omega) hfe (by simp only [List.size_toArray]; omega) (by simp only [List.size_toArray]; omega) ?_
            intro ra led1 hR tR FR NR hsub hrows
            simp only [List.size_toArray] at hrows
            rw [show ((dvs.length : Int) + 1) = ((dvs.length + 1 : Nat) : Int) from rfl] at hrows
            generalize hrw : rowsP (tP ts) (ti ws) fi (fi + bd) ((dvs.length + 1 : Nat) : Int) (ti rs) = rows at hrows f1 f2 f3
            obtain ⟨rvs, rn, hrm, hrp⟩ := hrows
            have hrvl : rvs.length = rows.length := Paired.len hrp
            (try dsimp only)
            k_steps
            refine stopGo ?_
            refine LCg.CompSrc.ledger (by rfl) FR NR hrm (size_line_le (by simp only [List.size_toArray]; omega)) ?_
            intro g9
            refine rest_inv (fun j ys news => ∃ new, news = new ++ led1 ∧ ys.length = j ∧ Paired (StrsTup new) ys ((rows.take j).map (·.map lab))) ?_ ?_ _ 0 [] _ (Nat.zero_add _) ⟨[], rfl, rfl, .nil⟩
            · intro j v ys news I oI C' oC D' m₂ h tk E' hj hv hI hO hx F6 N6 off ne
              obtain ⟨new, rfl, hyl, hpr⟩ := hI
              obtain ⟨row, hrow, r1, rvs1, rn1, rfl, hr1, hp1⟩ := Paired.get hrp (i := j) (a := v) (by simpa using hv)
              obtain ⟨g1, g2⟩ := f3 row (List.mem_of_getElem? hrow)
              have zz : ∀ q ∈ led1, q ∈ new ++ led1 := sub_r
              obtain ⟨Z9, hZ9⟩ : ∃ Z9, Z9 = new ++ led1 := ⟨_, rfl⟩
              rw [← hZ9] at N6 off zz
              k_steps
              refine stopGo ?_
              refine marks_spec (by walk_at "mine room") F6 (by assumption) (by assumption) N6 (.tail _ (.tail _ (.tail _ (zz _ hr1)))) (Mine.Paired.monoNodes (fun q hq => .tail _ (.tail _ (.tail _ (zz q hq)))) hp1) (fun nd hnd => g1 nd hnd) (by omega) ?_
              intro Dm us h7 t7 F7 N7 hus hne
              (try dsimp only)
              k_steps
              refine stopGo ?_
              refine compEnd F7 N7 ((Dm, tupO us 0) :: Z9) (by walk_at "mine sub") ?_ (.inr ⟨_, .tail _ (zz _ hrm), rfl, _, rfl⟩) ⟨(Dm, tupO us 0) :: new, by rw [hZ9]; rfl, by simp [hyl], ?_⟩
              · intro q hq
                rcases List.mem_cons.mp hq with rfl | hq
                · exact ⟨(hne (I, oI) (.head _)).symm, (hne (C', oC) (.tail _ (.head _))).symm, (hne (D', LCg.lst ys) (.tail _ (.tail _ (.head _)))).symm⟩
                · exact off q hq
              · rw [List.take_add_one, hrow, List.map_append]
                exact Paired.snoc ⟨Dm, us, 0, rfl, .head _, hus⟩ (Paired.imp (fun _ _ => StrsTup.mono fun q hq => .tail _ hq) hpr)
            · intro ys news hI
              obtain ⟨new, rfl, hyl, hpr⟩ := hI
              rw [take_all (l := rows) (by simp [hrvl])] at hpr
              unfold LCg.FinA
              intro Ds h tk F7 N7 o1
              rw [f1, List.take_of_length_le (by rw [← Paired.len vS]; omega)] at hpr
              obtain ⟨U3, hU3⟩ : ∃ U3, U3 = (Ds, LCg.lst ys) :: (new ++ led1) := ⟨_, rfl⟩
              rw [← hU3] at N7
              have u3 : ∀ q ∈ U2, q ∈ U3 := hU3 ▸ fun q hq => .tail _ (sub_r _ (hsub q hq))
              have xK := vK.mono u3
              have xN : ∀ t ∈ ts, NodesAt U3 t.2.2.1 t.2.2.2 := fun t ht => (vN t ht).mono u3
              have xT := u3 _ vT
              have xR := u3 _ vR
              have xW := u3 _ vW
              have xG := vG.mono u3
              have xL := u3 _ vL
              have xS : Paired (StrsTup U3) dvs (covS (tP ts) (ti ws) (ti rs).reverse fi (fi + bd)) := Paired.imp (fun _ _ => StrsTup.mono u3) vS
              have xQ : Paired (StrsTup U3) ys (covS (tP ts) (ti ws) (ti rs).reverse fi (fi + bd)) := Paired.imp (fun _ _ => StrsTup.mono (hU3 ▸ fun q hq => .tail _ (sub_l _ hq))) hpr
              have xD : (Ds, listOf (List.toArray ys) ys.length) ∈ U3 := by rw [hU3]; exact .head _
              have xH := HK.mono u3
              clear vK vN vT vR vW vG vL vS u3 hU3 hpr hyl o1 HK FR NR hrp hrm f1 f2 f3 hrw hsub
              (try dsimp only)
              k_steps
              refine stopGo ?_
              try row_walk
              refine LCg.Assign_ListComp_U (F₀ := by k_asm) (by rfl) (by with_unfolding_all rfl) (by rfl) (by decide) (by rfl) (by decide) (by rfl) (by rfl) (by rfl) ?_
              k_steps
              refine stopGo ?_
              rename Fr _ _ _ _ => FA
              rename News _ _ _ _ => NA
              have hbo : (1 + bo) = (((1 + bo).toNat : Nat) : Int) := by omega
              obtain ⟨f1, f2, f3⟩ := rows_facts h5 hws hmk (m := (1 + bo).toNat) (by omega) (show fi ≤ fi + bd by omega) (ti rs) hdl3
              refine rows_spec (by walk_at "mine room") FA (by assumption) (by assumption) NA xG xR xW xK xN hrl3 hwl4 hws hf0 (by omega) hfe (by omega) (by omega) ?_
              intro ra led1 hR tR FR NR hsub hrows
              rw [hbo] at hrows
              generalize hrw : rowsP (tP ts) (ti ws) fi (fi + bd) ((1 + bo).toNat : Nat) (ti rs) = rows at hrows f1 f2 f3
              obtain ⟨rvs, rn, hrm, hrp⟩ := hrows
              have hrvl : rvs.length = rows.length := Paired.len hrp
              (try dsimp only)
              k_steps
              refine stopGo ?_
              refine LCg.CompSrc.ledger (by rfl) FR NR hrm (size_line_le (by simp only [List.size_toArray]; omega)) ?_
              intro g9
              refine rest_inv (fun j ys news => ∃ new, news = new ++ led1 ∧ ys.length = j ∧ Paired (StrsTup new) ys ((rows.take j).map (·.map lab))) ?_ ?_ _ 0 [] _ (Nat.zero_add _) ⟨[], rfl, rfl, .nil⟩
              · intro j v ys news I oI C' oC D' m₂ h tk E' hj hv hI hO hx F6 N6 off ne
                obtain ⟨new, rfl, hyl, hpr⟩ := hI
                obtain ⟨row, hrow, r1, rvs1, rn1, rfl, hr1, hp1⟩ := Paired.get hrp (i := j) (a := v) (by simpa using hv)
                obtain ⟨g1, g2⟩ := f3 row (List.mem_of_getElem? hrow)
                have zz : ∀ q ∈ led1, q ∈ new ++ led1 := sub_r
                obtain ⟨Z9, hZ9⟩ : ∃ Z9, Z9 = new ++ led1 := ⟨_, rfl⟩
                rw [← hZ9] at N6 off zz
                k_steps
                refine stopGo ?_
                refine marks_spec (by walk_at "mine room") F6 (by assumption) (by assumption) N6 (.tail _ (.tail _ (.tail _ (zz _ hr1)))) (Mine.Paired.monoNodes (fun q hq => .tail _ (.tail _ (.tail _ (zz q hq)))) hp1) (fun nd hnd => g1 nd hnd) (by omega) ?_
                intro Dm us h7 t7 F7 N7 hus hne
                (try dsimp only)
                k_steps
                refine stopGo ?_
                refine compEnd F7 N7 ((Dm, tupO us 0) :: Z9) (by walk_at "mine sub") ?_ (.inr ⟨_, .tail _ (zz _ hrm), rfl, _, rfl⟩) ⟨(Dm, tupO us 0) :: new, by rw [hZ9]; rfl, by simp [hyl], ?_⟩
                · intro q hq
                  rcases List.mem_cons.mp hq with rfl | hq
                  · exact ⟨(hne (I, oI) (.head _)).symm, (hne (C', oC) (.tail _ (.head _))).symm, (hne (D', LCg.lst ys) (.tail _ (.tail _ (.head _)))).symm⟩
                  · exact off q hq
                · rw [List.take_add_one, hrow, List.map_append]
                  exact Paired.snoc ⟨Dm, us, 0, rfl, .head _, hus⟩ (Paired.imp (fun _ _ => StrsTup.mono fun q hq => .tail _ hq) hpr)
              · intro ys2 news hI
                obtain ⟨new, rfl, hyl, hpr⟩ := hI
                rw [take_all (l := rows) (by simp [hrvl])] at hpr
                unfold LCg.FinA
                intro Ds2 h tk F7 N7 o1
                rw [f1] at hpr
                obtain ⟨U4, hU4⟩ : ∃ U4, U4 = (Ds2, LCg.lst ys2) :: (new ++ led1) := ⟨_, rfl⟩
                rw [← hU4] at N7
                have u4 : ∀ q ∈ U3, q ∈ U4 := hU4 ▸ fun q hq => .tail _ (sub_r _ (hsub q hq))
                have zK := xK.mono u4
                have zN : ∀ t ∈ ts, NodesAt U4 t.2.2.1 t.2.2.2 := fun t ht => (xN t ht).mono u4
                have zT := u4 _ xT
                have zL := u4 _ xL
                have zS : Paired (StrsTup U4) dvs (covS (tP ts) (ti ws) (ti rs).reverse fi (fi + bd)) := Paired.imp (fun _ _ => StrsTup.mono u4) xS
                have zQ : Paired (StrsTup U4) ys (covS (tP ts) (ti ws) (ti rs).reverse fi (fi + bd)) := Paired.imp (fun _ _ => StrsTup.mono u4) xQ
                have zD := u4 _ xD
                have zH := xH.mono u4
                have zF : Paired (StrsTup U4) ys2 ((covS (tP ts) (ti ws) (ti rs).reverse fi (fi + bd)).take (1 + bo).toNat) := Paired.imp (fun _ _ => StrsTup.mono (hU4 ▸ fun q hq => .tail _ (sub_l _ hq))) hpr
                have zE : (Ds2, listOf (List.toArray ys2) ys2.length) ∈ U4 := by rw [hU4]; exact .head _
                clear xK xN xT xR xW xG xL xS xQ xD xH u4 hU4 hpr hyl o1 FR NR hrp hrm f1 f2 f3 hrw hsub
                (try dsimp only)
                k_steps
                try row_walk
                refine stopGo ?_
                have ok := covS_strOk (tP ts) (ti ws) (ti rs).reverse fi (fi + bd)
                rename News _ _ _ _ => NA
                refine rows_same NA zD zL zQ zS ok (Nat.le_of_ble_eq_true rfl) ?_
                (try dsimp only)
                k_steps
                refine stopGo ?_
                rename News _ _ _ _ => NA
                rename Fr _ _ _ _ => FA
                have hdv : dvs.length ≤ 1000 := Paired.len zS ▸ hdl3
                refine kmk_slice_lit (zs := dvs.take (1 + bo).toNat) (lo := none) (hi := some (1 + bo)) FA NA (News.isList NA (by k_mem)) (by constructor) (by constructor) (slice_take (by omega)) ?_ (by with_unfolding_all rfl) (by intro _; with_unfolding_all rfl) (size_line_le (by simp; omega))
                intro Sl h3 F3 N3 l3
                have hSl : ∀ q ∈ U4, q.1 ≠ Sl := ne_of_ltAll l3
                obtain ⟨U5, hU5⟩ : ∃ U5, U5 = (Sl, listOf (List.toArray (dvs.take (1 + bo).toNat)) 0) :: U4 := ⟨_, rfl⟩
                rw [← hU5] at N3
                have u5 : ∀ q ∈ U4, q ∈ U5 := hU5 ▸ fun q hq => .tail _ hq
                have uE := u5 _ zE
                have uF : Paired (StrsTup U5) ys2 ((covS (tP ts) (ti ws) (ti rs).reverse fi (fi + bd)).take (1 + bo).toNat) := Paired.imp (fun _ _ => StrsTup.mono u5) zF
                have uS : Paired (StrsTup U5) (dvs.take (1 + bo).toNat) ((covS (tP ts) (ti ws) (ti rs).reverse fi (fi + bd)).take (1 + bo).toNat) := Paired.imp (fun _ _ => StrsTup.mono u5) (Paired.takeN zS _)
                have uL : (Sl, listOf (List.toArray (dvs.take (1 + bo).toNat)) 0) ∈ U5 := hU5 ▸ .head _
                have uK := zK.mono u5
                have uH := zH.mono u5
                have uN : ∀ t ∈ ts, NodesAt U5 t.2.2.1 t.2.2.2 := fun t ht => (zN t ht).mono u5
                have uT := u5 _ zT
                clear zE zF zS zK zH zN zT u5 hU5 l3 hSl NA FA zQ zD zL
                (try dsimp only)
                k_steps
                refine stopGo ?_
                rename News _ _ _ _ => NA
                refine rows_same NA uE uL uF uS (fun l hl => ok l (List.mem_of_mem_take hl)) (Nat.le_of_ble_eq_true rfl) ?_
                clear uE uL uF uS
                (try dsimp only)
                k_steps
                try row_walk
                refine stopGo ?_
                refine ListComp_Keys (by assumption) (by with_unfolding_all rfl) (by decide) (by rfl) (by decide) (by rfl) ?_
                k_steps
                refine stopGo ?_
                rename News _ _ _ _ => NA
                rename Fr _ _ _ _ => FA
                obtain ⟨es2, ep2, hDm, hes⟩ := uK.obj
                have hesz : es2.size = ts.length := keys_size hes
                have htn2 := tx_nodup uK.nodup
                refine ⟨D, es2, ep2, U5, rfl, uK.sys, rfl, FA, NA, hDm, size_line_le (by omega), ?_⟩
                intro g9
                refine rest_inv (fun j ys news => ∃ new cs2, news = new ++ U5 ∧ ys.length = j ∧ cs2.map cT = (ts.take j).map tT3 ∧ PairsIn new ys cs2) ?_ ?_ _ 0 [] _ (Nat.zero_add _) ⟨[], [], rfl, rfl, rfl, .nil⟩
                · intro j v ys news I oI C' oC D' m₂ h tk E' hj hv hI hO hx F6 N6 off ne
                  obtain ⟨new, cs2, rfl, hyl, hcs2, hpr⟩ := hI
                  obtain ⟨en, hen, rfl⟩ := hv
                  have hjt : j < ts.length := by omega
                  obtain ⟨⟨tk9, tT, tl, tn⟩, ht⟩ : ∃ t, ts[j]? = some t := ⟨_, List.getElem?_eq_getElem hjt⟩
                  have hek : en.key = .ref tT := keys_key hes ht hen
                  rw [hek] at hx
                  have zc4 := sub_r (a := new) _ uT
                  have zn : ∀ q ∈ new, q ∈ new ++ U5 := sub_l
                  have zz : ∀ q ∈ U5, q ∈ new ++ U5 := sub_r
                  obtain ⟨Z9, hZ9⟩ : ∃ Z9, Z9 = new ++ U5 := ⟨_, rfl⟩
                  rw [← hZ9] at N6 off zc4 zn zz
                  have hPP := fun q hq => Heap.lt_size (N6 q hq).1
                  k_steps
                  refine stopGo ?_
                  obtain ⟨q1, q2, q3, qn, hkm⟩ := uK.keys (tk9, tT, .ref tl) (List.mem_map.mpr ⟨_, List.mem_of_getElem? ht, rfl⟩)
                  have hatk := atK_get htn2 ht
                  obtain ⟨ka, kb, kc⟩ := tk9
                  refine tk_item (v := .ref tl) uK N6 (fun q hq => .tail _ (.tail _ (.tail _ (zz q hq)))) (.tail _ (.tail _ (.tail _ (zz _ hkm)))) (Nat.le_of_ble_eq_true rfl) hatk ?_
                  (try dsimp only)
                  k_steps
                  refine stopGo ?_
                  obtain ⟨lvs, ln, hlm, hlp⟩ := uN _ (List.mem_of_getElem? ht)
                  have hll : lvs.length = tn.length := Paired.len hlp
                  have hl2 : tn.length ≤ 2 := h2 _ (List.mem_of_getElem? ht)
                  refine call_len_list (items := List.toArray lvs) (News.isList N6 (.tail _ (.tail _ (.tail _ (zz _ hlm))))) (by simp only [List.size_toArray]; omega) ?_
                  (try dsimp only)
                  k_steps
                  refine stopGo ?_
                  rename Fr _ _ _ _ => FB
                  rename News _ _ _ _ => NB
                  (try dsimp only at NB hPP)
                  rw [show lvs.toArray.size = tn.length by simp [hll]] at NB
                  generalize h.objs.size = P at NB hPP
                  have pI := hPP (I, oI) (.head _)
                  have pC := hPP (C', oC) (.tail _ (.head _))
                  have pD := hPP (D', LCg.lst ys) (.tail _ (.tail _ (.head _)))
                  refine compEnd FB NB ((P, tupO [.ref tT, .int (tn.length : Int) _] 0) :: Z9) (by walk_at "mine sub") ?_ (.tail _ (zz _ hDm)) ⟨(P, tupO [.ref tT, .int (tn.length : Int) _] 0) :: new, _, by rw [hZ9]; rfl, by simp [hyl], cs_snoc hcs2 ht, Paired.snoc ⟨P, 0, rfl, .head _⟩ (hpr.mono fun q hq => .tail _ hq)⟩
                  intro q hq
                  rcases List.mem_cons.mp hq with rfl | hq
                  · exact ⟨Nat.ne_of_gt pI, Nat.ne_of_gt pC, Nat.ne_of_gt pD⟩
                  · exact off q hq
                · intro ys3 news hI
                  obtain ⟨new, cs2, rfl, hyl, hcs2, hpr⟩ := hI
                  rw [take_all (l := ts) hesz] at hcs2
                  obtain ⟨hci2, hck2, hcm2, hcl2, hcv2⟩ := cs_facts hcs2
                  unfold LCg.FinE
                  intro Dl h tk F7 N7 o1
                  k_steps
                  refine stopGo ?_
                  rename Fr _ _ _ _ => FB
                  rename News _ _ _ _ => NB
                  refine dict_pairs (xs := cx cs2) rfl (Nat.le_of_ble_eq_true rfl) FB NB (Top.nolimit (by assumption)) (.head _) (by simp [cx]; exact (Paired.len hpr).symm) (by simp [cx]; omega) (hpr.mono fun q hq => .tail _ (sub_l _ hq)).get
                    (fun x hx => by
                      obtain ⟨t, ht, e1, e2⟩ := hcm2 x hx
                      obtain ⟨q1, q2, q3, qn, hkm⟩ := uK.keys (t.1, t.2.1, .ref t.2.2.1) (List.mem_map.mpr ⟨t, ht, rfl⟩)
                      rw [e1, e2]
                      exact ⟨q1, q2, q3, qn, .tail _ (sub_r _ hkm)⟩) (by rw [hck2]; exact htn2) ?_
                  intro Cd2 oCd2 h9 t9 F9 N9 hCn HK
                  (try dsimp only)
                  k_steps
                  refine stopGo ?_
                  refine tk_eq N9 (uH.mono fun q hq => .tail _ (.tail _ (sub_r _ hq))) HK (hci.trans hci2.symm) (Nat.le_of_ble_eq_true rfl) ?_
                  (try subst hgn00 hdr00 hos00)
                  (try subst hm00)
                  (try subst hL00)
                  (try subst hh00)
                  k_steps)
end
end Mine

theorem PySem.Challenge.cw_on0168_01_holds : PySem.Challenge.rw_on0168_01.Holds := by
  exact Mine.tLaw
