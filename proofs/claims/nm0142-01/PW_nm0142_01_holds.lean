import PyProof.Rows.All
import Wide.All
import OpenK.AllK
import Wide.FinOn
import PyProof.Rows.RuleC_int
import PyProof.Rows.RuleB_mod
import PyProof.InstStoreFacts
import PyProof.ExcBaseAll.Exception
import KE.KTops
import KE.KDeep
import KE.KAssignIn
import PyProof.Conv_int_bool
import PyProof.WalksMore
import PyProof.Rows.MinMaxN
import PyProof.ListOps
import PyProof.TupleOfSeq
import PyProof.ListMulRoad
import PyProof.Rows.ListMul
import PyProof.ListCopy
import KE.KRevSl
import PyProof.FactsAll.tuple
import KE.KDictNew
import PyProof.ExcAttrAll.Exception
import Lean
import PySem.Challenge.RW_nm0142_01
set_option Elab.async false
set_option maxRecDepth 100000
set_option linter.all false
set_option linter.unusedVariables false
set_option linter.unusedSimpArgs false
set_option linter.deprecated false
section
open PySem PySem.W PyProof.Rows
set_option maxHeartbeats 0
namespace Mine
noncomputable abbrev pr : Program := PySem.Challenge.rw_nm0142_01.row.toRowW.1
noncomputable def bootT (P : Params) : BT :=
  (.node (boot_o_0 P) (.node (boot_o_1 P) (.node (boot_o_3 P) (.node (boot_o_7 P) .nil .nil) .nil) (.node (boot_o_5 P) (.node (boot_o_9 P) .nil .nil) .nil)) (.node (boot_o_2 P) (.node (boot_o_4 P) (.node (boot_o_8 P) .nil .nil) .nil) (.node (boot_o_6 P) (.node (boot_o_10 P) .nil .nil) .nil)))
noncomputable def S0 (w : World) (os : OsState) : SharedT := ⟨bootT w.params, 11, {}, #[], boot_drawn, boot_toks, os⟩
theorem s0 (w : World) (os : OsState) : (S0 w os).abs = ⟨boot_heap w.params, #[], boot_drawn, boot_toks, os⟩ := by kernel_rfl
noncomputable def runG (st : SharedT → Thread → Option (SharedT × Thread)) (ok : Thread → Bool) (n : Nat) : SharedT → Thread → Option SharedT :=
  Nat.rec (motive := fun _ => SharedT → Thread → Option SharedT) (fun _ _ => none)
    (fun _ ih s t => match through t with
      | true => some s
      | false => match ok t with
        | false => none
        | true => match st s t with
          | some x => ih x.1 x.2
          | none => none) n
theorem runG_of {p : Program} {w : World} {m : Nat} {ann : Option Value} : ∀ {n : Nat} {s s' : SharedT} {t : Thread}, runG (stepT (denote treeTable) p w) (stepOk m ann) n s t = some s' → topRun treeTable p w m ann n s.abs t = some s'.abs
  | 0, _, _, _, h => by cases h
  | n + 1, s, s', t, h => by
    have e : runG (stepT (denote treeTable) p w) (stepOk m ann) (n + 1) s t = (match through t with
      | true => some s
      | false => match stepOk m ann t with
        | false => none
        | true => match stepT (denote treeTable) p w s t with
          | some x => runG (stepT (denote treeTable) p w) (stepOk m ann) n x.1 x.2
          | none => none) := rfl
    rw [e] at h
    unfold topRun
    cases ht : through t with
    | true => rw [ht] at h; cases h; rfl
    | false =>
      rw [ht] at h
      dsimp only at h ⊢
      cases hk : stepOk m ann t with
      | false => rw [hk] at h; cases h
      | true =>
        rw [hk] at h
        dsimp only at h ⊢
        cases hs : stepT (denote treeTable) p w s t with
        | none => rw [hs] at h; cases h
        | some x => obtain ⟨s₂, t₂⟩ := x; rw [hs] at h; rw [stepT_spec hs]; exact runG_of h
noncomputable abbrev stQ (w : World) := PySem.W.Fast.tw10156331382660048174 (PySem.W.Fast.tw11892475500146522536 PySem.W.Fast.tw14364793385576792824) pr w
noncomputable abbrev okQ := PySem.W.Fast.tw6613529449190102663 11 (some (.ref 6))
theorem stQ_eq (w : World) : stQ w = stepT (denote treeTable) pr w := by
  unfold stQ
  rw [← PySem.W.Fast.te10156331382660048174, ← PySem.W.Fast.te11892475500146522536, ← PySem.W.Fast.te14364793385576792824]
theorem okQ_eq : okQ = stepOk 11 (some (.ref 6)) := by
  unfold okQ
  rw [← PySem.W.Fast.te6613529449190102663]
theorem left_own {p q : Program} {loose : List Str} {Xt : Shared → Bool} {α : Type} {Yf : Shared → α} {Ya : World → α} {N : Nat} {g0 : Bool} {H₀ : Params → Heap} {gs₀ : Array GenState} {d₀ : Drawn} {k₀ m₀ : Nat} {ann : Option Value} {M : Nat}
    (open_ : ∀ w : World, (fencedOpening treeTable p w N).map (fun s => (s.heap, s.gens, s.drawn, s.toks)) = some (H₀ w.params, gs₀, d₀, k₀))
    (size : ∀ w : World, ((H₀ w.params).isNs mainGlobals && gs₀.size == 0, (H₀ w.params).objs.size, (H₀ w.params).nsMap mainGlobals "__annotations__") = (true, m₀, ann))
    (le : Nat.ble M N = true)
    (run : ∀ (w : World) (os : OsState), ∃ s₁, topRun treeTable p w m₀ ann M ⟨H₀ w.params, gs₀, d₀, k₀, os⟩ (topStub p) = some s₁ ∧
      ((staticsOk (importedModules p.main.body) (H₀ w.params) s₁.heap && namesBound p s₁.heap && gensDone s₁ && laidKept (H₀ w.params) s₁.heap),
        openSeen q loose (importedModules p.main.body) Xt g0 s₁, Yf s₁) = (true, openGood q loose, Ya w)) : LeftO p q loose Xt Yf Ya N g0 := fun w => by
  obtain ⟨⟨h, gs, d, k, os⟩, e, e'⟩ := Option.map_eq_some_iff.mp (open_ w)
  obtain ⟨rfl, rfl, rfl, rfl⟩ : h = H₀ w.params ∧ gs = gs₀ ∧ d = d₀ ∧ k = k₀ := by simpa using e'
  obtain ⟨z1, z2, z3⟩ : _ ∧ _ ∧ _ := by simpa only [Prod.mk.injEq] using size w
  obtain ⟨s₁, r, l⟩ := run w os
  obtain ⟨l1, l2, l3⟩ : _ ∧ _ ∧ _ := by simpa only [Prod.mk.injEq] using l
  replace r := topRun_mono (N - M) _ _ _ _ r
  rw [show M + (N - M) = N by have := Nat.le_of_ble_eq_true le; omega] at r
  have t : topFrom treeTable p w N ⟨H₀ w.params, gs, d, k, os⟩ = some s₁ := by
    unfold topFrom
    dsimp only
    rw [z1, z2, z3, r]
    show (match staticsOk (importedModules p.main.body) (H₀ w.params) s₁.heap && namesBound p s₁.heap && gensDone s₁ && laidKept (H₀ w.params) s₁.heap with | true => _ | false => _) = _
    rw [l1]
  unfold openEnds
  rw [e]
  show (topFrom treeTable p w N _).map _ = _
  rw [t]
  exact congrArg some (Prod.ext l2 l3)
theorem said : PySem.Challenge.rw_nm0142_01.wellSaid = true := by kernel_rfl
theorem op1 : opening pr = plainProg pr.main.scope.names := by kernel_rfl
theorem op2 : ∀ s, fenceModules? pr s = some s := fun s => by kernel_rfl
theorem siz : ∀ w : World, ((boot_heap w.params).isNs mainGlobals && (#[] : Array GenState).size == 0, (boot_heap w.params).objs.size, (boot_heap w.params).nsMap mainGlobals "__annotations__") = (true, 11, some (.ref 6)) := fun w => by kernel_rfl
noncomputable def hd.view_39 : Program := view pr [0, 2, 3, 4, 5, 6, 7, 8, 9, 10, 12, 13, 14, 15, 16, 17, 18, 20, 21, 23, 24, 25, 26, 27, 28, 30, 32, 33, 34, 35, 36, 37, 38, 39, 40, 41, 42, 43]
noncomputable abbrev vw : Program := hd.view_39
noncomputable abbrev lo : List Str := [Str.ofString "KIND_NAMES", Str.ofString "block_kind_kinds", Str.ofString "NUMBERS"]
noncomputable abbrev nr (a b : Int) (x y : List Int) : WData := .tuple [.int a, .int b, .tuple (x.map .int), .tuple (y.map .int)]
noncomputable abbrev lv : List (Str × WData) := [(Str.ofString "NUMBERS", .tuple [nr 69 69 [-1] [-1], nr 70 79 [-1, -1] [-1], nr 80 80 [-2] [-1], nr 81 90 [-2, -2] [-1], nr 103 105 [-1] [-1], nr 106 120 [-1, -1] [-1], nr 121 123 [-2] [-2], nr 124 138 [-2, -2] [-2], nr 167 167 [-2] [-1], nr 172 173 [-1] [-2], nr 192 193 [-1] [-1], nr 194 196 [-2] [-2]])]
noncomputable abbrev endQ (w : World) (os : OsState) : Option SharedT := runG (stQ w) okQ 3300 (S0 w os) (topStub pr)
noncomputable abbrev xt : Shared → Bool := fun s => xlAt vw lv s && recOk (RowW.records PySem.Challenge.rw_nm0142_01.row.toRowW) s
noncomputable abbrev PA (w : World) : Prop := (fun os => (endQ w os).map (fun s => (staticsOk (importedModules pr.main.body) (boot_heap w.params) s.abs.heap && namesBound pr s.abs.heap && gensDone s.abs && laidKept (boot_heap w.params) s.abs.heap))) = fun _ => some true
theorem hvA0 (w : World) : PA (w.withFollow "special-get-raises" false) := by show _ = _; kernel_rfl
theorem hvA1 (w : World) : PA (w.withFollow "special-get-raises" true) := by show _ = _; kernel_rfl
theorem hvA : ∀ w : World, (fun os => (endQ w os).map (fun s => (staticsOk (importedModules pr.main.body) (boot_heap w.params) s.abs.heap && namesBound pr s.abs.heap && gensDone s.abs && laidKept (boot_heap w.params) s.abs.heap))) = fun _ => some true := byRow2 (P := PA) "special-get-raises" hvA0 hvA1
noncomputable abbrev PB (w : World) : Prop := (fun os => (endQ w os).map (fun s => openSeen vw lo (importedModules pr.main.body) xt true s.abs)) = fun _ => some (openGood vw lo)
theorem hvB0 (w : World) : PB (w.withFollow "special-get-raises" false) := by show _ = _; kernel_rfl
theorem hvB1 (w : World) : PB (w.withFollow "special-get-raises" true) := by show _ = _; kernel_rfl
theorem hvB : ∀ w : World, (fun os => (endQ w os).map (fun s => openSeen vw lo (importedModules pr.main.body) xt true s.abs)) = fun _ => some (openGood vw lo) := byRow2 (P := PB) "special-get-raises" hvB0 hvB1
end Mine
end
section
open PySem PySem.W PyProof.Rows
set_option maxHeartbeats 0
namespace Mine
theorem left_of {α : Type} {Yf : Shared → α} {Ya : World → α} (evC : ∀ w : World, (fun os => (endQ w os).map (fun s => Yf s.abs)) = fun _ => some (Ya w)) : LeftO pr vw lo xt Yf Ya 3300 true :=
  left_own (boot_open op1 rfl op2) siz rfl fun w os => by
    have a := congrFun (hvA w) os
    have b := congrFun (hvB w) os
    have c := congrFun (evC w) os
    obtain ⟨s, e, a'⟩ := Option.map_eq_some_iff.mp a
    rw [e] at b c
    have e2 : runG (stepT (denote treeTable) pr w) (stepOk 11 (some (.ref 6))) 3300 (S0 w os) (topStub pr) = some s := by rw [← stQ_eq, ← okQ_eq]; exact e
    have r := runG_of e2
    rw [s0] at r
    exact ⟨s.abs, r, Prod.ext a' (Prod.ext (Option.some.inj b) (Option.some.inj c))⟩
local macro_rules | `(tactic| o_law) => `(tactic| refine holds_law Mine.said fun said => ?_)
local macro_rules | `(tactic| o_head $H) => `(tactic| (refine holds_open (q := hd.view_39) (loose := lo) (Xt := xt) (XP := XL hd.view_39 lv) (Yf := Hook.obs $H) (Ya := Hook.val $H) (YP := Hook.says $H) (N := 3300) ?hl (Hook.of $H) (Hook.keeps $H) (fun s e => xl_of s (Bool.and_eq_true_iff.mp e).1) XL.keeps (by rfl) (by rfl) (by rfl) (fun s e => recFacts_of (Bool.and_eq_true_iff.mp e).2) (by rfl) (by first | assumption | decide +kernel) (by decide +kernel) ⟨rfl, rfl, rfl, rfl, rfl, by decide +kernel⟩ ?hw ?hc; (case hl => exact left_of (byRow2 "special-get-raises" (fun w => by kernel_rfl) (fun w => by kernel_rfl)))))
open_top hd for PySem.Challenge.rw_nm0142_01
end Mine
end
section
open PySem PySem.W PyProof.Rows PySem.Calls PySem.Spec
set_option maxHeartbeats 2000000
namespace Mine
theorem cA {α : Type} {a : α} {as bs : List α} : a :: as ++ bs = a :: (as ++ bs) := rfl
theorem nA {α : Type} {as : List α} : [] ++ as = as := rfl
theorem bL {a b : Nat} (h : Nat.ble a b = true) : a ≤ b := Nat.le_of_ble_eq_true h
noncomputable abbrev PRG : Program := PySem.Challenge.pw_nm0142_01
noncomputable abbrev VW : Program := Mine.hd.view_39
noncomputable abbrev LS : List Str := (looseW Mine.hd.view_39 [Str.ofString "KIND_NAMES", Str.ofString "block_kind_kinds", Str.ofString "NUMBERS"])
noncomputable abbrev Led := List (Addr × Obj)
noncomputable abbrev Loc := List (Str × Value)
noncomputable abbrev lst (vs : List Value) (n : Nat) : Obj := { cls := .type "list", data := .seq vs.toArray n }
noncomputable abbrev tup (vs : List Value) (n : Nat) : Obj := { cls := .type "tuple", data := .seq vs.toArray n }
structure St (c : Shared) (g : Heap) (L : Addr) (m : Loc) (news : Led) (s : Shared) : Prop where
  fr : Fr g L s.heap (fun y => m.lookup y)
  nw : News g L s.heap news
  nd : (news.map (·.1)).Nodup
  gens : s.gens = c.gens
  drawn : s.drawn = c.drawn
  os : s.os = c.os
inductive At (x y : Addr × Obj) : Led → Led → Prop
  | hd {r : Led} : At x y (x :: r) (y :: r)
  | tl {z : Addr × Obj} {r r' : Led} : At x y r r' → At x y (z :: r) (z :: r')
inductive Pull (x : Addr × Obj) : Led → Led → Prop
  | hd {r : Led} : Pull x (x :: r) r
  | tl {z : Addr × Obj} {r r' : Led} : Pull x r r' → Pull x (z :: r) (z :: r')
theorem At.split {x y : Addr × Obj} {l l' : Led} (h : At x y l l') : ∃ pre post, l = pre ++ x :: post ∧ l' = pre ++ y :: post := by
  induction h with
  | @hd r => exact ⟨[], r, rfl, rfl⟩
  | @tl z r r' _ ih => obtain ⟨pre, post, rfl, rfl⟩ := ih; exact ⟨z :: pre, post, rfl, rfl⟩
theorem Pull.split {x : Addr × Obj} {l l' : Led} (h : Pull x l l') : ∃ pre post, l = pre ++ x :: post ∧ l' = pre ++ post := by
  induction h with
  | @hd r => exact ⟨[], r, rfl, rfl⟩
  | @tl z r r' _ ih => obtain ⟨pre, post, rfl, rfl⟩ := ih; exact ⟨z :: pre, post, rfl, rfl⟩
section
variable {c : Shared} {g : Heap} {L : Addr} {m : Loc} {news news' : Led} {s : Shared}
theorem St.get (S : St c g L m news s) {a : Addr} {o : Obj} (h : (a, o) ∈ news) : s.heap.get? a = some o := (S.nw _ h).1
theorem At.mem {x y : Addr × Obj} {l l' : Led} (U : At x y l l') : x ∈ l := by
  obtain ⟨pre, post, rfl, _⟩ := U.split
  exact List.mem_append.mpr (.inr (.head _))
theorem Pull.mem {x : Addr × Obj} {l l' : Led} (U : Pull x l l') : x ∈ l := by
  obtain ⟨pre, post, rfl, _⟩ := U.split
  exact List.mem_append.mpr (.inr (.head _))
theorem nodup_mid {pre post : Led} {x : Addr × Obj} (h : ((pre ++ x :: post).map (·.1)).Nodup) : (∀ p ∈ pre, p.1 ≠ x.1) ∧ (∀ p ∈ post, p.1 ≠ x.1) := by
  rw [List.map_append, List.map_cons, List.nodup_append] at h
  obtain ⟨h1, h2, h3⟩ := h
  refine ⟨fun p hp e => h3 p.1 (List.mem_map_of_mem hp) x.1 (.head _) e, fun p hp e => ?_⟩; exact (List.nodup_cons.mp h2).1 (e ▸ List.mem_map_of_mem hp)
theorem St.upd {a : Addr} {o o' : Obj} {h' : Heap} {tk : Nat} (S : St c g L m news s) (U : At (a, o) (a, o') news news') (hs : Heap.SameBut a s.heap h') (ho : h'.get? a = some o') : St c g L m news' { s with heap := h', toks := tk } := by
  obtain ⟨pre, post, rfl, rfl⟩ := U.split
  have z := S.nw (a, o) (List.mem_append.mpr (.inr (.head _)))
  have nd := nodup_mid S.nd
  refine ⟨S.fr.change hs z.2.1 z.2.2, news_set S.nw nd.1 nd.2 hs ho, ?_, S.gens, S.drawn, S.os⟩
  have e := S.nd
  rw [List.map_append, List.map_cons] at e ⊢
  exact e
theorem St.push {o : Obj} {tk : Nat} (S : St c g L m news s) (hf : o.isFreed = false := by rfl) : St c g L m ((s.heap.objs.size, o) :: news) { s with heap := s.heap.push o, toks := tk } := by
  refine ⟨S.fr.push o, S.nw.push S.fr o hf, ?_, S.gens, S.drawn, S.os⟩
  rw [List.map_cons, List.nodup_cons]
  refine ⟨fun h => ?_, S.nd⟩
  obtain ⟨p, hp, e⟩ := List.mem_map.mp h
  have := Heap.lt_size (S.nw p hp).1
  exact absurd (e ▸ this) (Nat.lt_irrefl _)
theorem St.tok {tk : Nat} (S : St c g L m news s) : St c g L m news { s with toks := tk } := ⟨S.fr, S.nw, S.nd, S.gens, S.drawn, S.os⟩
theorem St.pull {x : Addr × Obj} (S : St c g L m news s) (U : Pull x news news') : St c g L m (x :: news') s := by
  obtain ⟨pre, post, rfl, rfl⟩ := U.split
  have hp : (pre ++ x :: post).Perm (x :: (pre ++ post)) := List.perm_middle
  exact ⟨S.fr, fun p hq => S.nw p (hp.mem_iff.mpr hq), ((hp.map (·.1)).nodup_iff).mp S.nd, S.gens, S.drawn, S.os⟩
theorem St.perm (S : St c g L m news s) (hp : news.Perm news') : St c g L m news' s :=
  ⟨S.fr, fun p hq => S.nw p (hp.mem_iff.mpr hq), ((hp.map (·.1)).nodup_iff).mp S.nd, S.gens, S.drawn, S.os⟩
theorem St.tail {x : Addr × Obj} (S : St c g L m (x :: news) s) : St c g L m news s :=
  ⟨S.fr, fun p hq => S.nw p (.tail _ hq), by have := S.nd; rw [List.map_cons, List.nodup_cons] at this; exact this.2, S.gens, S.drawn, S.os⟩
theorem St.drop {x : Addr × Obj} (S : St c g L m news s) (U : Pull x news news') : St c g L m news' s := (S.pull U).tail
theorem St.locs {m' : Loc} (S : St c g L m news s) (h : ∀ y, m.lookup y = m'.lookup y) : St c g L m' news s := by
  have e : (fun y => m.lookup y) = (fun y => m'.lookup y) := funext h
  exact ⟨e ▸ S.fr, S.nw, S.nd, S.gens, S.drawn, S.os⟩
theorem St.suffix {pre : Led} (S : St c g L m (pre ++ news) s) : St c g L m news s := by
  induction pre with
  | nil => exact S
  | cons x r ih => exact ih S.tail
end
structure CxL (lim : Nat) (w : World) (base : Heap) (outer : List Env) (env : Env) (A : Around) (g : Heap) (L : Addr) (n : Nat) : Prop where
  below : ∃ A₀, Below A₀ base outer g
  K : (Mine.hd.heap_1 w.params).In g
  T : ∃ mean mg mb, Top VW LS mean mg mb g
  fr : A.frames = some (env :: outer)
  ef : env.frame = some L
  ek : env.scope.kind = .function
  hn : A.handled = none
  dp : A.depth + n < lim
  un : A.units + 8 * n < 8 * lim + 3200
noncomputable abbrev Cx := CxL 600
theorem Cx.le {w : World} {base : Heap} {outer : List Env} {env : Env} {A : Around} {g : Heap} {L : Addr} {n k : Nat} (C : Cx w base outer env A g L n) (h : k ≤ n) : Cx w base outer env A g L k :=
  ⟨C.below, C.K, C.T, C.fr, C.ef, C.ek, C.hn, Nat.lt_of_le_of_lt (Nat.add_le_add_left h _) C.dp, by have := C.un; lia⟩
theorem Cx.up {w : World} {base : Heap} {outer : List Env} {env : Env} {A : Around} {g : Heap} {L : Addr} {n : Nat} (C : Cx w base outer env A g L n) : CxL 604 w base outer env A g L (n + 4) :=
  ⟨C.below, C.K, C.T, C.fr, C.ef, C.ek, C.hn, (by have := C.dp; lia), (by have := C.un; lia)⟩
end Mine
end
section
open PySem PySem.W PyProof.Rows PySem.Calls PySem.Spec
set_option maxHeartbeats 2000000
namespace Mine
theorem St.le {c : Shared} {g : Heap} {L : Addr} {m : Loc} {news : Led} {s : Shared} (S : St c g L m news s) {h' : Heap} {tk : Nat} (F : Fr g L h' (fun y => m.lookup y)) (N : News g L h' news) : St c g L m news { s with heap := h', toks := tk } := ⟨F, N, S.nd, S.gens, S.drawn, S.os⟩
section
variable {w : World} {base : Heap} {outer : List Env} {env : Env} {A : Around} {c : Shared} {g : Heap} {L : Addr} {n : Nat} {m : Loc} {news news' : Led} {s : Shared} {E : Value → Shared → Prop}
variable {cn : Str} {cs : Scope} {fa : Addr} {ccd : Value}
theorem Cx.inK (C : Cx w base outer env A g L n) (S : St c g L m news s) : (Mine.hd.heap_1 w.params).In s.heap := C.K.keeps S.fr.keep
theorem r_loc {x : Str} {pos : Pos} {v : Value} {Q : Value → Shared → Prop} (S : St c g L m news s) (hv : m.lookup x = some v) (k : Q v s)
    (hk : cs.kind = .function := by rfl) (hx : (envOf cn cs L fa ccd).kindOf x = some .local := by rfl) (hd : (x == ("__debug__" : Str)) = false := by decide) :
    wpAny (model PRG w) A (eval (.Name x pos) (envOf cn cs L fa ccd)) Q E s := ld S.fr hv k hk hx hd
theorem r_glb {x : Str} {pos : Pos} {v : Value} {Q : Value → Shared → Prop} (C : Cx w base outer env A g L n) (S : St c g L m news s) (e : nsIn (Mine.hd.heap_1 w.params) mainGlobals x = some (some v)) (k : Q v s)
    (hk : cs.kind = .function := by rfl) (hx : (envOf cn cs L fa ccd).kindOf x = some .globalImplicit := by rfl) (hd : (x == ("__debug__" : Str)) = false := by decide) :
    wpAny (model PRG w) A (eval (.Name x pos) (envOf cn cs L fa ccd)) Q E s := by
  obtain ⟨mean, mg, mb, T⟩ := C.T
  exact name_K S.fr C.K (topRead_of T) e k hk hx hd
theorem r_bui {x : Str} {pos : Pos} {v : Value} {Q : Value → Shared → Prop} (C : Cx w base outer env A g L n) (S : St c g L m news s) (e : nsIn (Mine.hd.heap_1 w.params) mainGlobals x = some none) (hv : bootBuiltins x = some v) (hn : x ≠ "__name__") (k : Q v s)
    (hk : cs.kind = .function := by rfl) (hx : (envOf cn cs L fa ccd).kindOf x = some .globalImplicit := by rfl) (hd : (x == ("__debug__" : Str)) = false := by decide) :
    wpAny (model PRG w) A (eval (.Name x pos) (envOf cn cs L fa ccd)) Q E s := by
  obtain ⟨mean, mg, mb, T⟩ := C.T
  exact name_B S.fr C.K (topRead_of T) e hv hn k hk hx hd
theorem r_int {i : Int} {k' : Nat} {pos : Pos} {Q : Value → Shared → Prop} (S : St c g L m news s) (k : ∀ t s', St c g L m news s' → Q (.int i t) s') :
    wpAny (model PRG w) A (eval (.Constant (.int i) k' pos) env) Q E s := wpAny_Constant_int (k _ _ S.tok)
theorem r_str {x : Str} {k' : Nat} {pos : Pos} {Q : Value → Shared → Prop} (S : St c g L m news s) (k : ∀ t s', St c g L m news s' → Q (.str x t) s') :
    wpAny (model PRG w) A (eval (.Constant (.str x) k' pos) env) Q E s := Constant_str (k _ _ S.tok)
theorem r_none {k' : Nat} {pos : Pos} {Q : Value → Shared → Prop} (k : Q .none s) :
    wpAny (model PRG w) A (eval (.Constant .none k' pos) env) Q E s := wpAny_Constant_none k
theorem r_store {x : Str} {v : Value} {Q : Unit → Shared → Prop} (S : St c g L m news s) (k : ∀ s', St c g L ((x, v) :: m) news s' → Q () s')
    (hk : cs.kind = .function := by rfl) (hx : (envOf cn cs L fa ccd).kindOf x = some .local := by rfl) : wpAny (model PRG w) A (storeName (envOf cn cs L fa ccd) x v) Q E s :=
  stN S.fr S.nw (fun h' F N => k _ ⟨(by
    have e : (fun y => if y = x then some v else m.lookup y) = (fun y => ((x, v) :: m).lookup y) := by
      funext y
      rw [List.lookup_cons]
      by_cases h : y = x
      · subst h; simp
      · rw [if_neg h, show (y == x) = false from by simpa using h]
    rw [e] at F; exact F), N, S.nd, S.gens, S.drawn, S.os⟩) hk hx
structure Own (w : World) (cls : Addr) (name : Str) : Prop where
  g : plainGet (Mine.hd.heap_1 w.params) cls name = true
  h : hasDictIn (Mine.hd.heap_1 w.params) cls = true
  a : ∃ attr, findIn (Mine.hd.heap_1 w.params) (.ref cls) name = some attr ∧ noGet (Mine.hd.heap_1 w.params) attr = true
theorem r_get {a d cls : Addr} {es : List DictEntry} {k' : Nat} {name : Str} {v : Value} {expr : Bool} {Q : Value → Shared → Prop} (C : Cx w base outer env A g L n) (S : St c g L m news s) (o : Own w cls name)
    (ha : (a, instObj cls d) ∈ news) (hd : (d, dictOf es k') ∈ news) (hl : getL name es = some (some v)) (hv : handedIn v = true) (k : ∀ s', St c g L m news s' → Q v s') :
    wpAny (model PRG w) A (getAttr (.ref a) name expr) Q E s := by
  obtain ⟨attr, h1, h2⟩ := o.a
  exact get_own S.fr C.K (InstAt.of_news S.nw ha hd) o.g o.h h1 h2 hl hv (k _ S.tok)
theorem r_attr {value : Expr} {attr : Str} {pos : Pos} {Q : Value → Shared → Prop}
    (h : wpAny (model PRG w) A (eval value env) (fun o s₁ => wpAny (model PRG w) A (getAttr o attr true) Q E s₁) E s)
    (he : eval (.Attribute value attr pos) env = (do
      let o ← eval value env
      standAt pos.atName
      let r ← holding [o] (getAttr o attr true)
      letTemporaryGo value o r
      pure r) := by with_unfolding_all rfl) : wpAny (model PRG w) A (eval (.Attribute value attr pos) env) Q E s := Attribute_any_ h he
end
end Mine
end
section
open PySem PySem.W PyProof.Rows PySem.Calls PySem.Spec
set_option maxHeartbeats 2000000
namespace Mine
noncomputable def retOf : Flow → Value
  | .ret v => v
  | _ => .none
noncomputable def Seq (K : Shared → Prop) (Q : Flow → Shared → Prop) : Flow → Shared → Prop
  | .next, s => K s
  | f, s => Q f s
theorem seq_next {K : Shared → Prop} {Q : Flow → Shared → Prop} {s : Shared} (h : K s) : Seq K Q .next s := h
theorem seq_ret {K : Shared → Prop} {Q : Flow → Shared → Prop} {s : Shared} {v : Value} (h : Q (.ret v) s) : Seq K Q (.ret v) s := h
theorem r_cons {M : Model} {A : Around} {E : Value → Shared → Prop} {s : Shared} {env : Env} {st : Stmt} {rest : List Stmt} {Q : Flow → Shared → Prop}
    (h : wpAny M A (exec st env) (Seq (fun s' => wpAny M A (execs rest env) Q E s') Q) E s) : wpAny M A (execs (st :: rest) env) Q E s :=
  wpAny_execs_cons (wpAny_mono h (fun f s' h' => by cases f <;> exact h') fun _ _ x => x)
noncomputable def EndOk (c : Shared) (g : Heap) (L : Addr) (m : Loc) (g' : Heap) (v : Value) (Q : Value → Shared → Prop) (s' : Shared) : Prop :=
  ∃ L' m' news', St c g' L' m' news' s' ∧ (St c g L m news' s' → Q v s')
section
variable {w : World} {base : Heap} {outer : List Env} {env : Env} {A : Around} {c : Shared} {g g' : Heap} {L L' : Addr} {n : Nat} {m m' : Loc} {news news' : Led} {s : Shared} {E : Value → Shared → Prop}
variable {cn : Str} {cs : Scope} {fa : Addr} {ccd : Value} {Q : Value → Shared → Prop}
theorem r_leave {v : Value} {s' : Shared} (S : St c g' L' m' news' s') (k : St c g L m news' s' → Q v s') : EndOk c g L m g' v Q s' := ⟨_, _, _, S, k⟩
theorem endOk_leaveK {v : Value} {s' : Shared} {R : Result → Shared → Prop} (h : EndOk c g L m g' v (fun v s' => R (.ok (.ret v)) s') s') : LeaveK g L (fun y => m.lookup y) g' R v s' := by
  obtain ⟨L', m', news', S, k⟩ := h
  exact ⟨L', _, news', S.fr, S.nw, fun F N => k ⟨F, N, S.nd, S.gens, S.drawn, S.os⟩⟩
theorem CxL.inK {lim : Nat} (C : CxL lim w base outer env A g L n) (S : St c g L m news s) : (Mine.hd.heap_1 w.params).In s.heap := C.K.keeps S.fr.keep
theorem r_codeL {lim : Nat} (hlim : lim ≤ 700) {f : Addr} {args : Args} {binds : Loc} {R : Result → Shared → Prop} {qual name : Str} {params : Arguments} {body : List Stmt} {scope : Scope} {dV kV doc pm cdv ct oc : Value} {an od : Option Addr} {osl : Array (Option Value)}
    (C : CxL lim w base outer env A g L (n + 1)) (S : St c g L m news s)
    (ho : (Mine.hd.heap_1 w.params).lookup f = some ⟨oc, od, .func (fnOf name qual params body scope dV kV doc pm an cdv ct), osl⟩) (hcd : codeIn (Mine.hd.heap_1 w.params) cdv qual = true)
    (hbind : BindsTo s (fnOf name qual params body scope dV kV doc pm an cdv ct) args binds.reverse) (hloc : ∀ y ∈ binds.reverse, scope.names.lookup y.1 = some .local)
    (h : ∀ g' L' s', CxL lim w base (env :: outer) (envOf qual scope L' f cdv) (A.deeper (envOf qual scope L' f cdv)) g' L' n → St c g' L' binds news s' → Fr g L g' (fun y => m.lookup y) →
      wpAny (model PRG w) (A.deeper (envOf qual scope L' f cdv)) (execs body (envOf qual scope L' f cdv))
        (fun fl s' => EndOk c g L m g' (retOf fl) (fun v s' => R (.ok (.ret v)) s') s')
        (fun e s' => wpAny (model PRG w) (A.deeper (envOf qual scope L' f cdv)) (leaving (envOf qual scope L' f cdv) e) (fun _ s'' => R (.error e) s'') (fun e' s'' => R (.error e') s'') s') s')
    (hcell : ∀ x ∈ scope.names, x.2 ≠ .cell := by decide) (hco : scope.isCoroutine = false := by rfl) (hgen : scope.isGenerator = false := by rfl) (hk : scope.kind = .function := by rfl) :
    codeAny (model PRG w) A (.call (.ref f) args) R s := by
  obtain ⟨A₀, B⟩ := C.below
  obtain ⟨mean, mg, mb, T⟩ := C.T
  refine callX_plain (cl := []) B S.fr S.nw T.nolimit C.fr C.ef C.ek (C.inK S _ _ ho) rfl (codeRec_of (C.inK S) hcd) (Nat.lt_of_lt_of_le (Nat.lt_of_le_of_lt (Nat.le_add_right _ _) C.dp) (Nat.le_trans hlim (by decide))) hbind hloc (fun g' L' h₁ FG F' N' B' st lt => ?_) hcell hco hgen hk
  have hb : binds.reverse.reverse = binds := List.reverse_reverse _
  rw [hb] at F'
  have S' : St c g' L' binds news { s with heap := h₁, toks := s.toks + binds.reverse.length } := ⟨F', N', S.nd, S.gens, S.drawn, S.os⟩
  refine wpAny_mono (h g' L' _ ⟨⟨A, B'⟩, C.K.keeps st, ⟨mean, mg, mb, T.keeps st⟩, Around.frames_deeper C.fr, rfl, hk, C.hn, ?_, ?_⟩ S' FG) (fun fl s' hl => by cases fl <;> exact endOk_leaveK hl) fun _ _ x => x
  · have := C.dp; show A.depth + 1 + n < _; lia
  · have := C.un; show A.units + 3 + 8 * n < _; lia
theorem r_code {f : Addr} {args : Args} {binds : Loc} {R : Result → Shared → Prop} {qual name : Str} {params : Arguments} {body : List Stmt} {scope : Scope} {dV kV doc pm cdv ct oc : Value} {an od : Option Addr} {osl : Array (Option Value)}
    (C : Cx w base outer env A g L (n + 1)) (S : St c g L m news s)
    (ho : (Mine.hd.heap_1 w.params).lookup f = some ⟨oc, od, .func (fnOf name qual params body scope dV kV doc pm an cdv ct), osl⟩) (hcd : codeIn (Mine.hd.heap_1 w.params) cdv qual = true)
    (hbind : BindsTo s (fnOf name qual params body scope dV kV doc pm an cdv ct) args binds.reverse) (hloc : ∀ y ∈ binds.reverse, scope.names.lookup y.1 = some .local)
    (h : ∀ g' L' s', Cx w base (env :: outer) (envOf qual scope L' f cdv) (A.deeper (envOf qual scope L' f cdv)) g' L' n → St c g' L' binds news s' → Fr g L g' (fun y => m.lookup y) →
      wpAny (model PRG w) (A.deeper (envOf qual scope L' f cdv)) (execs body (envOf qual scope L' f cdv))
        (fun fl s' => EndOk c g L m g' (retOf fl) (fun v s' => R (.ok (.ret v)) s') s')
        (fun e s' => wpAny (model PRG w) (A.deeper (envOf qual scope L' f cdv)) (leaving (envOf qual scope L' f cdv) e) (fun _ s'' => R (.error e) s'') (fun e' s'' => R (.error e') s'') s') s')
    (hcell : ∀ x ∈ scope.names, x.2 ≠ .cell := by decide) (hco : scope.isCoroutine = false := by rfl) (hgen : scope.isGenerator = false := by rfl) (hk : scope.kind = .function := by rfl) :
    codeAny (model PRG w) A (.call (.ref f) args) R s := r_codeL (lim := 600) (by decide) C S ho hcd hbind hloc h hcell hco hgen hk
theorem r_def {f : Addr} {pos : List Value} {binds : Loc} {qual name : Str} {params : Arguments} {body : List Stmt} {scope : Scope} {dV kV doc pm cdv ct oc : Value} {an od : Option Addr} {osl : Array (Option Value)}
    (C : Cx w base outer env A g L (n + 1)) (S : St c g L m news s)
    (ho : (Mine.hd.heap_1 w.params).lookup f = some ⟨oc, od, .func (fnOf name qual params body scope dV kV doc pm an cdv ct), osl⟩) (hcd : codeIn (Mine.hd.heap_1 w.params) cdv qual = true)
    (hbind : BindsTo s (fnOf name qual params body scope dV kV doc pm an cdv ct) ⟨pos, []⟩ binds.reverse) (hloc : ∀ y ∈ binds.reverse, scope.names.lookup y.1 = some .local)
    (h : ∀ g' L' s', Cx w base (env :: outer) (envOf qual scope L' f cdv) (A.deeper (envOf qual scope L' f cdv)) g' L' n → St c g' L' binds news s' → Fr g L g' (fun y => m.lookup y) →
      wpAny (model PRG w) (A.deeper (envOf qual scope L' f cdv)) (execs body (envOf qual scope L' f cdv))
        (fun fl s' => EndOk c g L m g' (retOf fl) Q s')
        (fun e s' => wpAny (model PRG w) (A.deeper (envOf qual scope L' f cdv)) (leaving (envOf qual scope L' f cdv) e) (fun _ s'' => E e s'') (fun e' s'' => E e' s'') s') s')
    (hcell : ∀ x ∈ scope.names, x.2 ≠ .cell := by decide) (hco : scope.isCoroutine = false := by rfl) (hgen : scope.isGenerator = false := by rfl) (hk : scope.kind = .function := by rfl) :
    wpAny (model PRG w) A (call (.ref f) pos) Q E s := wpAny_call (r_code C S ho hcd hbind hloc h hcell hco hgen hk)
theorem r_callK {e : Expr} {rest : List Expr} {pos : Pos} {f : Value} {first : List Value} (hk : keepIn (Mine.hd.heap_1 w.params) f = true)
    (h : wpAny (model PRG w) A (spliced (backTo pos (starEach (e :: rest) env))) (fun vs s₁ => (Mine.hd.heap_1 w.params).In s₁.heap ∧ wpAny (model PRG w) A (call f (first ++ vs)) Q E s₁) E s)
    (he : starEach (e :: rest) env = (false, eval e env) :: starEach rest env := by rfl) (hplain : (backTo pos (starEach rest env)).any (·.1) = false := by rfl) :
    wpAny (model PRG w) A (callWith pos f first (backTo pos (starEach (e :: rest) env)) []) Q E s := by
  rw [he] at h ⊢
  exact callWith_of (by show ((false || (backTo pos (starEach rest env)).any (·.1)) || false) = false; rw [hplain]; rfl) (keeps_K hk) (evalArgs_plain h)
theorem r_callK0 {pos : Pos} {f : Value} {first : List Value} (C : Cx w base outer env A g L n) (S : St c g L m news s) (hk : keepIn (Mine.hd.heap_1 w.params) f = true) (h : wpAny (model PRG w) A (call f (first ++ [])) Q E s) :
    wpAny (model PRG w) A (callWith pos f first (backTo pos (starEach [] env)) []) Q E s := callWith_of rfl (keeps_K hk) (evalArgs_nil3 ⟨C.inK S, h⟩)
theorem r_meth {o : Expr} {name : Str} {apos pos : Pos} {args : List Expr} {pl : Sem Bool}
    (h : wpAny (model PRG w) A (eval o env) (fun ov s₁ => wpAny (model PRG w) A (getMethod ov name pl) (fun fx s₂ => wpAny (model PRG w) A (callWith pos fx.1 fx.2 (backTo pos (starEach args env)) []) Q E s₂) E s₁) E s)
    (he : eval (.Call (.Attribute o name apos) args [] pos) env = (do
      let ov ← eval o env
      standAt apos.atName
      let (f, first) ← holding [ov] (getMethod ov name pl)
      callWith pos f first (backTo pos (starEach args env)) (backToKw pos (keywordEach [] env))) := by rfl) :
    wpAny (model PRG w) A (eval (.Call (.Attribute o name apos) args [] pos) env) Q E s := methodCall_KW h he
theorem r_call {x : Str} {np pos : Pos} {args : List Expr}
    (h : wpAny (model PRG w) A (eval (.Name x np) env) (fun f s₁ => wpAny (model PRG w) A (callWith pos f [] (backTo pos (starEach args env)) []) Q E s₁) E s) :
    wpAny (model PRG w) A (eval (.Call (.Name x np) args [] pos) env) Q E s := wpAny_Call_ofName h
structure Meth (w : World) (cls : Addr) (name : Str) (f : Addr) : Prop where
  g : plainGet (Mine.hd.heap_1 w.params) cls name = true
  fn : findIn (Mine.hd.heap_1 w.params) (.ref cls) name = some (some (.ref f))
  ty : isFn (Mine.hd.heap_1 w.params) (.ref f) = true
theorem r_getm {a d cls f : Addr} {es : List DictEntry} {k' : Nat} {name : Str} {pl : Sem Bool} {Q : Value × List Value → Shared → Prop} (C : Cx w base outer env A g L n) (S : St c g L m news s) (o : Meth w cls name f)
    (ha : (a, instObj cls d) ∈ news) (hd : (d, dictOf es k') ∈ news) (hl : getL name es = some none) (k : Q (.ref f, [.ref a]) s) :
    wpAny (model PRG w) A (getMethod (.ref a) name pl) Q E s := method_inst S.fr C.K (InstAt.of_news S.nw ha hd) o.g o.fn o.ty hl k
theorem r_getml {a : Addr} {vs : List Value} {k' : Nat} {name : Str} {id : String} {pl : Sem Bool} {Q : Value × List Value → Shared → Prop} (S : St c g L m news s) (ha : (a, lst vs k') ∈ news)
    (slot : Slot "list" name id) (hty : typeOf (.builtin id) = pure (.type "method_descriptor")) (k : Q (.builtin id, [.ref a]) s) : wpAny (model PRG w) A (getMethod (.ref a) name pl) Q E s :=
  kl_method S.nw ha slot hty k
theorem r_append {a : Addr} {vs : List Value} {k' : Nat} {x : Value} (S : St c g L m news s) (U : At (a, lst vs k') (a, lst (vs ++ [x]) (k' + 1)) news news') (hz : vs.length ≤ sizeLine)
    (k : ∀ s', St c g L m news' s' → Q .none s') : wpAny (model PRG w) A (call (.builtin "list.append") [.ref a, x]) Q E s :=
  append_at (hsz := by rw [List.size_toArray]; exact hz) (S.get U.mem) fun h' hs ho' => k _ (S.upd (tk := s.toks) U hs (by rw [ho']; simp))
theorem r_pop {a : Addr} {vs : List Value} {k' : Nat} {x : Value} (S : St c g L m news s) (U : At (a, lst (vs ++ [x]) k') (a, lst vs (k' + 1)) news news') (hz : vs.length + 1 ≤ sizeLine)
    (k : ∀ s', St c g L m news' s' → Q x s') : wpAny (model PRG w) A (call (.builtin "list.pop") [.ref a]) Q E s := by
  have z := S.get U.mem
  have hz' : (vs ++ [x]).toArray.size ≤ sizeLine := by rw [List.size_toArray, List.length_append]; exact hz
  have hk : (vs ++ [x]).toArray.size - 1 = vs.length := by rw [List.size_toArray, List.length_append]; rfl
  have hy : (vs ++ [x]).toArray[(vs ++ [x]).toArray.size - 1]? = some x := by rw [hk]; simp
  refine call_meets PySem.F.slot_list_pop ⟨_, z, rfl⟩ PySem.F.entry_list_pop (PySem.F.args_list_pop_1 _) (PySem.MeetsSeq.list_pop_last a _ k' x hy hz') ⟨z, k _ (S.upd (tk := s.toks) U (Heap.SameBut.update ..) ?_)⟩
  have q := PySem.IsL.update z (fun xs => xs.eraseIdxIfInBounds ((vs ++ [x]).toArray.size - 1))
  have e : (vs ++ [x]).toArray.eraseIdxIfInBounds ((vs ++ [x]).toArray.size - 1) = vs.toArray := by
    rw [hk]
    have := kl_erase vs [] x
    rw [List.append_nil] at this
    exact this
  rw [e, if_neg (by simp)] at q
  exact q
theorem r_len {a : Addr} {vs : List Value} {k' : Nat} (S : St c g L m news s) (ha : (a, lst vs k') ∈ news) (hz : vs.length ≤ 1000000)
    (k : ∀ t s', St c g L m news s' → Q (.int vs.length t) s') : wpAny (model PRG w) A (call (.builtin "len") [.ref a]) Q E s := by
  have hl : s.heap.IsList a vs.toArray := ⟨_, S.get ha, rfl, _, rfl⟩
  have hfit : (vs.toArray.size : Int) < 2 ^ 63 := by rw [List.size_toArray]; lia
  refine call_len_list hl hfit ?_
  rw [List.size_toArray]
  exact k _ _ S.tok
theorem r_lenT {a : Addr} {vs : List Value} {k' : Nat} (S : St c g L m news s) (ha : (a, tup vs k') ∈ news) (hz : vs.length ≤ 1000000)
    (k : ∀ t s', St c g L m news s' → Q (.int vs.length t) s') : wpAny (model PRG w) A (call (.builtin "len") [.ref a]) Q E s := by
  have hl : IsTup s.heap a vs.toArray := ⟨_, S.get ha, rfl, _, rfl⟩
  have hfit : (vs.toArray.size : Int) < 2 ^ 63 := by rw [List.size_toArray]; lia
  refine len_tuple hl hfit ?_
  rw [List.size_toArray]
  exact k _ _ S.tok
theorem r_tuple {vs : List Value} (S : St c g L m news s) (hz : vs.length ≤ 1000000) (k : ∀ a s', St c g L m ((a, tup vs 0) :: news) s' → Q (.ref a) s') : wpAny (model PRG w) A (newTuple vs) Q E s :=
  wpAny_newObj_type (k _ _ (S.push (tk := s.toks))) (by show vs.toArray.size ≤ sizeLine; rw [List.size_toArray]; rw [sizeLine_eq]; lia)
theorem r_list {vs : List Value} (S : St c g L m news s) (hz : vs.length ≤ 1000000) (k : ∀ a s', St c g L m ((a, lst vs 0) :: news) s' → Q (.ref a) s') : wpAny (model PRG w) A (newList vs) Q E s :=
  wpAny_newObj_type (k _ _ (S.push (tk := s.toks))) (by show vs.toArray.size ≤ sizeLine; rw [List.size_toArray]; rw [sizeLine_eq]; lia)
end
end Mine
end
section
open PySem PySem.W PyProof.Rows PySem.Calls PySem.Spec
set_option maxHeartbeats 2000000
namespace Mine
theorem t_pos {c : Prop} [Decidable c] {a b : Prop} (h : c) (k : a) : if c then a else b := by rw [if_pos h]; exact k
theorem t_neg {c : Prop} [Decidable c] {a b : Prop} (h : ¬ c) (k : b) : if c then a else b := by rw [if_neg h]; exact k
section
variable {w : World} {base : Heap} {outer : List Env} {env : Env} {A : Around} {c : Shared} {g g' : Heap} {L L' : Addr} {n : Nat} {m m' : Loc} {news news' : Led} {s : Shared} {E : Value → Shared → Prop}
variable {Q : Value → Shared → Prop}
theorem r_callB {e : Expr} {rest : List Expr} {pos : Pos} {id : String} {first : List Value}
    (h : wpAny (model PRG w) A (spliced (backTo pos (starEach (e :: rest) env))) (fun vs s₁ => wpAny (model PRG w) A (call (.builtin id) (first ++ vs)) Q E s₁) E s)
    (he : starEach (e :: rest) env = (false, eval e env) :: starEach rest env := by rfl) (hplain : (backTo pos (starEach rest env)).any (·.1) = false := by rfl) :
    wpAny (model PRG w) A (callWith pos (.builtin id) first (backTo pos (starEach (e :: rest) env)) []) Q E s := by
  rw [he] at h ⊢
  exact Calls.callWith_builtin (by show (false || (backTo pos (starEach rest env)).any (·.1)) = false; rw [hplain]; rfl) (evalArgs_plain h)
theorem r_callB0 {pos : Pos} {id : String} {first : List Value} (h : wpAny (model PRG w) A (call (.builtin id) (first ++ [])) Q E s) :
    wpAny (model PRG w) A (callWith pos (.builtin id) first (backTo pos (starEach [] env)) []) Q E s :=
  Calls.callWith_builtin rfl (evalArgs_nil3 h)
theorem r_callT {e : Expr} {rest : List Expr} {pos : Pos} {T : String}
    (h : wpAny (model PRG w) A (spliced (backTo pos (starEach (e :: rest) env))) (fun vs s₁ => wpAny (model PRG w) A (call (.type T) vs) Q E s₁) E s)
    (he : starEach (e :: rest) env = (false, eval e env) :: starEach rest env := by rfl)
    (hplain : (backTo pos (starEach rest env)).any (·.1) = false := by rfl) :
    wpAny (model PRG w) A (callWith pos (.type T) [] (backTo pos (starEach (e :: rest) env)) []) Q E s := by
  rw [he] at h ⊢
  exact PyProof.Rows.callWith_type (by show (false || (backTo pos (starEach rest env)).any (·.1)) = false; rw [hplain]; rfl) (evalArgs_plain h)
theorem r_item {value slice : Expr} {a : Addr} {vs : List Value} {k' : Nat} {i : Int} {u : Tok} {v : Value} (S : St c g L m news s) (ha : (a, lst vs k') ∈ news) (h0 : 0 ≤ i) (h1 : i < 2 ^ 63) (hx : vs[i.toNat]? = some v) (k : Q v s)
    (hs : subscripted slice false (.ref a) (.int i u) = operate [.ref a, .int i u] (getItem (.ref a) (.int i u)) := by with_unfolding_all rfl) :
    wpAny (model PRG w) A (subscriptTail value slice (.ref a) (.int i u)) Q E s :=
  have hl : s.heap.IsList a vs.toArray := ⟨_, S.get ha, rfl, _, rfl⟩
  tail_any hl.typeIs slot_list_getitem.lookup (wpAny_getItem_list hl h0 h1 (by simpa using hx) k) hs
theorem r_itemT {value slice : Expr} {a : Addr} {vs : List Value} {k' : Nat} {i : Int} {u : Tok} {v : Value} (S : St c g L m news s) (ha : (a, tup vs k') ∈ news) {j : Nat} (h0 : -(2 ^ 63) ≤ i) (h1 : i < 2 ^ 63) (hj : seqIndex? i vs.length = some j) (hx : vs[j]? = some v) (k : Q v s)
    (hs : subscripted slice false (.ref a) (.int i u) = operate [.ref a, .int i u] (getItem (.ref a) (.int i u)) := by with_unfolding_all rfl) :
    wpAny (model PRG w) A (subscriptTail value slice (.ref a) (.int i u)) Q E s :=
  have hl : IsTup s.heap a vs.toArray := ⟨_, S.get ha, rfl, _, rfl⟩
  item_tupleT hl h0 h1 hj hx k hs
theorem r_dget {value slice : Expr} {d : Addr} {o : Obj} {kvs : List (Str × Value)} {x : Str} {t : Tok} {v : Value} (S : St c g L m news s) (hp : (d, o) ∈ news) (hd : o.IsDictOf (PySem.strKind PRG w) kvs) (hl : valueAt kvs x = some v) (k : ∀ s', St c g L m news s' → Q v s')
    (hs : subscripted slice false (.ref d) (.str x t) = operate [.ref d, .str x t] (getItem (.ref d) (.str x t)) := by with_unfolding_all rfl) :
    wpAny (model PRG w) A (subscriptTail value slice (.ref d) (.str x t)) Q E s :=
  kdt_tail S.nw hp hd (kdt_getItem S.nw hp hd (strKind_is _ _ _ _) hl (k _ S.tok)) hs
theorem r_dset {d : Addr} {o : Obj} {kvs kvs' : List (Str × Value)} {x : Str} {t : Tok} {v : Value} {news' : Obj → Led} {Q : Unit → Shared → Prop} (S : St c g L m news s) (hd : o.IsDictOf (PySem.strKind PRG w) kvs) (U : ∀ o', At (d, o) (d, o') news (news' o')) (hz : kvs.length ≤ 1000)
    (hst : stored kvs x v = kvs') (k : ∀ o' s', o'.IsDictOf (PySem.strKind PRG w) kvs' → St c g L m (news' o') s' → Q () s') : wpAny (model PRG w) A (setItem (.ref d) (.str x t) v) Q E s := by
  have hm := S.nw _ (U o).mem
  refine wpAny_setItem_pairs (hsz := by rw [sizeLine_eq]; lia) (strKind_is _ _ _ _) (Heap.dictOf_iff.mpr ⟨o, hm.1, hd⟩) fun h' hmm hs => ?_
  obtain ⟨o', ho', hd'⟩ := Heap.dictOf_iff.mp hmm
  rw [hst] at hd'
  exact k o' _ hd' (S.upd (U o') hs ho')
noncomputable abbrev WDict (w : World) (o : Obj) (b hs hi de fr du fn : Value) : Prop := o.IsDictOf (PySem.strKind PRG w) [("body", b), ("heights", hs), ("high", hi), ("dead", de), ("frames", fr), ("due", du), ("function", fn)]
theorem r_wset_high {d : Addr} {o : Obj} {t : Tok} {b hs hi de fr du fn v : Value} {news' : Obj → Led} {Q : Unit → Shared → Prop} (S : St c g L m news s) (hd : WDict w o b hs hi de fr du fn) (U : ∀ o', At (d, o) (d, o') news (news' o'))
    (k : ∀ o' s', WDict w o' b hs v de fr du fn → St c g L m (news' o') s' → Q () s') : wpAny (model PRG w) A (setItem (.ref d) (.str "high" t) v) Q E s := r_dset S hd U (Nat.le_of_ble_eq_true rfl) rfl k
theorem r_wset_dead {d : Addr} {o : Obj} {t : Tok} {b hs hi de fr du fn v : Value} {news' : Obj → Led} {Q : Unit → Shared → Prop} (S : St c g L m news s) (hd : WDict w o b hs hi de fr du fn) (U : ∀ o', At (d, o) (d, o') news (news' o'))
    (k : ∀ o' s', WDict w o' b hs hi v fr du fn → St c g L m (news' o') s' → Q () s') : wpAny (model PRG w) A (setItem (.ref d) (.str "dead" t) v) Q E s := r_dset S hd U (Nat.le_of_ble_eq_true rfl) rfl k
theorem r_wset_due {d : Addr} {o : Obj} {t : Tok} {b hs hi de fr du fn v : Value} {news' : Obj → Led} {Q : Unit → Shared → Prop} (S : St c g L m news s) (hd : WDict w o b hs hi de fr du fn) (U : ∀ o', At (d, o) (d, o') news (news' o'))
    (k : ∀ o' s', WDict w o' b hs hi de fr v fn → St c g L m (news' o') s' → Q () s') : wpAny (model PRG w) A (setItem (.ref d) (.str "due" t) v) Q E s := r_dset S hd U (Nat.le_of_ble_eq_true rfl) rfl k
theorem r_eqd {a b : Value} {da db : PyData} {as bs : List Addr} {r : Bool} (ra : Reads s.heap a da as) (rb : Reads s.heap b db bs) (ha : PySem.SeqAt.shaped da = true) (hb : PySem.SeqAt.shaped db = true) (hu : A.units + 64 < cLine) (he : PyData.eqv da db = r) (k : Q (.bool r) s) :
    wpAny (model PRG w) A (compareOp .Eq a b) Q E s := eq_dataH ra rb ha hb hu (by rw [he]; exact k)
theorem r_ned {a b : Value} {da db : PyData} {as bs : List Addr} {r : Bool} (ra : Reads s.heap a da as) (rb : Reads s.heap b db bs) (ha : PySem.SeqAt.shaped da = true) (hb : PySem.SeqAt.shaped db = true) (hu : A.units + 64 < cLine) (he : PyData.eqv da db = r) (k : Q (.bool (!r)) s) :
    wpAny (model PRG w) A (compareOp .NotEq a b) Q E s := ne_dataH ra rb ha hb hu (by rw [he]; exact k)
theorem r_add {a b : Int} {t u : Tok} (S : St c g L m news s) (k : ∀ t' s', St c g L m news s' → Q (.int (a + b) t') s') : wpAny (model PRG w) A (binaryOp .Add (.int a t) (.int b u)) Q E s := add_int (k _ _ S.tok)
theorem r_sub {a b : Int} {t u : Tok} (S : St c g L m news s) (k : ∀ t' s', St c g L m news s' → Q (.int (a - b) t') s') : wpAny (model PRG w) A (binaryOp .Sub (.int a t) (.int b u)) Q E s := sub_int (k _ _ S.tok)
theorem r_mod {a b : Int} {t u : Tok} (S : St c g L m news s) (hb : b ≠ 0) (k : ∀ t' s', St c g L m news s' → Q (.int (a.fmod b) t') s') : wpAny (model PRG w) A (binaryOp .Mod (.int a t) (.int b u)) Q E s := mod_int' hb (k _ _ S.tok)
end
end Mine
end
section
open PySem PySem.W PyProof.Rows PySem.Calls PySem.Spec
set_option maxHeartbeats 2000000
namespace Mine
theorem pg_353 (w : World) : plainGet (Mine.hd.heap_1 w.params) 353 "" = true := by kernel_rfl
theorem hd_353 (w : World) : hasDictIn (Mine.hd.heap_1 w.params) 353 = true := by kernel_rfl
theorem own_353_kinds (w : World) : Own w 353 "kinds" := ⟨pg_353 w, hd_353 w, ⟨none, by kernel_rfl, rfl⟩⟩
theorem own_353_funcs (w : World) : Own w 353 "funcs" := ⟨pg_353 w, hd_353 w, ⟨none, by kernel_rfl, rfl⟩⟩
theorem own_353_function (w : World) : Own w 353 "function" := ⟨pg_353 w, hd_353 w, ⟨none, by kernel_rfl, rfl⟩⟩
theorem own_353_locals (w : World) : Own w 353 "locals" := ⟨pg_353 w, hd_353 w, ⟨none, by kernel_rfl, rfl⟩⟩
theorem own_353_results (w : World) : Own w 353 "results" := ⟨pg_353 w, hd_353 w, ⟨none, by kernel_rfl, rfl⟩⟩
theorem own_353_values (w : World) : Own w 353 "values" := ⟨pg_353 w, hd_353 w, ⟨none, by kernel_rfl, rfl⟩⟩
theorem own_353_blocks (w : World) : Own w 353 "blocks" := ⟨pg_353 w, hd_353 w, ⟨none, by kernel_rfl, rfl⟩⟩
theorem own_353_at (w : World) : Own w 353 "at" := ⟨pg_353 w, hd_353 w, ⟨none, by kernel_rfl, rfl⟩⟩
theorem pg_157 (w : World) : plainGet (Mine.hd.heap_1 w.params) 157 "" = true := by kernel_rfl
theorem hd_157 (w : World) : hasDictIn (Mine.hd.heap_1 w.params) 157 = true := by kernel_rfl
theorem own_157_code (w : World) : Own w 157 "code" := ⟨pg_157 w, hd_157 w, ⟨none, by kernel_rfl, rfl⟩⟩
theorem own_157_params (w : World) : Own w 157 "params" := ⟨pg_157 w, hd_157 w, ⟨none, by kernel_rfl, rfl⟩⟩
theorem own_157_results (w : World) : Own w 157 "results" := ⟨pg_157 w, hd_157 w, ⟨none, by kernel_rfl, rfl⟩⟩
theorem own_157_height (w : World) : Own w 157 "height" := ⟨pg_157 w, hd_157 w, ⟨none, by kernel_rfl, rfl⟩⟩
theorem own_157_is_dead (w : World) : Own w 157 "is_dead" := ⟨pg_157 w, hd_157 w, ⟨none, by kernel_rfl, rfl⟩⟩
theorem own_157_is_buried (w : World) : Own w 157 "is_buried" := ⟨pg_157 w, hd_157 w, ⟨none, by kernel_rfl, rfl⟩⟩
theorem pg_388 (w : World) : plainGet (Mine.hd.heap_1 w.params) 388 "" = true := by kernel_rfl
theorem hd_388 (w : World) : hasDictIn (Mine.hd.heap_1 w.params) 388 = true := by kernel_rfl
theorem own_388_kind (w : World) : Own w 388 "kind" := ⟨pg_388 w, hd_388 w, ⟨none, by kernel_rfl, rfl⟩⟩
theorem own_388_locals (w : World) : Own w 388 "locals" := ⟨pg_388 w, hd_388 w, ⟨none, by kernel_rfl, rfl⟩⟩
theorem own_388_body (w : World) : Own w 388 "body" := ⟨pg_388 w, hd_388 w, ⟨none, by kernel_rfl, rfl⟩⟩
theorem meth_353_fail (w : World) : Meth w 353 "fail" 182 := ⟨pg_353 w, by kernel_rfl, by kernel_rfl⟩
theorem meth_353_push (w : World) : Meth w 353 "push" 189 := ⟨pg_353 w, by kernel_rfl, by kernel_rfl⟩
theorem meth_353_push_all (w : World) : Meth w 353 "push_all" 196 := ⟨pg_353 w, by kernel_rfl, by kernel_rfl⟩
theorem meth_353_pop_any (w : World) : Meth w 353 "pop_any" 203 := ⟨pg_353 w, by kernel_rfl, by kernel_rfl⟩
theorem meth_353_pop (w : World) : Meth w 353 "pop" 210 := ⟨pg_353 w, by kernel_rfl, by kernel_rfl⟩
theorem meth_353_pop_all (w : World) : Meth w 353 "pop_all" 217 := ⟨pg_353 w, by kernel_rfl, by kernel_rfl⟩
theorem meth_353_begin (w : World) : Meth w 353 "begin" 224 := ⟨pg_353 w, by kernel_rfl, by kernel_rfl⟩
theorem meth_353_close (w : World) : Meth w 353 "close" 231 := ⟨pg_353 w, by kernel_rfl, by kernel_rfl⟩
theorem meth_353_kill (w : World) : Meth w 353 "kill" 238 := ⟨pg_353 w, by kernel_rfl, by kernel_rfl⟩
theorem meth_353_target (w : World) : Meth w 353 "target" 245 := ⟨pg_353 w, by kernel_rfl, by kernel_rfl⟩
theorem meth_353_block_kind (w : World) : Meth w 353 "block_kind" 252 := ⟨pg_353 w, by kernel_rfl, by kernel_rfl⟩
theorem meth_353_type_at (w : World) : Meth w 353 "type_at" 259 := ⟨pg_353 w, by kernel_rfl, by kernel_rfl⟩
theorem meth_353_func_at (w : World) : Meth w 353 "func_at" 266 := ⟨pg_353 w, by kernel_rfl, by kernel_rfl⟩
theorem meth_353_local_at (w : World) : Meth w 353 "local_at" 273 := ⟨pg_353 w, by kernel_rfl, by kernel_rfl⟩
theorem meth_353_check (w : World) : Meth w 353 "check" 280 := ⟨pg_353 w, by kernel_rfl, by kernel_rfl⟩
theorem meth_353_step (w : World) : Meth w 353 "step" 287 := ⟨pg_353 w, by kernel_rfl, by kernel_rfl⟩
theorem meth_353_more (w : World) : Meth w 353 "more" 294 := ⟨pg_353 w, by kernel_rfl, by kernel_rfl⟩
theorem meth_353_number (w : World) : Meth w 353 "number" 301 := ⟨pg_353 w, by kernel_rfl, by kernel_rfl⟩
theorem meth_353_control (w : World) : Meth w 353 "control" 308 := ⟨pg_353 w, by kernel_rfl, by kernel_rfl⟩
theorem meth_353_other (w : World) : Meth w 353 "other" 315 := ⟨pg_353 w, by kernel_rfl, by kernel_rfl⟩
theorem meth_353_end (w : World) : Meth w 353 "end" 322 := ⟨pg_353 w, by kernel_rfl, by kernel_rfl⟩
theorem meth_353_branch (w : World) : Meth w 353 "branch" 329 := ⟨pg_353 w, by kernel_rfl, by kernel_rfl⟩
theorem meth_353_call (w : World) : Meth w 353 "call" 336 := ⟨pg_353 w, by kernel_rfl, by kernel_rfl⟩
theorem meth_353_local (w : World) : Meth w 353 "local" 343 := ⟨pg_353 w, by kernel_rfl, by kernel_rfl⟩
theorem meth_353_select (w : World) : Meth w 353 "select" 350 := ⟨pg_353 w, by kernel_rfl, by kernel_rfl⟩
theorem meth_157_label (w : World) : Meth w 157 "label" 154 := ⟨pg_157 w, by kernel_rfl, by kernel_rfl⟩
theorem gl_I32 (w : World) : nsIn (Mine.hd.heap_1 w.params) mainGlobals "I32" = some (some (.int (-1) 197)) := by kernel_rfl
theorem gl_I64 (w : World) : nsIn (Mine.hd.heap_1 w.params) mainGlobals "I64" = some (some (.int (-2) 200)) := by kernel_rfl
theorem gl_KIND_NAMES (w : World) : nsIn (Mine.hd.heap_1 w.params) mainGlobals "KIND_NAMES" = some (some (.ref 22)) := by kernel_rfl
theorem gl_is_kind (w : World) : nsIn (Mine.hd.heap_1 w.params) mainGlobals "is_kind" = some (some (.ref 29)) := by kernel_rfl
theorem gl_block_kind_kinds (w : World) : nsIn (Mine.hd.heap_1 w.params) mainGlobals "block_kind_kinds" = some (some (.ref 36)) := by kernel_rfl
theorem gl_BLOCK (w : World) : nsIn (Mine.hd.heap_1 w.params) mainGlobals "BLOCK" = some (some (.int 2 238)) := by kernel_rfl
theorem gl_LOOP (w : World) : nsIn (Mine.hd.heap_1 w.params) mainGlobals "LOOP" = some (some (.int 3 240)) := by kernel_rfl
theorem gl_IF (w : World) : nsIn (Mine.hd.heap_1 w.params) mainGlobals "IF" = some (some (.int 4 242)) := by kernel_rfl
theorem gl_ELSE (w : World) : nsIn (Mine.hd.heap_1 w.params) mainGlobals "ELSE" = some (some (.int 5 244)) := by kernel_rfl
theorem gl_NUMBERS (w : World) : nsIn (Mine.hd.heap_1 w.params) mainGlobals "NUMBERS" = some (some (.ref 73)) := by kernel_rfl
theorem gl_number_kind (w : World) : nsIn (Mine.hd.heap_1 w.params) mainGlobals "number_kind" = some (some (.ref 80)) := by kernel_rfl
theorem gl_is_block (w : World) : nsIn (Mine.hd.heap_1 w.params) mainGlobals "is_block" = some (some (.ref 87)) := by kernel_rfl
theorem gl_WasmFault (w : World) : nsIn (Mine.hd.heap_1 w.params) mainGlobals "WasmFault" = some (some (.ref 104)) := by kernel_rfl
theorem gl_Invalid (w : World) : nsIn (Mine.hd.heap_1 w.params) mainGlobals "Invalid" = some (some (.ref 124)) := by kernel_rfl
theorem gl_UNKNOWN (w : World) : nsIn (Mine.hd.heap_1 w.params) mainGlobals "UNKNOWN" = some (some (.int 0 350)) := by kernel_rfl
theorem gl_FUNCTION (w : World) : nsIn (Mine.hd.heap_1 w.params) mainGlobals "FUNCTION" = some (some (.int (-1) 353)) := by kernel_rfl
theorem gl_is_number_kind (w : World) : nsIn (Mine.hd.heap_1 w.params) mainGlobals "is_number_kind" = some (some (.ref 133)) := by kernel_rfl
theorem gl_Block (w : World) : nsIn (Mine.hd.heap_1 w.params) mainGlobals "Block" = some (some (.ref 157)) := by kernel_rfl
theorem gl_StackCheck (w : World) : nsIn (Mine.hd.heap_1 w.params) mainGlobals "StackCheck" = some (some (.ref 353)) := by kernel_rfl
theorem gl_core_heights (w : World) : nsIn (Mine.hd.heap_1 w.params) mainGlobals "core_heights" = some (some (.ref 364)) := by kernel_rfl
theorem gl_Func (w : World) : nsIn (Mine.hd.heap_1 w.params) mainGlobals "Func" = some (some (.ref 388)) := by kernel_rfl
theorem gl_law_none (w : World) : nsIn (Mine.hd.heap_1 w.params) mainGlobals "_law_none" = some (some (.ref 399)) := by kernel_rfl
theorem gl_law_next (w : World) : nsIn (Mine.hd.heap_1 w.params) mainGlobals "_law_next" = some (some (.ref 406)) := by kernel_rfl
theorem gl_law_emit (w : World) : nsIn (Mine.hd.heap_1 w.params) mainGlobals "_law_emit" = some (some (.ref 413)) := by kernel_rfl
theorem gl_law_bad (w : World) : nsIn (Mine.hd.heap_1 w.params) mainGlobals "_law_bad" = some (some (.ref 420)) := by kernel_rfl
theorem gl_law_open (w : World) : nsIn (Mine.hd.heap_1 w.params) mainGlobals "_law_open" = some (some (.ref 427)) := by kernel_rfl
theorem gl_law_close (w : World) : nsIn (Mine.hd.heap_1 w.params) mainGlobals "_law_close" = some (some (.ref 434)) := by kernel_rfl
theorem gl_law_spot (w : World) : nsIn (Mine.hd.heap_1 w.params) mainGlobals "_law_spot" = some (some (.ref 441)) := by kernel_rfl
theorem gl_law_local (w : World) : nsIn (Mine.hd.heap_1 w.params) mainGlobals "_law_local" = some (some (.ref 448)) := by kernel_rfl
theorem gl_law_label (w : World) : nsIn (Mine.hd.heap_1 w.params) mainGlobals "_law_label" = some (some (.ref 453)) := by kernel_rfl
theorem gl_law_select (w : World) : nsIn (Mine.hd.heap_1 w.params) mainGlobals "_law_select" = some (some (.ref 460)) := by kernel_rfl
theorem gl_law_edge (w : World) : nsIn (Mine.hd.heap_1 w.params) mainGlobals "_law_edge" = some (some (.ref 467)) := by kernel_rfl
theorem gb_len (w : World) : nsIn (Mine.hd.heap_1 w.params) mainGlobals "len" = some none := by kernel_rfl
theorem gb_range (w : World) : nsIn (Mine.hd.heap_1 w.params) mainGlobals "range" = some none := by kernel_rfl
theorem gb_enumerate (w : World) : nsIn (Mine.hd.heap_1 w.params) mainGlobals "enumerate" = some none := by kernel_rfl
theorem gb_tuple (w : World) : nsIn (Mine.hd.heap_1 w.params) mainGlobals "tuple" = some none := by kernel_rfl
theorem gb_list (w : World) : nsIn (Mine.hd.heap_1 w.params) mainGlobals "list" = some none := by kernel_rfl
theorem gb_int (w : World) : nsIn (Mine.hd.heap_1 w.params) mainGlobals "int" = some none := by kernel_rfl
theorem gb_max (w : World) : nsIn (Mine.hd.heap_1 w.params) mainGlobals "max" = some none := by kernel_rfl
theorem gb_Exception (w : World) : nsIn (Mine.hd.heap_1 w.params) mainGlobals "Exception" = some none := by kernel_rfl
theorem keep_29 (w : World) : keepIn (Mine.hd.heap_1 w.params) (.ref 29) = true := by kernel_rfl
theorem keep_36 (w : World) : keepIn (Mine.hd.heap_1 w.params) (.ref 36) = true := by kernel_rfl
theorem keep_80 (w : World) : keepIn (Mine.hd.heap_1 w.params) (.ref 80) = true := by kernel_rfl
theorem keep_87 (w : World) : keepIn (Mine.hd.heap_1 w.params) (.ref 87) = true := by kernel_rfl
theorem keep_124 (w : World) : keepIn (Mine.hd.heap_1 w.params) (.ref 124) = true := by kernel_rfl
theorem keep_133 (w : World) : keepIn (Mine.hd.heap_1 w.params) (.ref 133) = true := by kernel_rfl
theorem keep_157 (w : World) : keepIn (Mine.hd.heap_1 w.params) (.ref 157) = true := by kernel_rfl
theorem keep_353 (w : World) : keepIn (Mine.hd.heap_1 w.params) (.ref 353) = true := by kernel_rfl
theorem keep_364 (w : World) : keepIn (Mine.hd.heap_1 w.params) (.ref 364) = true := by kernel_rfl
theorem keep_388 (w : World) : keepIn (Mine.hd.heap_1 w.params) (.ref 388) = true := by kernel_rfl
theorem keep_399 (w : World) : keepIn (Mine.hd.heap_1 w.params) (.ref 399) = true := by kernel_rfl
theorem keep_406 (w : World) : keepIn (Mine.hd.heap_1 w.params) (.ref 406) = true := by kernel_rfl
theorem keep_413 (w : World) : keepIn (Mine.hd.heap_1 w.params) (.ref 413) = true := by kernel_rfl
theorem keep_420 (w : World) : keepIn (Mine.hd.heap_1 w.params) (.ref 420) = true := by kernel_rfl
theorem keep_427 (w : World) : keepIn (Mine.hd.heap_1 w.params) (.ref 427) = true := by kernel_rfl
theorem keep_434 (w : World) : keepIn (Mine.hd.heap_1 w.params) (.ref 434) = true := by kernel_rfl
theorem keep_441 (w : World) : keepIn (Mine.hd.heap_1 w.params) (.ref 441) = true := by kernel_rfl
theorem keep_448 (w : World) : keepIn (Mine.hd.heap_1 w.params) (.ref 448) = true := by kernel_rfl
theorem keep_453 (w : World) : keepIn (Mine.hd.heap_1 w.params) (.ref 453) = true := by kernel_rfl
theorem keep_460 (w : World) : keepIn (Mine.hd.heap_1 w.params) (.ref 460) = true := by kernel_rfl
theorem keep_467 (w : World) : keepIn (Mine.hd.heap_1 w.params) (.ref 467) = true := by kernel_rfl
theorem keep_182 (w : World) : keepIn (Mine.hd.heap_1 w.params) (.ref 182) = true := by kernel_rfl
theorem keep_189 (w : World) : keepIn (Mine.hd.heap_1 w.params) (.ref 189) = true := by kernel_rfl
theorem keep_196 (w : World) : keepIn (Mine.hd.heap_1 w.params) (.ref 196) = true := by kernel_rfl
theorem keep_203 (w : World) : keepIn (Mine.hd.heap_1 w.params) (.ref 203) = true := by kernel_rfl
theorem keep_210 (w : World) : keepIn (Mine.hd.heap_1 w.params) (.ref 210) = true := by kernel_rfl
theorem keep_217 (w : World) : keepIn (Mine.hd.heap_1 w.params) (.ref 217) = true := by kernel_rfl
theorem keep_224 (w : World) : keepIn (Mine.hd.heap_1 w.params) (.ref 224) = true := by kernel_rfl
theorem keep_231 (w : World) : keepIn (Mine.hd.heap_1 w.params) (.ref 231) = true := by kernel_rfl
theorem keep_238 (w : World) : keepIn (Mine.hd.heap_1 w.params) (.ref 238) = true := by kernel_rfl
theorem keep_245 (w : World) : keepIn (Mine.hd.heap_1 w.params) (.ref 245) = true := by kernel_rfl
theorem keep_252 (w : World) : keepIn (Mine.hd.heap_1 w.params) (.ref 252) = true := by kernel_rfl
theorem keep_259 (w : World) : keepIn (Mine.hd.heap_1 w.params) (.ref 259) = true := by kernel_rfl
theorem keep_266 (w : World) : keepIn (Mine.hd.heap_1 w.params) (.ref 266) = true := by kernel_rfl
theorem keep_273 (w : World) : keepIn (Mine.hd.heap_1 w.params) (.ref 273) = true := by kernel_rfl
theorem keep_280 (w : World) : keepIn (Mine.hd.heap_1 w.params) (.ref 280) = true := by kernel_rfl
theorem keep_287 (w : World) : keepIn (Mine.hd.heap_1 w.params) (.ref 287) = true := by kernel_rfl
theorem keep_294 (w : World) : keepIn (Mine.hd.heap_1 w.params) (.ref 294) = true := by kernel_rfl
theorem keep_301 (w : World) : keepIn (Mine.hd.heap_1 w.params) (.ref 301) = true := by kernel_rfl
theorem keep_308 (w : World) : keepIn (Mine.hd.heap_1 w.params) (.ref 308) = true := by kernel_rfl
theorem keep_315 (w : World) : keepIn (Mine.hd.heap_1 w.params) (.ref 315) = true := by kernel_rfl
theorem keep_322 (w : World) : keepIn (Mine.hd.heap_1 w.params) (.ref 322) = true := by kernel_rfl
theorem keep_329 (w : World) : keepIn (Mine.hd.heap_1 w.params) (.ref 329) = true := by kernel_rfl
theorem keep_336 (w : World) : keepIn (Mine.hd.heap_1 w.params) (.ref 336) = true := by kernel_rfl
theorem keep_343 (w : World) : keepIn (Mine.hd.heap_1 w.params) (.ref 343) = true := by kernel_rfl
theorem keep_350 (w : World) : keepIn (Mine.hd.heap_1 w.params) (.ref 350) = true := by kernel_rfl
theorem keep_154 (w : World) : keepIn (Mine.hd.heap_1 w.params) (.ref 154) = true := by kernel_rfl
end Mine
end
section
open PySem PySem.W PyProof.Rows PySem.Calls PySem.Spec
set_option maxHeartbeats 2000000
namespace Mine
theorem At.toUpd {a : Addr} {o o' : Obj} {l l' : Led} (U : At (a, o) (a, o') l l') (nd : (l.map (·.1)).Nodup) : Upd a o o' l l' := by
  generalize hx : (a, o) = x at U
  generalize hy : (a, o') = y at U
  induction U with
  | @hd r =>
    subst hx hy
    exact .head fun p hp e => (List.nodup_cons.mp nd).1 (List.mem_map.mpr ⟨p, hp, e⟩)
  | @tl z r r' U ih =>
    subst hx hy
    refine .tail (fun e => ?_) (ih (List.nodup_cons.mp nd).2); exact (List.nodup_cons.mp nd).1 (List.mem_map.mpr ⟨_, U.mem, e.symm⟩)
structure SetOk (w : World) (cls : Addr) (name : Str) : Prop where
  s : findIn (Mine.hd.heap_1 w.params) (.ref cls) "__setattr__" = some (some (.builtin "object.__setattr__"))
  p : plainOver (Mine.hd.heap_1 w.params) cls = true
  t : takerIn (Mine.hd.heap_1 w.params) cls name = some none
  h : hasDictIn (Mine.hd.heap_1 w.params) cls = true
section
variable {w : World} {base : Heap} {outer : List Env} {env : Env} {A : Around} {c : Shared} {g g' : Heap} {L L' : Addr} {n : Nat} {m m' : Loc} {news news' : Led} {s : Shared} {E : Value → Shared → Prop}
theorem r_set {a d cls : Addr} {es es' : List DictEntry} {k1 k2 : Nat} {name : Str} {v : Value} {Q : Unit → Shared → Prop} (C : Cx w base outer env A g L n) (S : St c g L m news s) (o : SetOk w cls name)
    (ha : (a, instObj cls d) ∈ news) (hl : (getL name es).isSome = true) (e : ∀ hsh key, (putL name hsh key v es, putN name es k1) = (es', k2)) (U : At (d, dictOf es k1) (d, dictOf es' k2) news news') (hz : es'.length ≤ 1000)
    (k : ∀ s', St c g L m news' s' → Q () s') : wpAny (model PRG w) A (setAttr (.ref a) name v) Q E s := by
  refine set_dict S.fr C.K S.nw (InstAt.of_news S.nw ha U.mem) rfl o.s o.p o.t o.h hl (e _ _) (U.toUpd S.nd) hz fun h' F N => k _ ⟨F, N, ?_, S.gens, S.drawn, S.os⟩
  have nd := S.nd
  obtain ⟨pre, post, rfl, rfl⟩ := U.split
  rw [List.map_append, List.map_cons] at nd ⊢
  exact nd
theorem r_setNew {a d cls : Addr} {es : List DictEntry} {k1 : Nat} {name : Str} {v : Value} {news' : Int → Tok → Led} {Q : Unit → Shared → Prop} (C : Cx w base outer env A g L n) (S : St c g L m news s) (o : SetOk w cls name)
    (ha : (a, instObj cls d) ∈ news) (hl : (getL name es).isSome = true) (e : ∀ hsh key, (putL name hsh key v es, putN name es k1) = (es ++ [⟨hsh, key, v⟩], k1 + 1)) (U : ∀ h t, At (d, dictOf es k1) (d, dictOf (es ++ [⟨h, .str name t, v⟩]) (k1 + 1)) news (news' h t)) (hz : es.length ≤ 999)
    (k : ∀ h t s', St c g L m (news' h t) s' → Q () s') : wpAny (model PRG w) A (setAttr (.ref a) name v) Q E s := by
  refine set_dict S.fr C.K S.nw (InstAt.of_news S.nw ha (U 0 0).mem) rfl o.s o.p o.t o.h hl (e _ _) ((U _ _).toUpd S.nd) (by rw [List.length_append]; show es.length + 1 ≤ 1000; lia) fun h' F N => k (PyData.keyHash w.params name) (s.toks + 1) _ ⟨F, N, ?_, S.gens, S.drawn, S.os⟩
  have nd := S.nd
  obtain ⟨pre, post, e1, e2⟩ := (U (PyData.keyHash w.params name) (s.toks + 1)).split
  rw [e1, List.map_append, List.map_cons] at nd
  rw [e2, List.map_append, List.map_cons]
  exact nd
end
theorem so_353 (w : World) (name : Str) (h : takerIn (Mine.hd.heap_1 w.params) 353 name = some none) : SetOk w 353 name := ⟨by kernel_rfl, by kernel_rfl, h, hd_353 w⟩
theorem so_157 (w : World) (name : Str) (h : takerIn (Mine.hd.heap_1 w.params) 157 name = some none) : SetOk w 157 name := ⟨by kernel_rfl, by kernel_rfl, h, hd_157 w⟩
theorem so_388 (w : World) (name : Str) (h : takerIn (Mine.hd.heap_1 w.params) 388 name = some none) : SetOk w 388 name := ⟨by kernel_rfl, by kernel_rfl, h, hd_388 w⟩
noncomputable abbrev bEnt (e : Nat → Int × Tok) (code params results height dead buried : Value) : List DictEntry :=
  [⟨(e 0).1, .str "code" (e 0).2, code⟩, ⟨(e 1).1, .str "params" (e 1).2, params⟩, ⟨(e 2).1, .str "results" (e 2).2, results⟩, ⟨(e 3).1, .str "height" (e 3).2, height⟩, ⟨(e 4).1, .str "is_dead" (e 4).2, dead⟩, ⟨(e 5).1, .str "is_buried" (e 5).2, buried⟩]
noncomputable abbrev sEnt (e : Nat → Int × Tok) (kinds funcs function locals results values blocks at_ : Value) : List DictEntry :=
  [⟨(e 0).1, .str "kinds" (e 0).2, kinds⟩, ⟨(e 1).1, .str "funcs" (e 1).2, funcs⟩, ⟨(e 2).1, .str "function" (e 2).2, function⟩, ⟨(e 3).1, .str "locals" (e 3).2, locals⟩, ⟨(e 4).1, .str "results" (e 4).2, results⟩, ⟨(e 5).1, .str "values" (e 5).2, values⟩, ⟨(e 6).1, .str "blocks" (e 6).2, blocks⟩, ⟨(e 7).1, .str "at" (e 7).2, at_⟩]
section
variable {w : World} {base : Heap} {outer : List Env} {env : Env} {A : Around} {c : Shared} {g g' : Heap} {L L' : Addr} {n : Nat} {m m' : Loc} {news news' : Led} {s : Shared} {E : Value → Shared → Prop}
theorem r_set_at {a d : Addr} {e : Nat → Int × Tok} {v1 v2 v3 v4 v5 v6 v7 v8 v : Value} {k1 : Nat} {Q : Unit → Shared → Prop} (C : Cx w base outer env A g L n) (S : St c g L m news s)
    (ha : (a, instObj 353 d) ∈ news) (U : At (d, dictOf (sEnt e v1 v2 v3 v4 v5 v6 v7 v8) k1) (d, dictOf (sEnt e v1 v2 v3 v4 v5 v6 v7 v) k1) news news')
    (k : ∀ s', St c g L m news' s' → Q () s') : wpAny (model PRG w) A (setAttr (.ref a) "at" v) Q E s :=
  r_set C S (so_353 w "at" (by kernel_rfl)) ha rfl (fun _ _ => rfl) U (Nat.le_of_ble_eq_true rfl) k
theorem r_set_is_dead {a d : Addr} {e : Nat → Int × Tok} {v1 v2 v3 v4 v5 v6 v : Value} {k1 : Nat} {Q : Unit → Shared → Prop} (C : Cx w base outer env A g L n) (S : St c g L m news s)
    (ha : (a, instObj 157 d) ∈ news) (U : At (d, dictOf (bEnt e v1 v2 v3 v4 v5 v6) k1) (d, dictOf (bEnt e v1 v2 v3 v4 v v6) k1) news news')
    (k : ∀ s', St c g L m news' s' → Q () s') : wpAny (model PRG w) A (setAttr (.ref a) "is_dead" v) Q E s :=
  r_set C S (so_157 w "is_dead" (by kernel_rfl)) ha rfl (fun _ _ => rfl) U (Nat.le_of_ble_eq_true rfl) k
theorem r_last {value slice : Expr} {a : Addr} {vs : List Value} {k' : Nat} {u : Tok} {v : Value} {Q : Value → Shared → Prop} (S : St c g L m news s) (ha : (a, lst (vs ++ [v]) k') ∈ news) (hz : vs.length ≤ 1000000) (k : Q v s)
    (hs : subscripted slice false (.ref a) (.int (-1) u) = operate [.ref a, .int (-1) u] (getItem (.ref a) (.int (-1) u)) := by with_unfolding_all rfl) :
    wpAny (model PRG w) A (subscriptTail value slice (.ref a) (.int (-1) u)) Q E s := by
  have hl : s.heap.IsList a (vs ++ [v]).toArray := ⟨_, S.get ha, rfl, _, rfl⟩
  have hsz : (vs ++ [v]).toArray.size = vs.length + 1 := by rw [List.size_toArray, List.length_append]; rfl
  refine tail_any hl.typeIs slot_list_getitem.lookup (wpAny_getItem_list_neg hl (by decide) (by rw [hsz]; lia) (by decide) ?_ k) hs
  rw [hsz]
  have e : (-1 + ((vs.length + 1 : Nat) : Int)).toNat = vs.length := by lia
  rw [e]
  simp
end
end Mine
end
section
open PySem PySem.W PyProof.Rows PySem.Calls PySem.Spec
set_option maxHeartbeats 2000000
namespace Mine
noncomputable abbrev rngObj (a b c : Int) (t u v : Tok) : Obj := { cls := .type "range", data := .fields #[.int a t, .int b u, .int c v] }
noncomputable abbrev rngIt (x left step : Int) : Obj := { cls := .type "range_iterator", data := .fields #[rawInt x, rawInt left, rawInt step] }
noncomputable abbrev tupIt (t : Addr) (i : Nat) : Obj := { cls := .type "tuple_iterator", data := .fields #[.ref t, .int i 0] }
noncomputable def LoopE (w : World) (A : Around) (env : Env) (E : Value → Shared → Prop) : Value → Shared → Prop := notedBy (model PRG w) A env fun e s' => cameBackBy (model PRG w) A env E e s'
noncomputable def TurnQ (J : Shared → Prop) (Q : Flow → Shared → Prop) : Flow → Shared → Prop
  | .next, s => J s
  | .cont, s => J s
  | .brk, s => Q .next s
  | .ret v, s => Q (.ret v) s
section
variable {w : World} {base : Heap} {outer : List Env} {env : Env} {A : Around} {c : Shared} {g g' : Heap} {L L' : Addr} {n : Nat} {m m' : Loc} {news news' : Led} {s : Shared} {E : Value → Shared → Prop}
theorem St.extBut {it : Addr} {o : Obj} {h' : Heap} {tk : Nat} (S : St c g L m news s) (U : Pull (it, o) news news') (hx : Heap.ExtBut it s.heap h') : St c g L m news' { s with heap := h', toks := tk } := by
  obtain ⟨pre, post, rfl, rfl⟩ := U.split
  have z := S.nw (it, o) (List.mem_append.mpr (.inr (.head _)))
  have nd := nodup_mid S.nd
  have D := S.drop (Pull.mem' pre post)
  obtain ⟨oL, a1, a2, hL, a3⟩ := S.fr.ns
  refine ⟨⟨⟨oL, a1, a2, hx L oL (Ne.symm z.2.1) hL, a3⟩, fun b ob e => hx b ob (fun q => ?_) (S.fr.keep b ob e), S.fr.above⟩, fun p hp => ?_, D.nd, S.gens, S.drawn, S.os⟩
  · subst q; rw [z.2.2] at e; cases e
  · have := D.nw p hp
    refine ⟨hx p.1 p.2 (fun q => ?_) this.1, this.2⟩
    rcases List.mem_append.mp hp with h | h
    · exact nd.1 p h q
    · exact nd.2 p h q
where
  Pull.mem' {x : Addr × Obj} : ∀ pre post : Led, Pull x (pre ++ x :: post) (pre ++ post)
    | [], _ => .hd
    | _ :: r, post => .tl (Pull.mem' r post)
theorem r_range1 {b : Int} {t : Tok} {Q : Value → Shared → Prop} (S : St c g L m news s) (k : ∀ r t u v s', St c g L m ((r, rngObj 0 b 1 t u v) :: news) s' → Q (.ref r) s') :
    wpAny (model PRG w) A (call (.type "range") [.int b t]) Q E s := call_range_1 (k _ _ _ _ _ (S.push (tk := s.toks + 1 + 1)))
theorem r_range2 {a b : Int} {t u : Tok} {Q : Value → Shared → Prop} (S : St c g L m news s) (k : ∀ r t u v s', St c g L m ((r, rngObj a b 1 t u v) :: news) s' → Q (.ref r) s') :
    wpAny (model PRG w) A (call (.type "range") [.int a t, .int b u]) Q E s := call_range_2 (k _ _ _ _ _ (S.push (tk := s.toks + 1)))
theorem r_range3 {a b d : Int} {t u v : Tok} {Q : Value → Shared → Prop} (S : St c g L m news s) (hd : d ≠ 0) (ha : (b - a).natAbs < 1000) (hd2 : d.natAbs < 1000) (k : ∀ r t u v s', St c g L m ((r, rngObj a b d t u v) :: news) s' → Q (.ref r) s') :
    wpAny (model PRG w) A (call (.type "range") [.int a t, .int b u, .int d v]) Q E s := call_range_3 hd (k _ _ _ _ _ (S.push (tk := s.toks))) (Or.inl (PyProof.noPylong_small (by lia)))
theorem r_iterRange {r : Addr} {a b d : Int} {t u v : Tok} {k' : Int} {Q : Value → Shared → Prop} (S : St c g L m news s) (U : Pull (r, rngObj a b d t u v) news news') (hs : Builtin.Range.small a b d = true) (hk : Builtin.Range.rangeSize a b d = k')
    (k : ∀ it s', St c g L m ((it, rngIt a k' d) :: news') s' → Q (.ref it) s') : wpAny (model PRG w) A (pyIter (.ref r)) Q E s := by
  subst hk
  refine wpAny_pyIter_range (S.get U.mem) hs (k _ _ ?_)
  have S' := (S.drop U).push (o := rngIt a (Builtin.Range.rangeSize a b d) d) (tk := s.toks)
  exact S'
theorem r_iterTup {t : Addr} {vs : List Value} {k' : Nat} {Q : Value → Shared → Prop} (S : St c g L m news s) (ht : (t, tup vs k') ∈ news)
    (k : ∀ it s', St c g L m ((it, tupIt t 0) :: news) s' → Q (.ref it) s') : wpAny (model PRG w) A (pyIter (.ref t)) Q E s :=
  wpAny_pyIter_tuple (items := vs.toArray) ⟨_, S.get ht, rfl, _, rfl⟩ (k _ _ (S.push (o := tupIt t 0) (tk := s.toks)))
theorem r_asg {cn : Str} {cs : Scope} {fa : Addr} {ccd : Value} {x : Str} {xp : Pos} {v : Value} {Q : Unit → Shared → Prop} (S : St c g L m news s) (k : ∀ s', St c g L ((x, v) :: m) news s' → Q () s')
    (hk : cs.kind = .function := by rfl) (hx : (envOf cn cs L fa ccd).kindOf x = some .local := by rfl) : wpAny (model PRG w) A (assign (.Name x xp) (envOf cn cs L fa ccd) v) Q E s :=
  PyProof.Rows.assign_Name (r_store S k hk hx)
theorem r_forRange {x : Str} {xp : Pos} {body : List Stmt} {it : Addr} {a d : Int} {k' : Nat} {Q : Flow → Shared → Prop} (I : Nat → Loc → Led → Prop) (C : Cx w base outer env A g L n)
    (S : St c g L m ((it, rngIt a k' d) :: news) s) (h0 : I 0 m news)
    (hasg : ∀ m₁ news₁ s₁ (v : Value) (Q' : Unit → Shared → Prop) (E' : Value → Shared → Prop), St c g L m₁ news₁ s₁ → (∀ s', St c g L ((x, v) :: m₁) news₁ s' → Q' () s') → wpAny (model PRG w) A (assign (.Name x xp) env v) Q' E' s₁)
    (turn : ∀ (i : Nat) m₁ news₁ t s₁, i < k' → I i m₁ news₁ → St c g L ((x, .int (a + i * d) t) :: m₁) ((it, rngIt (a + (i + 1 : Nat) * d) (k' - (i + 1 : Nat) : Int) d) :: news₁) s₁ →
      wpAny (model PRG w) A (execs body env) (TurnQ (fun s₂ => ∃ m₂ news₂, I (i + 1) m₂ news₂ ∧ St c g L m₂ ((it, rngIt (a + (i + 1 : Nat) * d) (k' - (i + 1 : Nat) : Int) d) :: news₂) s₂) Q) (LoopE w A env E) s₁)
    (done : ∀ m₁ news₁ s₁, I k' m₁ news₁ → St c g L m₁ news₁ s₁ → Q .next s₁) :
    codeAny (model PRG w) A (.forLoop (.Name x xp) (.ref it) body [] env) (fun r s' => match r with | .ok f => Q f s' | .error e => cameBackBy (model PRG w) A env E e s') s := by
  refine codeAny_forLoop_any (I := fun j s₁ => ∃ (i : Nat) (m₁ : Loc) (news₁ : Led), i + j = k' ∧ I i m₁ news₁ ∧ St c g L m₁ ((it, rngIt (a + i * d) (k' - i : Int) d) :: news₁) s₁) ?_ k' ⟨0, m, news, by lia, h0, by simpa using S⟩
  rintro j s₁ ⟨i, m₁, news₁, hij, hI, S₁⟩
  by_cases hlt : i < k'
  · refine wpAny_pyNext_range_item (S₁.get (.head _)) (by lia) fun h' hit hs => ?_
    have S₂ := S₁.upd (o' := rngIt (a + i * d + d) (k' - i - 1 : Int) d) (tk := s₁.toks + 1) At.hd hs hit
    have e1 : a + (i : Int) * d + d = a + ((i + 1 : Nat) : Int) * d := by rw [Int.natCast_add, Int.add_mul, Int.add_assoc]; simp
    have e2 : (k' - i - 1 : Int) = (k' - ((i + 1 : Nat) : Int) : Int) := by lia
    rw [e1, e2] at S₂
    show wpAny _ _ (letOwnedTupleGo (.Name x xp) (.ref it) _) _ _ _
    refine wpAny_pure ?_; refine hasg _ _ _ _ _ _ S₂ fun s₃ S₃ => ?_; refine wpAny_mono (turn i m₁ news₁ _ s₃ hlt hI S₃) (fun f s₄ h₄ => ?_) fun _ _ h => h
    cases f with
    | next => obtain ⟨m₂, news₂, hI₂, S₄⟩ := h₄; exact ⟨j - 1, by lia, i + 1, m₂, news₂, by lia, hI₂, S₄⟩
    | cont => obtain ⟨m₂, news₂, hI₂, S₄⟩ := h₄; exact ⟨j - 1, by lia, i + 1, m₂, news₂, by lia, hI₂, S₄⟩
    | brk => exact h₄
    | ret v => exact h₄
  · refine wpAny_pyNext_range_end C.hn (S₁.get (.head _)) (by lia) fun h' hx => ?_
    have hi : i = k' := by lia
    subst hi
    refine wpAny_execs_nil ?_; exact done m₁ news₁ _ hI (S₁.extBut (tk := s₁.toks) .hd hx)
theorem r_forTup0 {x : Str} {xp : Pos} {body : List Stmt} {it t : Addr} {k' : Nat} {Q : Flow → Shared → Prop} (C : Cx w base outer env A g L n)
    (S : St c g L m ((it, tupIt t 0) :: news) s) (ht : (t, tup [] k') ∈ news) (done : ∀ s₁, St c g L m news s₁ → Q .next s₁) :
    codeAny (model PRG w) A (.forLoop (.Name x xp) (.ref it) body [] env) (fun r s' => match r with | .ok f => Q f s' | .error e => cameBackBy (model PRG w) A env E e s') s := by
  refine codeAny_forLoop_any (I := fun _ s₁ => s₁ = s) ?_ 0 rfl
  rintro j s₁ rfl
  refine wpAny_pyNext_tuple_end (items := #[]) C.hn ⟨_, S.get (.head _), rfl, rfl⟩ ⟨_, S.get (.tail _ ht), rfl, _, rfl⟩ (by simp) fun h' hx => ?_; refine wpAny_execs_nil ?_; exact done _ (S.extBut (tk := s₁.toks) .hd hx)
end
end Mine
end
section
open PySem PySem.W PyProof.Rows PySem.Calls PySem.Spec
set_option maxHeartbeats 2000000
namespace Mine
noncomputable abbrev lstIt (l : Addr) (i : Nat) : Obj := { cls := .type "list_iterator", data := .fields #[.ref l, .int i 0] }
theorem t_tt {a b : Prop} (k : a) : if true = true then a else b := k
theorem t_ff {a b : Prop} (k : b) : if false = true then a else b := by rw [if_neg Bool.false_ne_true]; exact k
section
variable {w : World} {base : Heap} {outer : List Env} {env : Env} {A : Around} {c : Shared} {g g' : Heap} {L L' : Addr} {n : Nat} {m m' : Loc} {news news' : Led} {s : Shared} {E : Value → Shared → Prop}
theorem r_iterLst {t : Addr} {vs : List Value} {k' : Nat} {Q : Value → Shared → Prop} (S : St c g L m news s) (ht : (t, lst vs k') ∈ news)
    (k : ∀ it s', St c g L m ((it, lstIt t 0) :: news) s' → Q (.ref it) s') : wpAny (model PRG w) A (pyIter (.ref t)) Q E s :=
  wpAny_pyIter_list (items := vs.toArray) ⟨_, S.get ht, rfl, _, rfl⟩ (k _ _ (S.push (o := lstIt t 0) (tk := s.toks)))
theorem r_forLst0 {x : Str} {xp : Pos} {body : List Stmt} {it t : Addr} {k' : Nat} {Q : Flow → Shared → Prop} (C : Cx w base outer env A g L n)
    (S : St c g L m ((it, lstIt t 0) :: news) s) (ht : (t, lst [] k') ∈ news) (done : ∀ s₁, St c g L m news s₁ → Q .next s₁) :
    codeAny (model PRG w) A (.forLoop (.Name x xp) (.ref it) body [] env) (fun r s' => match r with | .ok f => Q f s' | .error e => cameBackBy (model PRG w) A env E e s') s := by
  refine codeAny_forLoop_any (I := fun _ s₁ => s₁ = s) ?_ 0 rfl
  rintro j s₁ rfl
  refine wpAny_pyNext_list_end (items := #[]) C.hn ⟨_, S.get (.head _), rfl, rfl⟩ ⟨_, S.get (.tail _ ht), rfl, _, rfl⟩ (by simp) fun h' hx => ?_; refine wpAny_execs_nil ?_; exact done _ (S.extBut (tk := s₁.toks) .hd hx)
theorem r_reverse {a : Addr} {vs : List Value} {k' : Nat} {Q : Value → Shared → Prop} (S : St c g L m news s) (U : At (a, lst vs k') (a, lst vs.reverse k') news news') (hz : vs.length ≤ sizeLine)
    (k : ∀ s', St c g L m news' s' → Q .none s') : wpAny (model PRG w) A (call (.builtin "list.reverse") [.ref a]) Q E s := by
  have z := S.get U.mem
  refine call_meets PySem.F.slot_list_reverse ⟨_, z, rfl⟩ PySem.F.entry_list_reverse (PySem.F.args_list_reverse_1 _) (PySem.AutoSeq1.list_reverse_list_0 a vs.toArray k' (by rw [List.size_toArray]; exact hz)) ⟨z, k _ (S.upd (tk := s.toks) U (Heap.SameBut.update ..) ?_)⟩
  have q := PySem.IsL.update z (fun x => x.reverse)
  rw [if_pos (by simp)] at q
  rw [q]
  simp
theorem Cx.make (C : Cx w base outer env A g L (n + 1)) (cl : Addr) (vals : List Value) (kw : List (Str × Value)) : Cx w base outer env (A.under (.builtin "type.__call__" ⟨.ref cl :: vals, kw⟩)) g L n := by
  refine ⟨⟨_, C.below.choose_spec⟩, C.K, C.T, C.fr, C.ef, C.ek, C.hn, ?_, ?_⟩
  · have := C.dp; rw [depth_under_kw]; lia
  · have h1 : (A.under (.builtin "type.__call__" ⟨.ref cl :: vals, kw⟩)).units = A.units + 1 := rfl
    have := C.un; rw [h1]; lia
theorem r_inst {cl fI : Addr} {pos : List Value} {Q : Value → Shared → Prop} (C : Cx w base outer env A g L (n + 1)) (S : St c g L m news s) (hm : makesIn (Mine.hd.heap_1 w.params) cl = true)
    (hi : findIn (Mine.hd.heap_1 w.params) (.ref cl) "__init__" = some (some (.ref fI))) (hf : isFn (Mine.hd.heap_1 w.params) (.ref fI) = true)
    (h : ∀ x dx s', Cx w base outer env (A.under (.builtin "type.__call__" ⟨.ref cl :: pos, []⟩)) g L n → St c g L m ((x, instObj cl dx) :: (dx, dictOf [] 0) :: news) s' →
      codeAny (model PRG w) (A.under (.builtin "type.__call__" ⟨.ref cl :: pos, []⟩)) (.call (.ref fI) ⟨.ref x :: pos, []⟩) (InitBack x fun r s' => match r with | .ok (.ret v) => Q v s' | .ok _ => False | .error e => E e s') s') :
    wpAny (model PRG w) A (call (.ref cl) pos) Q E s := by
  refine call_cls S.fr C.K S.nw hm hi hf fun x dx h' F N l1 l2 => h x dx _ (C.make cl pos []) ⟨F, N, ?_, S.gens, S.drawn, S.os⟩
  rw [List.map_cons, List.map_cons, List.nodup_cons, List.nodup_cons]
  refine ⟨fun hm => ?_, fun hm => ?_, S.nd⟩
  · rcases List.mem_cons.mp hm with e | hm
    · have e' : x = dx := e
      rw [e'] at l2
      exact absurd l2 (Nat.lt_irrefl _)
    · obtain ⟨p, hp, e⟩ := List.mem_map.mp hm
      have h1 := l1 p hp
      have e' : p.1 = x := e
      exact absurd (Nat.lt_trans l2 (e' ▸ h1)) (Nat.lt_irrefl _)
  · obtain ⟨p, hp, e⟩ := List.mem_map.mp hm
    have h1 := l1 p hp
    have e' : p.1 = dx := e
    exact absurd (e' ▸ h1) (Nat.lt_irrefl _)
theorem St.extNew {h' : Heap} {tk : Nat} (S : St c g L m news s) (hx : Heap.ExtBut s.heap.objs.size s.heap h') : St c g L m news { s with heap := h', toks := tk } := by
  have k : ∀ b o, s.heap.get? b = some o → h'.get? b = some o := fun b o e => hx b o (Nat.ne_of_lt (Heap.lt_size e)) e
  obtain ⟨oL, a1, a2, hL, a3⟩ := S.fr.ns
  exact ⟨⟨⟨oL, a1, a2, k _ _ hL, a3⟩, fun b ob e => k _ _ (S.fr.keep b ob e), S.fr.above⟩, fun p hp => ⟨k _ _ (S.nw p hp).1, (S.nw p hp).2⟩, S.nd, S.gens, S.drawn, S.os⟩
theorem r_unpackT {elts : List Expr} {k0} {pos : Pos} {t : Addr} {vs : List Value} {kt : Nat} {Q : Unit → Shared → Prop} (C : Cx w base outer env A g L n) (S : St c g L m news s) (ht : (t, tup vs kt) ∈ news)
    (hn : (assignEach elts env).length = vs.length) (hstar : (assignEach elts env).findIdx? (·.1) = none)
    (k : ∀ s', St c g L m news s' → wpAny (model PRG w) A (assignInOrder ((assignEach elts env).map (·.2)) vs) Q E s') :
    wpAny (model PRG w) A (assign (.Tuple elts k0 pos) env (.ref t)) Q E s :=
  assign_Tuple_tuple (items := vs.toArray) C.hn ⟨_, S.get ht, rfl, _, rfl⟩ (by simpa using hn) hstar fun h' hx => k _ (S.extNew (tk := s.toks) hx)
theorem r_order0 {Q : Unit → Shared → Prop} (k : Q () s) : wpAny (model PRG w) A (assignInOrder [] []) Q E s := wpAny_pure k
theorem r_orderC {f : Value → Sem Unit} {fs : List (Value → Sem Unit)} {v : Value} {vs : List Value} {Q : Unit → Shared → Prop} (k : wpAny (model PRG w) A (f v) (fun _ s' => wpAny (model PRG w) A (assignInOrder fs vs) Q E s') E s) :
    wpAny (model PRG w) A (assignInOrder (f :: fs) (v :: vs)) Q E s := by
  show wpAny _ _ (do holding vs (f v); assignInOrder fs vs) _ _ _
  exact wpAny_bind (wpAny_holding k)
theorem r_itemTn {value slice : Expr} {a : Addr} {vs : List Value} {k' : Nat} {i : Int} {u : Tok} {v : Value} {Q : Value → Shared → Prop} (S : St c g L m news s) (ha : (a, tup vs k') ∈ news) (h0 : 0 ≤ i) (h1 : i < vs.length) (hz : vs.length ≤ 1000000) (hx : vs[i.toNat]? = some v) (k : Q v s)
    (hs : subscripted slice false (.ref a) (.int i u) = operate [.ref a, .int i u] (getItem (.ref a) (.int i u)) := by with_unfolding_all rfl) :
    wpAny (model PRG w) A (subscriptTail value slice (.ref a) (.int i u)) Q E s := by
  refine r_itemT (j := i.toNat) S ha (by lia) (by lia) ?_ hx k hs
  unfold seqIndex?
  simp only [ge_iff_le]
  have e1 : ¬ i < 0 := by lia
  have e2 : ¬ i ≥ (vs.length : Int) := by lia
  simp [e1, e2]
  try lia
theorem lk_skip {x y : Str} {v : Value} {m : Loc} (h : (y == x) = false) : List.lookup y ((x, v) :: m) = m.lookup y := by rw [List.lookup_cons, h]
theorem lk_shadow {x : Str} {v v' : Value} {m : Loc} : ∀ y, List.lookup y ((x, v) :: (x, v') :: m) = List.lookup y ((x, v) :: m) := by
  intro y
  rw [List.lookup_cons, List.lookup_cons, List.lookup_cons]
  by_cases h : (y == x) = true
  · rw [h]
  · rw [Bool.not_eq_true] at h; rw [h]
theorem r_forRangeF {x : Str} {xp : Pos} {body : List Stmt} {it : Addr} {a d : Int} {k' : Nat} {Q : Flow → Shared → Prop} (I : Nat → Led → Prop) (C : Cx w base outer env A g L n)
    (S : St c g L m ((it, rngIt a k' d) :: news) s) (h0 : I 0 news)
    (hasg : ∀ m₁ news₁ s₁ (v : Value) (Q' : Unit → Shared → Prop) (E' : Value → Shared → Prop), St c g L m₁ news₁ s₁ → (∀ s', St c g L ((x, v) :: m₁) news₁ s' → Q' () s') → wpAny (model PRG w) A (assign (.Name x xp) env v) Q' E' s₁)
    (turn : ∀ (i : Nat) news₁ t s₁, i < k' → I i news₁ → St c g L ((x, .int (a + i * d) t) :: m) ((it, rngIt (a + (i + 1 : Nat) * d) (k' - (i + 1 : Nat) : Int) d) :: news₁) s₁ →
      wpAny (model PRG w) A (execs body env) (TurnQ (fun s₂ => ∃ news₂, I (i + 1) news₂ ∧ St c g L ((x, .int (a + i * d) t) :: m) ((it, rngIt (a + (i + 1 : Nat) * d) (k' - (i + 1 : Nat) : Int) d) :: news₂) s₂) Q) (LoopE w A env E) s₁)
    (done : ∀ m₁ news₁ s₁, (∀ y, (y == x) = false → m₁.lookup y = m.lookup y) → I k' news₁ → St c g L m₁ news₁ s₁ → Q .next s₁) :
    codeAny (model PRG w) A (.forLoop (.Name x xp) (.ref it) body [] env) (fun r s' => match r with | .ok f => Q f s' | .error e => cameBackBy (model PRG w) A env E e s') s := by
  refine r_forRange (I := fun i m₁ news₁ => (m₁ = m ∨ ∃ v, m₁ = (x, v) :: m) ∧ I i news₁) C S ⟨.inl rfl, h0⟩ hasg (fun i m₁ news₁ t s₁ hi hI S₁ => ?_) (fun m₁ news₁ s₁ hI S₁ => done m₁ news₁ s₁ ?_ hI.2 S₁)
  · have S₂ : St c g L ((x, .int (a + i * d) t) :: m) ((it, rngIt (a + (i + 1 : Nat) * d) (k' - (i + 1 : Nat) : Int) d) :: news₁) s₁ := by
      rcases hI.1 with rfl | ⟨v, rfl⟩
      · exact S₁
      · exact S₁.locs lk_shadow
    refine wpAny_mono (turn i news₁ t s₁ hi hI.2 S₂) (fun f s₃ h₃ => ?_) fun _ _ h => h
    cases f with
    | next => obtain ⟨news₂, h1, h2⟩ := h₃; exact ⟨_, news₂, ⟨.inr ⟨_, rfl⟩, h1⟩, h2⟩
    | cont => obtain ⟨news₂, h1, h2⟩ := h₃; exact ⟨_, news₂, ⟨.inr ⟨_, rfl⟩, h1⟩, h2⟩
    | brk => exact h₃
    | ret v => exact h₃
  · intro y hy
    rcases hI.1 with rfl | ⟨v, rfl⟩
    · rfl
    · exact lk_skip hy
theorem r_while {test : Expr} {body : List Stmt} {Q : Flow → Shared → Prop} (I : Nat → Loc → Led → Prop) (k₀ : Nat) (S : St c g L m news s) (h0 : I k₀ m news)
    (turn : ∀ k m₁ news₁ s₁, I k m₁ news₁ → St c g L m₁ news₁ s₁ → wpAny (model PRG w) A (isTrue test env (eval test env)) (fun b s₂ =>
      if b then wpAny (model PRG w) A (execs body env) (TurnQ (fun s₃ => ∃ k', k' < k ∧ ∃ m₂ news₂, I k' m₂ news₂ ∧ St c g L m₂ news₂ s₃) Q) (LoopE w A env E) s₂ else Q .next s₂) (LoopE w A env E) s₁) :
    codeAny (model PRG w) A (.whileLoop test body [] env) (fun r s' => match r with | .ok f => Q f s' | .error e => cameBackBy (model PRG w) A env E e s') s := by
  refine codeAny_whileLoop (I := fun k s₁ => ∃ (m₁ : Loc) (news₁ : Led), I k m₁ news₁ ∧ St c g L m₁ news₁ s₁) ?_ k₀ ⟨m, news, h0, S⟩
  rintro k s₁ ⟨m₁, news₁, hI, S₁⟩
  refine wpAny_mono (turn k m₁ news₁ s₁ hI S₁) (fun b s₂ h₂ => ?_) fun _ _ h => h
  cases b with
  | true =>
    rw [if_pos rfl] at h₂ ⊢
    refine wpAny_mono h₂ (fun f s₃ h₃ => ?_) fun _ _ h => h
    cases f with
    | next => obtain ⟨k', hk, m₂, news₂, h1, h2⟩ := h₃; exact ⟨k', hk, m₂, news₂, h1, h2⟩
    | cont => obtain ⟨k', hk, m₂, news₂, h1, h2⟩ := h₃; exact ⟨k', hk, m₂, news₂, h1, h2⟩
    | brk => exact h₃
    | ret v => exact h₃
  | false =>
    rw [if_neg (by decide)] at h₂ ⊢
    exact wpAny_execs_nil h₂
theorem small_down {k : Nat} (h : k ≤ 1000) : Builtin.Range.small (k - 1 : Int) (-1) (-1) = true ∧ Builtin.Range.rangeSize (k - 1 : Int) (-1) (-1) = k := by
  have e : Builtin.Range.rangeSize (k - 1 : Int) (-1) (-1) = k := by
    unfold Builtin.Range.rangeSize
    rw [if_neg (by decide)]
    by_cases hk : k = 0
    · subst hk; rfl
    · rw [if_pos (by lia)]
      show ((k : Int) - 1 - -1 - 1) / 1 + 1 = k
      rw [Int.ediv_one]; lia
  refine ⟨?_, e⟩
  unfold Builtin.Range.small
  rw [e]
  simp only [Builtin.Range.rangeFitsLong, Bool.and_eq_true, Bool.or_eq_true, decide_eq_true_eq, beq_iff_eq, show ¬ ((-1 : Int) > 0) by decide, if_false]
  lia
theorem small_up {a b : Int} {k : Nat} (h0 : 0 ≤ a) (h : b ≤ 1000) (hk : b - a = k) : Builtin.Range.small a b 1 = true ∧ Builtin.Range.rangeSize a b 1 = k := by
  refine ⟨small_one (by lia) (by lia) (by lia) (by lia), ?_⟩
  rw [rangeSize_one]
  split <;> lia
end
end Mine
end
section
open PySem PySem.W PyProof.Rows PySem.Calls PySem.Spec
set_option maxHeartbeats 2000000
namespace Mine
section
variable {w : World} {base : Heap} {outer : List Env} {env : Env} {A : Around} {c : Shared} {g g' : Heap} {L L' : Addr} {n : Nat} {m m' : Loc} {news news' : Led} {s : Shared} {E : Value → Shared → Prop}
theorem St.lt (S : St c g L m news s) {q : Addr × Obj} (h : q ∈ news) : q.1 < s.heap.objs.size := Heap.lt_size (S.nw q h).1
theorem St.freshG (S : St c g L m news s) {a : Addr} (h : s.heap.objs.size ≤ a) : g.get? a = none ∧ a ≠ L := by
  refine ⟨?_, fun q => ?_⟩
  · cases q : g.get? a with
    | none => rfl
    | some o => exact absurd (Heap.lt_size (S.fr.keep a o q)) (Nat.not_lt.mpr h)
  · obtain ⟨oL, a1, a2, hL, a3⟩ := S.fr.ns
    exact absurd (Heap.lt_size hL) (Nat.not_lt.mpr (q ▸ h))
theorem St.remake {dead : List Addr} {h' : Heap} {tk : Nat} (S : St c g L m news s) (keep : ∀ b o, b ∉ dead → s.heap.get? b = some o → h'.get? b = some o) (hd : ∀ b ∈ dead, ∃ o, (b, o) ∈ news)
    (hn : ∀ q ∈ news', h'.get? q.1 = some q.2 ∧ ((∃ o, (q.1, o) ∈ news) ∨ s.heap.objs.size ≤ q.1)) (nd : (news'.map (·.1)).Nodup) : St c g L m news' { s with heap := h', toks := tk } := by
  obtain ⟨oL, a1, a2, hL, a3⟩ := S.fr.ns
  refine ⟨⟨⟨oL, a1, a2, keep L oL (fun h => ?_) hL, a3⟩, fun b ob e => keep b ob (fun h => ?_) (S.fr.keep b ob e), S.fr.above⟩, fun p hp => ?_, nd, S.gens, S.drawn, S.os⟩
  · obtain ⟨o, ho⟩ := hd _ h
    exact (S.nw _ ho).2.1 rfl
  · obtain ⟨o, ho⟩ := hd _ h
    have := (S.nw _ ho).2.2
    rw [e] at this; cases this
  · refine ⟨(hn p hp).1, ?_⟩
    rcases (hn p hp).2 with ⟨o, ho⟩ | h
    · exact (S.nw _ ho).2
    · exact ⟨(S.freshG h).2, (S.freshG h).1⟩
noncomputable abbrev TI (t : Addr) (i : Nat) (o : Obj) : Prop := o.cls = .type "tuple_iterator" ∧ o.data = .fields #[.ref t, .int i 0]
theorem owned_tupIt {elts : List Expr} {x1} {pos : Pos} {I l T : Addr} {i : Nat} {Q : Unit → Shared → Prop} (hit : s.heap.IsTupleIter I l i) (hQ : Q () s) :
    wpAny (model PRG w) A (letOwnedTupleGo (.Tuple elts x1 pos) (.ref I) (.ref T)) Q E s := by
  obtain ⟨o, ho, hc, hd⟩ := hit
  unfold letOwnedTupleGo
  refine wpAny_bind (wpAny_load ho ?_)
  rw [hc, hd]
  show wpAny _ A (if (["enumerate", "zip", "dict_itemiterator", "dict_reverseitemiterator", "odict_iterator", "itertools.zip_longest", "itertools.pairwise"].contains "tuple_iterator" &&
      (#[.ref l, .int i 0] : Array Value)[0]? == some (rawInt T)) = true then _ else _) Q E s
  rw [if_neg (by
    have : (["enumerate", "zip", "dict_itemiterator", "dict_reverseitemiterator", "odict_iterator", "itertools.zip_longest", "itertools.pairwise"].contains "tuple_iterator") = false := by decide
    rw [this]; simp)]
  exact wpAny_pure hQ
theorem r_forTup {elts : List Expr} {x1} {pos : Pos} {body : List Stmt} {it t : Addr} {vs : List Value} {Q : Flow → Shared → Prop} (I : Nat → Loc → Prop) (C : Cx w base outer env A g L n)
    (S : St c g L m ((it, tupIt t 0) :: news) s) (ht : ∀ h : Heap, (Mine.hd.heap_1 w.params).In h → h.IsTuple t vs.toArray) (hv : ∀ (i : Nat) v, vs[i]? = some v → ∃ a, v = .ref a) (h0 : I 0 m)
    (turn : ∀ (i : Nat) m₁ o s₁ v, vs[i]? = some v → I i m₁ → TI t (i + 1) o → St c g L m₁ ((it, o) :: news) s₁ →
      wpAny (model PRG w) A (assign (.Tuple elts x1 pos) env v) (fun _ s₂ => wpAny (model PRG w) A (execs body env) (TurnQ (fun s₃ => ∃ m₂ o₂, I (i + 1) m₂ ∧ TI t (i + 1) o₂ ∧ St c g L m₂ ((it, o₂) :: news) s₃) Q) (LoopE w A env E) s₂) (LoopE w A env E) s₁)
    (done : ∀ m₁ s₁, I vs.length m₁ → St c g L m₁ news s₁ → Q .next s₁) :
    codeAny (model PRG w) A (.forLoop (.Tuple elts x1 pos) (.ref it) body [] env) (fun r s' => match r with | .ok f => Q f s' | .error e => cameBackBy (model PRG w) A env E e s') s := by
  refine codeAny_forLoop_any (I := fun j s₁ => ∃ (i : Nat) (m₁ : Loc) (o : Obj), i + j = vs.length ∧ I i m₁ ∧ TI t i o ∧ St c g L m₁ ((it, o) :: news) s₁) ?_ vs.length ⟨0, m, _, by lia, h0, ⟨rfl, rfl⟩, S⟩
  rintro j s₁ ⟨i, m₁, o, hij, hI, hT, S₁⟩
  by_cases hlt : i < vs.length
  · refine wpAny_pyNext_tuple_item (items := vs.toArray) (x := vs[i]) ⟨_, S₁.get (.head _), hT.1, hT.2⟩ (ht _ (C.inK S₁)) (by simp [hlt]) fun h' hit hs => ?_
    obtain ⟨o', ho', ho1, ho2⟩ := hit
    have S₂ := S₁.upd (o' := o') (tk := s₁.toks) At.hd hs ho'
    obtain ⟨a, ha⟩ := hv i vs[i] (List.getElem?_eq_getElem hlt)
    have q := turn i m₁ o' _ vs[i] (List.getElem?_eq_getElem hlt) hI ⟨ho1, ho2⟩ S₂
    rw [ha] at q ⊢
    refine owned_tupIt ⟨o', ho', ho1, ho2⟩ ?_; refine wpAny_mono q (fun _ s₃ h₃ => wpAny_mono h₃ (fun f s₄ h₄ => ?_) fun _ _ h => h) fun _ _ h => h
    cases f with
    | next => obtain ⟨m₂, o₂, hI₂, hT₂, S₄⟩ := h₄; exact ⟨j - 1, by lia, i + 1, m₂, o₂, by lia, hI₂, hT₂, S₄⟩
    | cont => obtain ⟨m₂, o₂, hI₂, hT₂, S₄⟩ := h₄; exact ⟨j - 1, by lia, i + 1, m₂, o₂, by lia, hI₂, hT₂, S₄⟩
    | brk => exact h₄
    | ret v => exact h₄
  · have hi : i = vs.length := by lia
    subst hi
    refine wpAny_pyNext_tuple_end (items := vs.toArray) C.hn ⟨_, S₁.get (.head _), hT.1, hT.2⟩ (ht _ (C.inK S₁)) (by simp) fun h' hx => ?_; refine wpAny_execs_nil ?_; exact done m₁ _ hI (S₁.extBut (tk := s₁.toks) .hd hx)
theorem r_unpackK {elts : List Expr} {k0} {pos : Pos} {t : Addr} {vs : List Value} {Q : Unit → Shared → Prop} (C : Cx w base outer env A g L n) (S : St c g L m news s) (ht : s.heap.IsTuple t vs.toArray)
    (hn : (assignEach elts env).length = vs.length) (hstar : (assignEach elts env).findIdx? (·.1) = none)
    (k : ∀ s', St c g L m news s' → wpAny (model PRG w) A (assignInOrder ((assignEach elts env).map (·.2)) vs) Q E s') :
    wpAny (model PRG w) A (assign (.Tuple elts k0 pos) env (.ref t)) Q E s :=
  assign_Tuple_tuple (items := vs.toArray) C.hn ht (by simpa using hn) hstar fun h' hx => k _ (S.extNew (tk := s.toks) hx)
theorem r_orderN {e : Expr} {fs : List (Value → Sem Unit)} {v : Value} {vs : List Value} {Q : Unit → Shared → Prop} (k : wpAny (model PRG w) A (assign e env v) (fun _ s' => wpAny (model PRG w) A (assignInOrder fs vs) Q E s') E s) :
    wpAny (model PRG w) A (assignInOrder ((fun v => assign e env v) :: fs) (v :: vs)) Q E s := r_orderC k
noncomputable abbrev enObj (it : Addr) (i : Int) (old : Value) : Obj := { cls := .type "enumerate", dict := none, data := .fields #[.none, .bool false, .ref it, rawInt i, .none, old], slots := #[] }
noncomputable abbrev LI (t : Addr) (i : Nat) (o : Obj) : Prop := o.cls = .type "list_iterator" ∧ o.data = .fields #[.ref t, .int i 0]
theorem r_enum {t : Addr} {vs : List Value} {k' : Nat} {Q : Value → Shared → Prop} (S : St c g L m news s) (ht : (t, lst vs k') ∈ news)
    (k : ∀ en it o s', LI t 0 o → St c g L m ((en, enObj it 0 .none) :: (it, o) :: news) s' → Q (.ref en) s') : wpAny (model PRG w) A (call (.type "enumerate") [.ref t]) Q E s := by
  refine call_enumerate_list (items := vs.toArray) ⟨_, S.get ht, rfl, _, rfl⟩ fun h' he hit hsz hk => ?_
  obtain ⟨o, ho, h1, h2⟩ := hit
  refine k _ s.heap.objs.size o _ ⟨h1, h2⟩ (S.remake (dead := []) (tk := s.toks) (fun b o _ q => hk b o q) (fun _ h => nomatch h) (fun q hq => ?_) ?_)
  · rcases List.mem_cons.mp hq with rfl | hq
    · exact ⟨he, .inr (Nat.le_succ _)⟩
    · rcases List.mem_cons.mp hq with rfl | hq
      · exact ⟨ho, .inr (Nat.le_refl _)⟩
      · exact ⟨hk _ _ (S.get hq), .inl ⟨q.2, hq⟩⟩
  · rw [List.map_cons, List.map_cons, List.nodup_cons, List.nodup_cons]
    refine ⟨fun hm => ?_, fun hm => ?_, S.nd⟩
    · rcases List.mem_cons.mp hm with e | hm
      · have e' : s.heap.objs.size + 1 = s.heap.objs.size := e
        lia
      · obtain ⟨p, hp, e⟩ := List.mem_map.mp hm
        have := S.lt hp
        have e' : p.1 = s.heap.objs.size + 1 := e
        rw [e'] at this
        exact absurd this (Nat.not_lt.mpr (Nat.le_succ _))
    · obtain ⟨p, hp, e⟩ := List.mem_map.mp hm
      have := S.lt hp
      have e' : p.1 = s.heap.objs.size := e
      rw [e'] at this
      exact absurd this (Nat.lt_irrefl _)
theorem r_forEnum {elts : List Expr} {x1} {pos : Pos} {body : List Stmt} {en it t : Addr} {vs : List Value} {k' : Nat} {o₀ : Obj} {Q : Flow → Shared → Prop} (I : Nat → Loc → Led → Prop) (C : Cx w base outer env A g L n)
    (S : St c g L m ((en, enObj it 0 .none) :: (it, o₀) :: news) s) (hO : LI t 0 o₀) (ht : ∀ i m₁ news₁, I i m₁ news₁ → (t, lst vs k') ∈ news₁) (h0 : I 0 m news)
    (turn : ∀ (i : Nat) m₁ news₁ T o x tk s₁ v, vs[i]? = some v → I i m₁ news₁ → LI t (i + 1) o → St c g L m₁ ((T, tup [.int i tk, v] 0) :: (en, enObj it (i + 1 : Nat) x) :: (it, o) :: news₁) s₁ →
      wpAny (model PRG w) A (assign (.Tuple elts x1 pos) env (.ref T)) (fun _ s₂ => wpAny (model PRG w) A (execs body env) (TurnQ (fun s₃ => ∃ m₂ news₂, I (i + 1) m₂ news₂ ∧ St c g L m₂ ((en, enObj it (i + 1 : Nat) x) :: (it, o) :: news₂) s₃) Q) (LoopE w A env E) s₂) (LoopE w A env E) s₁)
    (done : ∀ m₁ news₁ s₁, I vs.length m₁ news₁ → St c g L m₁ news₁ s₁ → Q .next s₁) :
    codeAny (model PRG w) A (.forLoop (.Tuple elts x1 pos) (.ref en) body [] env) (fun r s' => match r with | .ok f => Q f s' | .error e => cameBackBy (model PRG w) A env E e s') s := by
  refine codeAny_forLoop_any (I := fun j s₁ => ∃ (i : Nat) (m₁ : Loc) (news₁ : Led) (o : Obj) (x : Value), i + j = vs.length ∧ I i m₁ news₁ ∧ LI t i o ∧ St c g L m₁ ((en, enObj it i x) :: (it, o) :: news₁) s₁) ?_ vs.length ⟨0, m, news, _, _, by lia, h0, hO, S⟩
  rintro j s₁ ⟨i, m₁, news₁, o, x, hij, hI, hL, S₁⟩
  have hne : en ≠ it := fun q => by
    have nd := S₁.nd
    rw [List.map_cons, List.nodup_cons] at nd
    exact nd.1 (q ▸ .head _)
  have hl : s₁.heap.IsList t vs.toArray := ⟨_, S₁.get (.tail _ (.tail _ (ht _ _ _ hI))), rfl, _, rfl⟩
  by_cases hlt : i < vs.length
  · refine wpAny_pyNext_enum_item (items := vs.toArray) (x := vs[i]) (S₁.get (.head _)) ⟨_, S₁.get (.tail _ (.head _)), hL.1, hL.2⟩ hl (by simp [hlt]) hne fun h' he hit hT hsz hk => ?_; refine wpAny_letOwnedTupleGo_enum he fun h'' he' hs => ?_
    obtain ⟨o', ho', ho1, ho2⟩ := hit
    have nd := S₁.nd
    rw [List.map_cons, List.map_cons, List.nodup_cons, List.nodup_cons] at nd
    have fT : ∀ q ∈ ((en, enObj it i x) :: (it, o) :: news₁), q.1 ≠ s₁.heap.objs.size := fun q hq e => absurd (S₁.lt hq) (by rw [e]; exact Nat.lt_irrefl _)
    have S₂ : St c g L m₁ ((s₁.heap.objs.size, tup [.int i s₁.toks, vs[i]] 0) :: (en, enObj it (i + 1 : Nat) vs[i]) :: (it, o') :: news₁) { s₁ with heap := h'', toks := s₁.toks + 1 } := by
      refine S₁.remake (dead := [en, it]) (fun b ob hb q => ?_) (fun b hb => ?_) (fun q hq => ?_) ?_
      · have h1 : b ≠ en := fun e => hb (e ▸ .head _)
        have h2 : b ≠ it := fun e => hb (e ▸ .tail _ (.head _))
        exact (hs.2 b h1).trans (hk b ob h1 h2 q)
      · rcases List.mem_cons.mp hb with rfl | hb
        · exact ⟨_, .head _⟩
        · rcases List.mem_cons.mp hb with rfl | hb
          · exact ⟨_, .tail _ (.head _)⟩
          · cases hb
      · rcases List.mem_cons.mp hq with rfl | hq
        · exact ⟨(hs.2 _ (Ne.symm (fT (en, _) (.head _)))).trans hT, .inr (Nat.le_refl _)⟩
        · rcases List.mem_cons.mp hq with rfl | hq
          · exact ⟨he', .inl ⟨_, .head _⟩⟩
          · rcases List.mem_cons.mp hq with rfl | hq
            · exact ⟨(hs.2 _ (Ne.symm hne)).trans ho', .inl ⟨_, .tail _ (.head _)⟩⟩
            · have h1 : q.1 ≠ en := fun e => nd.1 (.tail _ (List.mem_map.mpr ⟨q, hq, e⟩))
              have h2 : q.1 ≠ it := fun e => nd.2.1 (List.mem_map.mpr ⟨q, hq, e⟩)
              exact ⟨(hs.2 _ h1).trans (hk _ _ h1 h2 (S₁.get (.tail _ (.tail _ hq)))), .inl ⟨q.2, .tail _ (.tail _ hq)⟩⟩
      · rw [List.map_cons, List.map_cons, List.map_cons, List.nodup_cons, List.nodup_cons, List.nodup_cons]
        refine ⟨fun hm => ?_, nd⟩
        rcases List.mem_cons.mp hm with e | hm
        · exact fT (en, _) (.head _) e.symm
        · rcases List.mem_cons.mp hm with e | hm
          · exact fT (it, _) (.tail _ (.head _)) e.symm
          · obtain ⟨p, hp, e⟩ := List.mem_map.mp hm
            exact fT p (.tail _ (.tail _ hp)) e
    refine wpAny_mono (turn i m₁ news₁ _ o' vs[i] _ _ vs[i] (List.getElem?_eq_getElem hlt) hI ⟨ho1, ho2⟩ S₂) (fun _ s₃ h₃ => wpAny_mono h₃ (fun f s₄ h₄ => ?_) fun _ _ h => h) fun _ _ h => h
    cases f with
    | next => obtain ⟨m₂, news₂, hI₂, S₄⟩ := h₄; exact ⟨j - 1, by lia, i + 1, m₂, news₂, _, _, by lia, hI₂, ⟨ho1, ho2⟩, S₄⟩
    | cont => obtain ⟨m₂, news₂, hI₂, S₄⟩ := h₄; exact ⟨j - 1, by lia, i + 1, m₂, news₂, _, _, by lia, hI₂, ⟨ho1, ho2⟩, S₄⟩
    | brk => exact h₄
    | ret v => exact h₄
  · have hi : i = vs.length := by lia
    subst hi
    refine wpAny_pyNext_enum_end (items := vs.toArray) C.hn (S₁.get (.head _)) ⟨_, S₁.get (.tail _ (.head _)), hL.1, hL.2⟩ hl (by simp) fun h' hx => ?_; refine wpAny_execs_nil ?_; exact done m₁ _ _ hI (S₁.tail.extBut (tk := s₁.toks) .hd hx)
theorem r_iterEn {en it : Addr} {i : Int} {old : Value} {Q : Value → Shared → Prop} (S : St c g L m news s) (h : (en, enObj it i old) ∈ news) (k : Q (.ref en) s) : wpAny (model PRG w) A (pyIter (.ref en)) Q E s := wpAny_pyIter_enum (S.get h) k
end
end Mine
end
section
open PySem PySem.W PyProof.Rows
namespace Mine
section
variable {c : Shared} {g : Heap} {L : Addr} {m : Loc} {rest : Led} {s : Shared}
theorem St.rot_1_1 {x0 y0 : Addr × Obj} (S : St c g L m (x0 :: y0 :: rest) s) : St c g L m (y0 :: x0 :: rest) s := S.perm (List.perm_append_comm_assoc [x0] [y0] rest)
theorem St.rot_1_2 {x0 y0 y1 : Addr × Obj} (S : St c g L m (x0 :: y0 :: y1 :: rest) s) : St c g L m (y0 :: y1 :: x0 :: rest) s := S.perm (List.perm_append_comm_assoc [x0] [y0, y1] rest)
theorem St.rot_1_5 {x0 y0 y1 y2 y3 y4 : Addr × Obj} (S : St c g L m (x0 :: y0 :: y1 :: y2 :: y3 :: y4 :: rest) s) : St c g L m (y0 :: y1 :: y2 :: y3 :: y4 :: x0 :: rest) s := S.perm (List.perm_append_comm_assoc [x0] [y0, y1, y2, y3, y4] rest)
theorem St.rot_1_6 {x0 y0 y1 y2 y3 y4 y5 : Addr × Obj} (S : St c g L m (x0 :: y0 :: y1 :: y2 :: y3 :: y4 :: y5 :: rest) s) : St c g L m (y0 :: y1 :: y2 :: y3 :: y4 :: y5 :: x0 :: rest) s := S.perm (List.perm_append_comm_assoc [x0] [y0, y1, y2, y3, y4, y5] rest)
theorem St.rot_2_4 {x0 x1 y0 y1 y2 y3 : Addr × Obj} (S : St c g L m (x0 :: x1 :: y0 :: y1 :: y2 :: y3 :: rest) s) : St c g L m (y0 :: y1 :: y2 :: y3 :: x0 :: x1 :: rest) s := S.perm (List.perm_append_comm_assoc [x0, x1] [y0, y1, y2, y3] rest)
theorem St.rot_2_6 {x0 x1 y0 y1 y2 y3 y4 y5 : Addr × Obj} (S : St c g L m (x0 :: x1 :: y0 :: y1 :: y2 :: y3 :: y4 :: y5 :: rest) s) : St c g L m (y0 :: y1 :: y2 :: y3 :: y4 :: y5 :: x0 :: x1 :: rest) s := S.perm (List.perm_append_comm_assoc [x0, x1] [y0, y1, y2, y3, y4, y5] rest)
theorem St.rot_3_6 {x0 x1 x2 y0 y1 y2 y3 y4 y5 : Addr × Obj} (S : St c g L m (x0 :: x1 :: x2 :: y0 :: y1 :: y2 :: y3 :: y4 :: y5 :: rest) s) : St c g L m (y0 :: y1 :: y2 :: y3 :: y4 :: y5 :: x0 :: x1 :: x2 :: rest) s := S.perm (List.perm_append_comm_assoc [x0, x1, x2] [y0, y1, y2, y3, y4, y5] rest)
theorem St.rot_4_2 {x0 x1 x2 x3 y0 y1 : Addr × Obj} (S : St c g L m (x0 :: x1 :: x2 :: x3 :: y0 :: y1 :: rest) s) : St c g L m (y0 :: y1 :: x0 :: x1 :: x2 :: x3 :: rest) s := S.perm (List.perm_append_comm_assoc [x0, x1, x2, x3] [y0, y1] rest)
theorem St.rot_5_2 {x0 x1 x2 x3 x4 y0 y1 : Addr × Obj} (S : St c g L m (x0 :: x1 :: x2 :: x3 :: x4 :: y0 :: y1 :: rest) s) : St c g L m (y0 :: y1 :: x0 :: x1 :: x2 :: x3 :: x4 :: rest) s := S.perm (List.perm_append_comm_assoc [x0, x1, x2, x3, x4] [y0, y1] rest)
theorem St.rot_6_1 {x0 x1 x2 x3 x4 x5 y0 : Addr × Obj} (S : St c g L m (x0 :: x1 :: x2 :: x3 :: x4 :: x5 :: y0 :: rest) s) : St c g L m (y0 :: x0 :: x1 :: x2 :: x3 :: x4 :: x5 :: rest) s := S.perm (List.perm_append_comm_assoc [x0, x1, x2, x3, x4, x5] [y0] rest)
theorem St.rot_6_2 {x0 x1 x2 x3 x4 x5 y0 y1 : Addr × Obj} (S : St c g L m (x0 :: x1 :: x2 :: x3 :: x4 :: x5 :: y0 :: y1 :: rest) s) : St c g L m (y0 :: y1 :: x0 :: x1 :: x2 :: x3 :: x4 :: x5 :: rest) s := S.perm (List.perm_append_comm_assoc [x0, x1, x2, x3, x4, x5] [y0, y1] rest)
end
end Mine
end
section
open PySem PySem.W PyProof.Rows PySem.Calls PySem.Spec
set_option maxHeartbeats 2000000
namespace Mine
noncomputable abbrev Us := List Tok × List Addr × Led
noncomputable def evs (f : Expr → Us → Option (Value × Us)) : List Expr → Us → Option (List Value × Us)
  | [], u => some ([], u)
  | e :: es, u => match f e u with
    | some (v, u) => match evs f es u with
      | some (vs, u) => some (v :: vs, u)
      | none => none
    | none => none
noncomputable def ev1 (env : Env) (m : Loc) (G : Loc) (x : Str) : Option Value := match x == ("__debug__" : Str) with
  | true => none
  | false => match env.kindOf x with
    | some .local => m.lookup x
    | some .globalImplicit => G.lookup x
    | _ => none
noncomputable def evC (op : CmpOp) (a b : Int) : Option Bool := match op with
  | .Eq => some (a == b)
  | .NotEq => some (a != b)
  | .Lt => some (decide (a < b))
  | .Gt => some (decide (b < a))
  | .LtE => some (decide (a ≤ b))
  | .GtE => some (decide (b ≤ a))
  | _ => none
noncomputable def evB (op : Operator) (a b : Int) : Option Int := match op with
  | .Add => some (a + b)
  | .Sub => some (a - b)
  | .Mod => match b with
    | .ofNat 0 => none
    | .ofNat (_ + 1) => some (a.fmod b)
    | .negSucc _ => none
  | _ => none
theorem nn {α : Type} {v : α} (h : none = some v) : False := by cases h
noncomputable def tk (u : Us) (f : Tok → Value) : Option (Value × Us) := match u with
  | ([], _, _) => none
  | (t :: ts, as, N) => some (f t, ts, as, N)
noncomputable def iv (v : Value) : Option Int := match v with
  | .int a _ => some a
  | _ => none
noncomputable def nw (o : Option (List Value × Us)) (f : List Value → Obj) : Option (Value × Us) := match o with
  | none => none
  | some (_, _, [], _) => none
  | some (vs, ts, a :: as, N) => match Nat.ble vs.length 1000 with
    | true => some (.ref a, ts, as, (a, f vs) :: N)
    | false => none
noncomputable def i2 (f : Expr → Us → Option (Value × Us)) (l r : Expr) (u : Us) (g : Int → Int → Us → Option (Value × Us)) : Option (Value × Us) := match f l u with
  | none => none
  | some (v, u) => match iv v with
    | none => none
    | some a => match f r u with
      | none => none
      | some (v, u) => match iv v with
        | none => none
        | some b => g a b u
noncomputable def evK (c : Const) (u : Us) : Option (Value × Us) := match c with
  | .int i => tk u (.int i)
  | .str x => tk u (.str x)
  | .none => some (.none, u)
  | .bool b => some (.bool b, u)
  | _ => none
noncomputable def evU (op : UnaryOp) (o : Option (Value × Us)) : Option (Value × Us) := match op with
  | .USub => match o with
    | none => none
    | some (v, u) => match iv v with
      | none => none
      | some a => tk u (.int (-a))
  | _ => none
noncomputable def evO (op : Operator) (a b : Int) (u : Us) : Option (Value × Us) := match evB op a b with
  | none => none
  | some i => tk u (.int i)
noncomputable def evQ (op : CmpOp) (a b : Int) (u : Us) : Option (Value × Us) := match evC op a b with
  | none => none
  | some c => some (.bool c, u)
noncomputable def cmp1 (ops : List CmpOp) (rs : List Expr) (k : CmpOp → Expr → Option (Value × Us)) : Option (Value × Us) := match ops, rs with
  | [op], [r] => k op r
  | _, _ => none
noncomputable def ev (env : Env) (m : Loc) (G : Loc) : Nat → Expr → Us → Option (Value × Us)
  | 0, _, _ => none
  | n + 1, e, u => match e with
    | .Name x _ => match ev1 env m G x with
      | none => none
      | some v => some (v, u)
    | .Constant c _ _ => evK c u
    | .UnaryOp op x _ => evU op (ev env m G n x u)
    | .BinOp l op r _ => i2 (ev env m G n) l r u (evO op)
    | .Compare l ops rs _ => cmp1 ops rs fun op r => i2 (ev env m G n) l r u (evQ op)
    | .Tuple es _ _ => nw (evs (ev env m G n) es u) (tup · 0)
    | .List es _ => nw (evs (ev env m G n) es u) (lst · 0)
    | _ => none
theorem tk_ok {u u' : Us} {f : Tok → Value} {v : Value} (h : tk u f = some (v, u')) : ∃ t ts as N, u = (t :: ts, as, N) ∧ v = f t ∧ u' = (ts, as, N) := by
  obtain ⟨ts, as, N⟩ := u
  cases ts with
  | nil => cases h
  | cons t ts => cases h; exact ⟨_, _, _, _, rfl, rfl, rfl⟩
theorem iv_ok {v : Value} {a : Int} (h : iv v = some a) : ∃ t, v = .int a t := by
  cases v with
  | int b t => cases h; exact ⟨t, rfl⟩
  | _ => exact (nn h).elim
theorem nw_ok {o : Option (List Value × Us)} {f : List Value → Obj} {v : Value} {u' : Us} (h : nw o f = some (v, u')) : ∃ vs ts a as N, o = some (vs, ts, a :: as, N) ∧ vs.length ≤ 1000 ∧ v = .ref a ∧ u' = (ts, as, (a, f vs) :: N) := by
  match o, h with
  | some (vs, ts, a :: as, N), h =>
    cases hb : Nat.ble vs.length 1000 with
    | true =>
      have : nw (some (vs, ts, a :: as, N)) f = some (.ref a, ts, as, (a, f vs) :: N) := by show (match Nat.ble vs.length 1000 with | true => _ | false => _) = _; rw [hb]
      rw [this] at h
      cases h
      exact ⟨_, _, _, _, _, rfl, Nat.le_of_ble_eq_true hb, rfl, rfl⟩
    | false =>
      have : nw (some (vs, ts, a :: as, N)) f = none := by show (match Nat.ble vs.length 1000 with | true => _ | false => _) = _; rw [hb]
      rw [this] at h
      cases h
theorem i2_ok {f : Expr → Us → Option (Value × Us)} {l r : Expr} {u : Us} {g : Int → Int → Us → Option (Value × Us)} {q : Value × Us} (h : i2 f l r u g = some q) :
    ∃ a t u1 b t2 u2, f l u = some (.int a t, u1) ∧ f r u1 = some (.int b t2, u2) ∧ g a b u2 = some q := by
  unfold i2 at h
  cases h1 : f l u with
  | none => rw [h1] at h; exact (nn h).elim
  | some p =>
    obtain ⟨v, u1⟩ := p
    rw [h1] at h
    dsimp only at h
    cases h2 : iv v with
    | none => rw [h2] at h; exact (nn h).elim
    | some a =>
      rw [h2] at h
      dsimp only at h
      cases h3 : f r u1 with
      | none => rw [h3] at h; exact (nn h).elim
      | some p2 =>
        obtain ⟨v2, u2⟩ := p2
        rw [h3] at h
        dsimp only at h
        cases h4 : iv v2 with
        | none => rw [h4] at h; exact (nn h).elim
        | some b =>
          rw [h4] at h
          obtain ⟨t, rfl⟩ := iv_ok h2
          obtain ⟨t2, rfl⟩ := iv_ok h4
          exact ⟨a, t, u1, b, t2, u2, rfl, h3, h⟩
theorem cmp1_ok {ops : List CmpOp} {rs : List Expr} {k : CmpOp → Expr → Option (Value × Us)} {q : Value × Us} (h : cmp1 ops rs k = some q) : ∃ op r, ops = [op] ∧ rs = [r] ∧ k op r = some q := by
  cases ops with
  | nil => cases h
  | cons op ops => cases ops with
    | cons _ _ => cases h
    | nil => cases rs with
      | nil => cases h
      | cons r rs => cases rs with
        | cons _ _ => cases h
        | nil => exact ⟨op, r, rfl, rfl, h⟩
noncomputable def TF : Nat → List Tok → Prop
  | _, [] => True
  | n, t :: ts => t = n ∧ TF (n + 1) ts
structure Sup (u : Us) (s : Shared) : Prop where
  t : TF s.toks u.1
  a : TF s.heap.objs.size u.2.1
section
variable {w : World} {base : Heap} {outer : List Env} {A : Around} {c : Shared} {g : Heap} {L : Addr} {n : Nat} {m : Loc} {news : Led} {s : Shared} {E : Value → Shared → Prop}
variable {cn : Str} {cs : Scope} {fa : Addr} {ccd : Value} {G : Loc}
noncomputable def GOk (w : World) (A : Around) (E : Value → Shared → Prop) (c : Shared) (g : Heap) (L : Addr) (m : Loc) (cn : Str) (cs : Scope) (fa : Addr) (ccd : Value) (G : Loc) : Prop :=
  ∀ x v, G.lookup x = some v → (envOf cn cs L fa ccd).kindOf x = some .globalImplicit → (x == ("__debug__" : Str)) = false → ∀ N s pos (Q : Value → Shared → Prop), St c g L m N s → Q v s → wpAny (model PRG w) A (eval (.Name x pos) (envOf cn cs L fa ccd)) Q E s
theorem ev1_ok (hk : cs.kind = .function) (hG : GOk w A E c g L m cn cs fa ccd G) {x : Str} {v : Value} (h : ev1 (envOf cn cs L fa ccd) m G x = some v) {pos : Pos} {Q : Value → Shared → Prop} (S : St c g L m news s) (k : Q v s) :
    wpAny (model PRG w) A (eval (.Name x pos) (envOf cn cs L fa ccd)) Q E s := by
  unfold ev1 at h
  split at h
  · cases h
  · rename_i hd
    split at h
    · rename_i hx; exact r_loc S h k hk hx hd
    · rename_i hx; exact hG _ _ h hx hd _ _ _ _ S k
    · cases h
theorem evC_ok {op : CmpOp} {a b : Int} {t u : Tok} {r : Bool} {Q : Value → Shared → Prop} (h : evC op a b = some r) (k : Q (.bool r) s) : wpAny (model PRG w) A (compareOp op (.int a t) (.int b u)) Q E s := by
  cases op with
  | Eq => cases h; exact PyProof.Rows.eq_int k
  | NotEq => cases h; exact PyProof.Rows.ne_int k
  | Lt => cases h; exact PyProof.Rows.lt_int k
  | Gt => cases h; exact PyProof.Rows.gt_int k
  | LtE => cases h; exact PyProof.Rows.le_int k
  | GtE => cases h; exact PyProof.Rows.ge_int k
  | _ => exact (nn h).elim
theorem bim {op : CmpOp} (h : (op == .In || op == .NotIn) = false) (e : Expr) : behindInMarks op e = false := by
  cases e with
  | Set elts k p => show (k == 0 && (op == .In || op == .NotIn) && elts.all (constantsAlone 8)) = false; rw [h, Bool.and_false]; rfl
  | _ => rfl
theorem evC_in {op : CmpOp} {a b : Int} {r : Bool} (h : evC op a b = some r) (e : Expr) : behindInMarks op e = false := by
  refine bim ?_ e
  cases op <;> first | rfl | cases h
theorem evB_ok {op : Operator} {a b i : Int} {t u : Tok} {Q : Value → Shared → Prop} (h : evB op a b = some i) (k : Q (.int i s.toks) { s with toks := s.toks + 1 }) : wpAny (model PRG w) A (binaryOp op (.int a t) (.int b u)) Q E s := by
  cases op with
  | Add => cases h; exact add_int k
  | Sub => cases h; exact sub_int k
  | Mod =>
    cases b with
    | negSucc _ => cases h
    | ofNat j => cases j with
      | zero => cases h
      | succ j => cases h; exact mod_int' (by intro e; cases e) k
  | _ => exact (nn h).elim
theorem star_ok {env : Env} {G : Loc} {k : Nat} {e : Expr} {u : Us} {r : Value × Us} (h : ev env m G k e u = some r) (rest : List Expr) : starEach (e :: rest) env = (false, eval e env) :: starEach rest env := by
  cases k with
  | zero => cases h
  | succ k => cases e with
    | Starred _ _ => exact (nn h).elim
    | _ => rfl
noncomputable abbrev EvOk (w : World) (A : Around) (E : Value → Shared → Prop) (c : Shared) (g : Heap) (L : Addr) (m : Loc) {α : Type} (t : Sem α) (u : Us) (v : α) (u' : Us) : Prop :=
  ∀ s (Q : α → Shared → Prop), St c g L m u.2.2 s → Sup u s → (∀ s', St c g L m u'.2.2 s' → Sup u' s' → Q v s') → wpAny (model PRG w) A t Q E s
theorem Sup.tok {t : Tok} {ts : List Tok} {as : List Addr} {N : Led} (P : Sup (t :: ts, as, N) s) : t = s.toks ∧ Sup (ts, as, N) { s with toks := s.toks + 1 } := ⟨P.t.1, P.t.2, P.a⟩
theorem Sup.alloc {a : Addr} {ts : List Tok} {as : List Addr} {N N' : Led} {o : Obj} (P : Sup (ts, a :: as, N) s) : a = s.heap.objs.size ∧ Sup (ts, as, N') { s with heap := s.heap.push o } := by
  refine ⟨P.a.1, P.t, ?_⟩
  have := P.a.2
  show TF (s.heap.push o).objs.size as
  have e : (s.heap.push o).objs.size = s.heap.objs.size + 1 := by cases s.heap; simp [Heap.push]
  rw [e]; exact this
theorem evs_ok {env : Env} {f : Expr → Us → Option (Value × Us)} (hf : ∀ e u v u', f e u = some (v, u') → EvOk w A E c g L m (eval e env) u v u' ∧ ∀ rest, starEach (e :: rest) env = (false, eval e env) :: starEach rest env) :
    ∀ es u vs u', evs f es u = some (vs, u') → ∀ pos, EvOk w A E c g L m (spliced (backTo pos (starEach es env))) u vs u'
  | [], u, vs, u', h, pos => by
    cases h
    exact fun s Q S P k => spliced_none (k s S P)
  | e :: es, u, vs, u', h, pos => by
    unfold evs at h
    split at h
    · rename_i v u1 h1
      split at h
      · rename_i vs2 u2 h2
        cases h
        intro s Q S P k; refine spliced_more ?_ ((hf _ _ _ _ h1).2 es); refine (hf _ _ _ _ h1).1 s _ S P fun s1 S1 P1 => ?_; exact evs_ok hf es _ _ _ h2 pos s1 _ S1 P1 k
      · cases h
    · cases h
theorem ev_ok (hk : cs.kind = .function) (hG : GOk w A E c g L m cn cs fa ccd G) : ∀ n e u v u', ev (envOf cn cs L fa ccd) m G n e u = some (v, u') → EvOk w A E c g L m (eval e (envOf cn cs L fa ccd)) u v u'
  | 0, _, _, _, _, h => by cases h
  | n + 1, e, u, v, u', h => by
    have ih := ev_ok hk hG n
    have ihs : ∀ es u vs u', evs (ev (envOf cn cs L fa ccd) m G n) es u = some (vs, u') → ∀ pos, EvOk w A E c g L m (spliced (backTo pos (starEach es (envOf cn cs L fa ccd)))) u vs u' :=
      evs_ok fun e u v u' h => ⟨ih e u v u' h, star_ok h⟩
    intro s Q S P k
    cases e with
    | Name x pos =>
      cases h1 : ev1 (envOf cn cs L fa ccd) m G x with
      | none =>
        have : ev (envOf cn cs L fa ccd) m G (n + 1) (.Name x pos) u = none := by show (match ev1 (envOf cn cs L fa ccd) m G x with | none => none | some v => some (v, u)) = _; rw [h1]
        rw [this] at h; exact (nn h).elim
      | some v' =>
        have : ev (envOf cn cs L fa ccd) m G (n + 1) (.Name x pos) u = some (v', u) := by show (match ev1 (envOf cn cs L fa ccd) m G x with | none => none | some v => some (v, u)) = _; rw [h1]
        rw [this] at h; cases h
        exact ev1_ok hk hG h1 S (k s S P)
    | Constant cc kk pos =>
      replace h : evK cc u = some (v, u') := h
      cases cc with
      | int i => obtain ⟨t, ts, as, N, rfl, rfl, rfl⟩ := tk_ok h; obtain ⟨rfl, P'⟩ := P.tok; exact wpAny_Constant_int (k _ S.tok P')
      | str x => obtain ⟨t, ts, as, N, rfl, rfl, rfl⟩ := tk_ok h; obtain ⟨rfl, P'⟩ := P.tok; exact Constant_str (k _ S.tok P')
      | none => cases h; exact Constant_none (k s S P)
      | bool b => cases h; exact Constant_bool (k s S P)
      | _ => exact (nn h).elim
    | UnaryOp op x pos =>
      replace h : evU op (ev (envOf cn cs L fa ccd) m G n x u) = some (v, u') := h
      cases op with
      | USub =>
        cases h1 : ev (envOf cn cs L fa ccd) m G n x u with
        | none => rw [h1] at h; exact (nn h).elim
        | some p =>
          obtain ⟨v1, u1⟩ := p
          rw [h1] at h
          replace h : (match iv v1 with | none => none | some a => tk u1 (.int (-a))) = some (v, u') := h
          cases h2 : iv v1 with
          | none => rw [h2] at h; exact (nn h).elim
          | some a =>
            rw [h2] at h
            obtain ⟨t0, rfl⟩ := iv_ok h2
            obtain ⟨t, ts, as, N, rfl, rfl, rfl⟩ := tk_ok h
            refine UnaryOp_ (ih _ _ _ _ h1 s _ S P fun s1 S1 P1 => ?_)
            obtain ⟨rfl, P'⟩ := P1.tok
            exact PyProof.Rows.neg_int (k _ S1.tok P')
      | _ => exact (nn h).elim
    | BinOp l op r pos =>
      obtain ⟨a, t, u1, b, t2, u2, h1, h2, h3⟩ := i2_ok h
      unfold evO at h3
      cases h4 : evB op a b with
      | none => rw [h4] at h3; exact (nn h3).elim
      | some i =>
        rw [h4] at h3
        obtain ⟨t3, ts, as, N, rfl, rfl, rfl⟩ := tk_ok h3
        refine wpAny_BinOp (ih _ _ _ _ h1 s _ S P fun s1 S1 P1 => ih _ _ _ _ h2 s1 _ S1 P1 fun s2 S2 P2 => ?_)
        obtain ⟨rfl, P'⟩ := P2.tok
        exact evB_ok h4 (k _ S2.tok P')
    | Compare l ops rs pos =>
      obtain ⟨op, r, rfl, rfl, h0⟩ := cmp1_ok h
      obtain ⟨a, t, u1, b, t2, u2, h1, h2, h3⟩ := i2_ok h0
      unfold evQ at h3
      cases h4 : evC op a b with
      | none => rw [h4] at h3; exact (nn h3).elim
      | some c0 =>
        rw [h4] at h3
        cases h3
        refine wpAny_Compare1 (ih _ _ _ _ h1 s _ S P fun s1 S1 P1 => ih _ _ _ _ h2 s1 _ S1 P1 fun s2 S2 P2 => ?_) (evC_in h4 _); exact evC_ok h4 (k _ S2 P2)
    | Tuple es kk pos =>
      obtain ⟨vs, ts, a, as, N, h1, hz, rfl, rfl⟩ := nw_ok h
      refine Tuple_ (ihs _ _ _ _ h1 _ s _ S P fun s1 S1 P1 => ?_)
      obtain ⟨rfl, P'⟩ := P1.alloc
      exact wpAny_newObj_type (k _ (S1.push (tk := s1.toks)) P') (by show (List.toArray _).size ≤ sizeLine; rw [List.size_toArray]; rw [sizeLine_eq]; omega)
    | List es pos =>
      obtain ⟨vs, ts, a, as, N, h1, hz, rfl, rfl⟩ := nw_ok h
      refine List_ (ihs _ _ _ _ h1 _ s _ S P fun s1 S1 P1 => ?_)
      obtain ⟨rfl, P'⟩ := P1.alloc
      exact wpAny_newObj_type (k _ (S1.push (tk := s1.toks)) P') (by show (List.toArray _).size ≤ sizeLine; rw [List.size_toArray]; rw [sizeLine_eq]; omega)
    | _ => exact (nn h).elim
end
end Mine
end
section
open PySem PySem.W PyProof.Rows PySem.Calls PySem.Spec
set_option maxHeartbeats 2000000
namespace Mine
noncomputable abbrev TS (t : Nat → Tok) : List Tok := [t 0, t 1, t 2, t 3, t 4, t 5, t 6, t 7, t 8, t 9, t 10, t 11, t 12, t 13, t 14, t 15, t 16, t 17, t 18, t 19, t 20, t 21, t 22, t 23]
noncomputable abbrev AS (a : Nat → Addr) : List Addr := [a 0, a 1, a 2, a 3, a 4, a 5, a 6, a 7, a 8, a 9, a 10, a 11]
noncomputable def off {α : Type} (o : Option (α × Us)) : Option (α × Led) := match o with
  | none => none
  | some (v, _, _, N) => some (v, N)
theorem off_ok {α : Type} {o : Option (α × Us)} {v : α} {N : Led} (h : off o = some (v, N)) : ∃ ts as, o = some (v, ts, as, N) := by
  cases o with
  | none => cases h
  | some p => obtain ⟨v, ts, as, N⟩ := p; cases h; exact ⟨_, _, rfl⟩
noncomputable def evT (env : Env) (m G : Loc) (e : Expr) (N : Led) (t : Nat → Tok) (a : Nat → Addr) : Option (Value × Led) := off (ev env m G 12 e (TS t, AS a, N))
noncomputable def esT (env : Env) (m G : Loc) (es : List Expr) (N : Led) (t : Nat → Tok) (a : Nat → Addr) : Option (List Value × Led) := off (evs (ev env m G 12) es (TS t, AS a, N))
theorem evs_cons {f : Expr → Us → Option (Value × Us)} {e : Expr} {es : List Expr} {u : Us} {q : List Value × Us} (h : evs f (e :: es) u = some q) : ∃ v u1 vs u2, f e u = some (v, u1) ∧ evs f es u1 = some (vs, u2) ∧ q = (v :: vs, u2) := by
  unfold evs at h
  cases h1 : f e u with
  | none => rw [h1] at h; exact (nn h).elim
  | some p =>
    obtain ⟨v, u1⟩ := p
    rw [h1] at h
    dsimp only at h
    cases h2 : evs f es u1 with
    | none => rw [h2] at h; exact (nn h).elim
    | some p2 => obtain ⟨vs, u2⟩ := p2; rw [h2] at h; cases h; exact ⟨_, _, _, _, rfl, h2, rfl⟩
theorem M0 {α : Type} {x : α} {l : List α} : x ∈ x :: l := List.Mem.head _
theorem M1 {α : Type} {x y : α} {l : List α} (h : x ∈ l) : x ∈ y :: l := List.Mem.tail _ h
noncomputable def ez (env : Env) (m G : Loc) : Expr → Option Value
  | .Name x _ => ev1 env m G x
  | .Constant c _ _ => (match c with
    | .none => some .none
    | .bool b => some (.bool b)
    | _ => none)
  | _ => none
noncomputable def ezs (env : Env) (m G : Loc) : List Expr → Option (List Value)
  | [] => some []
  | e :: es => match ez env m G e with
    | some v => match ezs env m G es with
      | some vs => some (v :: vs)
      | none => none
    | none => none
theorem bb_len (w : World) : nsIn (Mine.hd.heap_1 w.params) mainGlobals "len" = some none ∧ bootBuiltins "len" = some (.builtin "len") ∧ ("len" : Str) ≠ "__name__" := ⟨gb_len w, by boot_by_name, by decide⟩
theorem bb_range (w : World) : nsIn (Mine.hd.heap_1 w.params) mainGlobals "range" = some none ∧ bootBuiltins "range" = some (.type "range") ∧ ("range" : Str) ≠ "__name__" := ⟨gb_range w, by boot_by_name, by decide⟩
theorem bb_enumerate (w : World) : nsIn (Mine.hd.heap_1 w.params) mainGlobals "enumerate" = some none ∧ bootBuiltins "enumerate" = some (.type "enumerate") ∧ ("enumerate" : Str) ≠ "__name__" := ⟨gb_enumerate w, by boot_by_name, by decide⟩
theorem bb_tuple (w : World) : nsIn (Mine.hd.heap_1 w.params) mainGlobals "tuple" = some none ∧ bootBuiltins "tuple" = some (.type "tuple") ∧ ("tuple" : Str) ≠ "__name__" := ⟨gb_tuple w, by boot_by_name, by decide⟩
theorem bb_int (w : World) : nsIn (Mine.hd.heap_1 w.params) mainGlobals "int" = some none ∧ bootBuiltins "int" = some (.type "int") ∧ ("int" : Str) ≠ "__name__" := ⟨gb_int w, by boot_by_name, by decide⟩
section
variable {w : World} {base : Heap} {outer : List Env} {env : Env} {A : Around} {c : Shared} {g : Heap} {L : Addr} {n : Nat} {m : Loc} {news news' : Led} {s : Shared} {E : Value → Shared → Prop}
variable {cn : Str} {cs : Scope} {fa : Addr} {ccd : Value} {G : Loc} {N : (Nat → Tok) → (Nat → Addr) → Led}
theorem g0 : GOk w A E c g L m cn cs fa ccd [] := fun _ _ h => by cases h
theorem gk {x : Str} {v : Value} (C : Cx w base outer env A g L n) (e : nsIn (Mine.hd.heap_1 w.params) mainGlobals x = some (some v)) (hG : GOk w A E c g L m cn cs fa ccd G) (hk : cs.kind = .function := by with_unfolding_all rfl) : GOk w A E c g L m cn cs fa ccd ((x, v) :: G) := by
  intro y u h hx hd N s pos Q S k
  rw [List.lookup_cons] at h
  split at h
  · rename_i hy
    cases h
    obtain rfl : y = x := by simpa using hy
    exact r_glb C S e k hk hx hd
  · exact hG y u h hx hd N s pos Q S k
theorem TF_ (k : Nat) : ∀ (n : Nat) (f : Nat → Nat) (h : ∀ i, f i = k + i) (j : Nat), TF (k + j) ((List.range' j n).map f)
  | 0, _, _, _ => trivial
  | n + 1, f, h, j => ⟨h j, TF_ k n f h (j + 1)⟩
theorem sup_ : Sup (TS (fun i => s.toks + i), AS (fun i => s.heap.objs.size + i), news) s := ⟨TF_ s.toks 24 _ (fun _ => rfl) 0, TF_ s.heap.objs.size 12 _ (fun _ => rfl) 0⟩
theorem evT_ok (hk : cs.kind = .function) (hG : GOk w A E c g L m cn cs fa ccd G) {e : Expr} {v : (Nat → Tok) → (Nat → Addr) → Value} (S : St c g L m news s) (h : ∀ t a, evT (envOf cn cs L fa ccd) m G e news t a = some (v t a, N t a))
    {Q : Value → Shared → Prop} (k : ∀ t a s', St c g L m (N t a) s' → Q (v t a) s') : wpAny (model PRG w) A (eval e (envOf cn cs L fa ccd)) Q E s := by
  obtain ⟨ts, as, h1⟩ := off_ok (h (fun i => s.toks + i) (fun i => s.heap.objs.size + i))
  exact ev_ok hk hG _ _ _ _ _ h1 s Q S sup_ fun s' S' _ => k _ _ s' S'
theorem evs_plain {env : Env} {j : Nat} : ∀ es u vs u', evs (ev env m G j) es u = some (vs, u') → (starEach es env).any (·.1) = false
  | [], _, _, _, _ => rfl
  | e :: es, u, vs, u', h => by
    obtain ⟨v, u1, vs2, u2, h1, h2, _⟩ := evs_cons h
    rw [star_ok h1 es]
    exact evs_plain es _ _ _ h2
theorem backTo_any {pos : Pos} {l : List (Bool × Sem Value)} : (backTo pos l).any (·.1) = l.any (·.1) := by
  unfold backTo
  rw [List.any_map]; rfl
theorem esT_ok (hk : cs.kind = .function) (hG : GOk w A E c g L m cn cs fa ccd G) {es : List Expr} {pos : Pos} {v : (Nat → Tok) → (Nat → Addr) → List Value} (S : St c g L m news s) (h : ∀ t a, esT (envOf cn cs L fa ccd) m G es news t a = some (v t a, N t a))
    {Q : List Value → Shared → Prop} (k : ∀ t a s', St c g L m (N t a) s' → Q (v t a) s') : wpAny (model PRG w) A (spliced (backTo pos (starEach es (envOf cn cs L fa ccd)))) Q E s := by
  obtain ⟨ts, as, h1⟩ := off_ok (h (fun i => s.toks + i) (fun i => s.heap.objs.size + i))
  exact evs_ok (f := ev (envOf cn cs L fa ccd) m G 12) (fun e u v u' h => ⟨ev_ok hk hG _ e u v u' h, star_ok h⟩) es _ _ _ h1 pos s Q S sup_ fun s' S' _ => k _ _ s' S'
theorem esT_plain {env : Env} {es : List Expr} {pos : Pos} {v : (Nat → Tok) → (Nat → Addr) → List Value} (h : ∀ t a, esT env m G es news t a = some (v t a, N t a)) : (backTo pos (starEach es env)).any (·.1) = false := by
  obtain ⟨ts, as, h1⟩ := off_ok (h (fun i => i) (fun i => i))
  rw [backTo_any]; exact evs_plain _ _ _ _ h1
theorem ez_star {env : Env} {e : Expr} {v : Value} (h : ez env m G e = some v) (rest : List Expr) : starEach (e :: rest) env = (false, eval e env) :: starEach rest env := by
  cases e with
  | Starred _ _ => exact (nn h).elim
  | _ => rfl
theorem ez_ok (hk : cs.kind = .function) (hG : GOk w A E c g L m cn cs fa ccd G) {e : Expr} {v : Value} (S : St c g L m news s) (h : ez (envOf cn cs L fa ccd) m G e = some v) {Q : Value → Shared → Prop} (k : Q v s) :
    wpAny (model PRG w) A (eval e (envOf cn cs L fa ccd)) Q E s := by
  cases e with
  | Name x pos => exact ev1_ok hk hG h S k
  | Constant c kk pos => cases c with
    | none => cases h; exact Constant_none k
    | bool b => cases h; exact Constant_bool k
    | _ => exact (nn h).elim
  | _ => exact (nn h).elim
theorem ezs_cons {env : Env} {e : Expr} {es : List Expr} {q : List Value} (h : ezs env m G (e :: es) = some q) : ∃ v vs, ez env m G e = some v ∧ ezs env m G es = some vs ∧ q = v :: vs := by
  unfold ezs at h
  cases h1 : ez env m G e with
  | none => rw [h1] at h; exact (nn h).elim
  | some v =>
    rw [h1] at h
    dsimp only at h
    cases h2 : ezs env m G es with
    | none => rw [h2] at h; exact (nn h).elim
    | some vs => rw [h2] at h; cases h; exact ⟨_, _, rfl, rfl, rfl⟩
theorem ezs_ok (hk : cs.kind = .function) (hG : GOk w A E c g L m cn cs fa ccd G) {pos : Pos} (S : St c g L m news s) : ∀ {es : List Expr} {vs : List Value} (_ : ezs (envOf cn cs L fa ccd) m G es = some vs) {Q : List Value → Shared → Prop} (_ : Q vs s),
    wpAny (model PRG w) A (spliced (backTo pos (starEach es (envOf cn cs L fa ccd)))) Q E s
  | [], _, h, Q, k => by cases h; exact spliced_none k
  | e :: es, _, h, Q, k => by
    obtain ⟨v, vs, h1, h2, rfl⟩ := ezs_cons h
    exact spliced_more (ez_ok hk hG S h1 (ezs_ok hk hG S h2 k)) (ez_star h1 es)
theorem ezs_plain {env : Env} {pos : Pos} : ∀ {es : List Expr} {vs : List Value} (_ : ezs env m G es = some vs), (backTo pos (starEach es env)).any (·.1) = false
  | [], _, _ => rfl
  | e :: es, _, h => by
    obtain ⟨v, vs, h1, h2, _⟩ := ezs_cons h
    rw [ez_star h1 es]
    exact ezs_plain h2
theorem evalArgs_star {M : Model} {f : Value} {es : List Expr} {pos : Pos} {Q : Args → Shared → Prop} (he : ∀ e rest, es = e :: rest → starEach (e :: rest) env = (false, eval e env) :: starEach rest env)
    (h : wpAny M A (spliced (backTo pos (starEach es env))) (fun vs s' => Q ⟨vs, []⟩ s') E s) : wpAny M A (evalArgs f true (backTo pos (starEach es env)) []) Q E s := by
  cases es with
  | nil =>
    unfold evalArgs
    show wpAny M A (spliced [] >>= _) Q E s
    refine wpAny_bind (wpAny_mono h (fun vs s' h' => ?_) fun _ _ x => x); refine wpAny_holding ?_; exact wpAny_bind (wpAny_pure (wpAny_bind (wpAny_pure (wpAny_pure h'))))
  | cons e rest =>
    rw [he e rest rfl] at h ⊢
    exact evalArgs_plain h
noncomputable def CallOk (w : World) (first : List Value) (f : Value) : Prop := keepIn (Mine.hd.heap_1 w.params) f = true ∨ (∃ id, f = .builtin id) ∨ (first = [] ∧ ∃ T, f = .type T)
theorem CallOk.B {first : List Value} {id : String} : CallOk w first (.builtin id) := .inr (.inl ⟨id, rfl⟩)
theorem CallOk.T {T : String} : CallOk w [] (.type T) := .inr (.inr ⟨rfl, T, rfl⟩)
theorem CallOk.k {first : List Value} {f : Value} (h : keepIn (Mine.hd.heap_1 w.params) f = true) : CallOk w first f := .inl h
theorem callWith_f {pos : Pos} {f : Value} {first : List Value} {es : List Expr} (hf : CallOk w first f) (hp : (backTo pos (starEach es env)).any (·.1) = false) (he : ∀ e rest, es = e :: rest → starEach (e :: rest) env = (false, eval e env) :: starEach rest env)
    {Q : Value → Shared → Prop} (h : wpAny (model PRG w) A (spliced (backTo pos (starEach es env))) (fun vs s₁ => (Mine.hd.heap_1 w.params).In s₁.heap ∧ wpAny (model PRG w) A (call f (first ++ vs)) Q E s₁) E s) :
    wpAny (model PRG w) A (callWith pos f first (backTo pos (starEach es env)) []) Q E s := by
  have h2 := wpAny_mono h (fun _ _ x => x.2) fun _ _ x => x
  rcases hf with hf | ⟨id, rfl⟩ | ⟨rfl, T, rfl⟩
  · exact callWith_of (by rw [hp]; rfl) (keeps_K hf) (evalArgs_star he h)
  · exact Calls.callWith_builtin hp (evalArgs_star he h2)
  · exact PyProof.Rows.callWith_type hp (evalArgs_star he h2)
theorem esT_star {env : Env} {es : List Expr} {v : (Nat → Tok) → (Nat → Addr) → List Value} (h : ∀ t a, esT env m G es news t a = some (v t a, N t a)) (e : Expr) (rest : List Expr) (q : es = e :: rest) : starEach (e :: rest) env = (false, eval e env) :: starEach rest env := by
  subst q
  obtain ⟨ts, as, h1⟩ := off_ok (h (fun i => i) (fun i => i))
  obtain ⟨_, _, _, _, h2, _, _⟩ := evs_cons h1
  exact star_ok h2 rest
theorem ezs_star {env : Env} {es : List Expr} {vs : List Value} (h : ezs env m G es = some vs) (e : Expr) (rest : List Expr) (q : es = e :: rest) : starEach (e :: rest) env = (false, eval e env) :: starEach rest env := by
  subst q
  obtain ⟨_, _, h2, _, _⟩ := ezs_cons h
  exact ez_star h2 rest
section
variable {x : Str} {pos np : Pos} {args : List Expr} {f : Value} {Q : Value → Shared → Prop} {e : Expr} {es : List Expr}
theorem q_ev (hG : GOk w A E c g L m cn cs fa ccd G) {v : (Nat → Tok) → (Nat → Addr) → Value} (S : St c g L m news s) (k : ∀ t a s', St c g L m (N t a) s' → Q (v t a) s')
    (h : ∀ t a, evT (envOf cn cs L fa ccd) m G e news t a = some (v t a, N t a) := by with_unfolding_all exact fun _ _ => rfl) (hk : cs.kind = .function := by with_unfolding_all rfl) :
    wpAny (model PRG w) A (eval e (envOf cn cs L fa ccd)) Q E s := evT_ok hk hG S h k
theorem q_sp {Q : List Value → Shared → Prop} (hG : GOk w A E c g L m cn cs fa ccd G) {v : (Nat → Tok) → (Nat → Addr) → List Value} (S : St c g L m news s) (k : ∀ t a s', St c g L m (N t a) s' → Q (v t a) s')
    (h : ∀ t a, esT (envOf cn cs L fa ccd) m G es news t a = some (v t a, N t a) := by with_unfolding_all exact fun _ _ => rfl) (hk : cs.kind = .function := by with_unfolding_all rfl) :
    wpAny (model PRG w) A (spliced (backTo pos (starEach es (envOf cn cs L fa ccd)))) Q E s := esT_ok hk hG S h k
theorem q_sp0 {Q : List Value → Shared → Prop} (hG : GOk w A E c g L m cn cs fa ccd G) {v : List Value} (S : St c g L m news s) (k : Q v s)
    (h : ezs (envOf cn cs L fa ccd) m G es = some v := by with_unfolding_all exact rfl) (hk : cs.kind = .function := by with_unfolding_all rfl) :
    wpAny (model PRG w) A (spliced (backTo pos (starEach es (envOf cn cs L fa ccd)))) Q E s := ezs_ok hk hG S h k
theorem q_cw (C : Cx w base outer (envOf cn cs L fa ccd) A g L n) (hG : GOk w A E c g L m cn cs fa ccd G) {first : List Value} {v : (Nat → Tok) → (Nat → Addr) → List Value} (S : St c g L m news s) (hf : CallOk w first f) (k : ∀ t a s', St c g L m (N t a) s' → wpAny (model PRG w) A (call f (first ++ v t a)) Q E s')
    (h : ∀ t a, esT (envOf cn cs L fa ccd) m G es news t a = some (v t a, N t a)) (hk : cs.kind = .function) :
    wpAny (model PRG w) A (callWith pos f first (backTo pos (starEach es (envOf cn cs L fa ccd))) []) Q E s :=
  callWith_f hf (esT_plain h) (esT_star h) (esT_ok hk hG S h fun t a s' S' => ⟨C.inK S', k t a s' S'⟩)
theorem q_cw0 (C : Cx w base outer (envOf cn cs L fa ccd) A g L n) (hG : GOk w A E c g L m cn cs fa ccd G) {first : List Value} {v : List Value} (S : St c g L m news s) (hf : CallOk w first f) (k : wpAny (model PRG w) A (call f (first ++ v)) Q E s)
    (h : ezs (envOf cn cs L fa ccd) m G es = some v) (hk : cs.kind = .function) :
    wpAny (model PRG w) A (callWith pos f first (backTo pos (starEach es (envOf cn cs L fa ccd))) []) Q E s :=
  callWith_f hf (ezs_plain h) (ezs_star h) (ezs_ok hk hG S h ⟨C.inK S, k⟩)
theorem q_call (C : Cx w base outer (envOf cn cs L fa ccd) A g L n) (hG : GOk w A E c g L m cn cs fa ccd G) {v : (Nat → Tok) → (Nat → Addr) → List Value} (S : St c g L m news s) (e : nsIn (Mine.hd.heap_1 w.params) mainGlobals x = some (some f)) (hf : keepIn (Mine.hd.heap_1 w.params) f = true)
    (k : ∀ t a s', St c g L m (N t a) s' → wpAny (model PRG w) A (call f (v t a)) Q E s')
    (h : ∀ t a, esT (envOf cn cs L fa ccd) m G args news t a = some (v t a, N t a) := by with_unfolding_all exact fun _ _ => rfl)
    (hk : cs.kind = .function := by with_unfolding_all rfl) (hx : (envOf cn cs L fa ccd).kindOf x = some .globalImplicit := by with_unfolding_all rfl) (hd : (x == ("__debug__" : Str)) = false := by decide) :
    wpAny (model PRG w) A (eval (.Call (.Name x np) args [] pos) (envOf cn cs L fa ccd)) Q E s :=
  r_call (r_glb C S e (q_cw C hG S (.inl hf) k h hk) hk hx hd)
theorem q_call0 (C : Cx w base outer (envOf cn cs L fa ccd) A g L n) (hG : GOk w A E c g L m cn cs fa ccd G) {v : List Value} (S : St c g L m news s) (e : nsIn (Mine.hd.heap_1 w.params) mainGlobals x = some (some f)) (hf : keepIn (Mine.hd.heap_1 w.params) f = true)
    (k : wpAny (model PRG w) A (call f v) Q E s)
    (h : ezs (envOf cn cs L fa ccd) m G args = some v := by with_unfolding_all exact rfl)
    (hk : cs.kind = .function := by with_unfolding_all rfl) (hx : (envOf cn cs L fa ccd).kindOf x = some .globalImplicit := by with_unfolding_all rfl) (hd : (x == ("__debug__" : Str)) = false := by decide) :
    wpAny (model PRG w) A (eval (.Call (.Name x np) args [] pos) (envOf cn cs L fa ccd)) Q E s :=
  r_call (r_glb C S e (q_cw0 C hG S (.inl hf) k h hk) hk hx hd)
theorem q_callB (C : Cx w base outer (envOf cn cs L fa ccd) A g L n) (hG : GOk w A E c g L m cn cs fa ccd G) {v : (Nat → Tok) → (Nat → Addr) → List Value} (S : St c g L m news s) (e : nsIn (Mine.hd.heap_1 w.params) mainGlobals x = some none ∧ bootBuiltins x = some f ∧ x ≠ "__name__") (hf : CallOk w [] f)
    (k : ∀ t a s', St c g L m (N t a) s' → wpAny (model PRG w) A (call f (v t a)) Q E s')
    (h : ∀ t a, esT (envOf cn cs L fa ccd) m G args news t a = some (v t a, N t a) := by with_unfolding_all exact fun _ _ => rfl)
    (hk : cs.kind = .function := by with_unfolding_all rfl) (hx : (envOf cn cs L fa ccd).kindOf x = some .globalImplicit := by with_unfolding_all rfl) (hd : (x == ("__debug__" : Str)) = false := by decide) :
    wpAny (model PRG w) A (eval (.Call (.Name x np) args [] pos) (envOf cn cs L fa ccd)) Q E s :=
  r_call (r_bui C S e.1 e.2.1 e.2.2 (q_cw C hG S hf k h hk) hk hx hd)
theorem q_callB0 (C : Cx w base outer (envOf cn cs L fa ccd) A g L n) (hG : GOk w A E c g L m cn cs fa ccd G) {v : List Value} (S : St c g L m news s) (e : nsIn (Mine.hd.heap_1 w.params) mainGlobals x = some none ∧ bootBuiltins x = some f ∧ x ≠ "__name__") (hf : CallOk w [] f)
    (k : wpAny (model PRG w) A (call f v) Q E s)
    (h : ezs (envOf cn cs L fa ccd) m G args = some v := by with_unfolding_all exact rfl)
    (hk : cs.kind = .function := by with_unfolding_all rfl) (hx : (envOf cn cs L fa ccd).kindOf x = some .globalImplicit := by with_unfolding_all rfl) (hd : (x == ("__debug__" : Str)) = false := by decide) :
    wpAny (model PRG w) A (eval (.Call (.Name x np) args [] pos) (envOf cn cs L fa ccd)) Q E s :=
  r_call (r_bui C S e.1 e.2.1 e.2.2 (q_cw0 C hG S hf k h hk) hk hx hd)
variable {a d cls fn : Addr} {des : List DictEntry} {k' : Nat} {name : Str} {apos : Pos} {pl : Sem Bool}
theorem q_meth (C : Cx w base outer (envOf cn cs L fa ccd) A g L n) (hG : GOk w A E c g L m cn cs fa ccd G) {v : (Nat → Tok) → (Nat → Addr) → List Value} (S : St c g L m news s) (o : Meth w cls name fn) (ha : (a, instObj cls d) ∈ news) (hd : (d, dictOf des k') ∈ news)
    (hf : keepIn (Mine.hd.heap_1 w.params) (.ref fn) = true) (k : ∀ t b s', St c g L m (N t b) s' → wpAny (model PRG w) A (call (.ref fn) (.ref a :: v t b)) Q E s')
    (hv : ev1 (envOf cn cs L fa ccd) m [] x = some (.ref a) := by with_unfolding_all exact rfl) (hl : getL name des = some none := by with_unfolding_all exact rfl)
    (h : ∀ t a, esT (envOf cn cs L fa ccd) m G args news t a = some (v t a, N t a) := by with_unfolding_all exact fun _ _ => rfl)
    (he : eval (.Call (.Attribute (.Name x np) name apos) args [] pos) (envOf cn cs L fa ccd) = (do
      let ov ← eval (.Name x np) (envOf cn cs L fa ccd)
      standAt apos.atName
      let (f, first) ← holding [ov] (getMethod ov name pl)
      callWith pos f first (backTo pos (starEach args (envOf cn cs L fa ccd))) (backToKw pos (keywordEach [] (envOf cn cs L fa ccd)))) := by with_unfolding_all rfl)
    (hk : cs.kind = .function := by with_unfolding_all rfl) :
    wpAny (model PRG w) A (eval (.Call (.Attribute (.Name x np) name apos) args [] pos) (envOf cn cs L fa ccd)) Q E s :=
  r_meth (ev1_ok hk g0 hv S (r_getm C S o ha hd hl (q_cw C hG S (.inl hf) k h hk))) he
theorem q_meth0 (C : Cx w base outer (envOf cn cs L fa ccd) A g L n) (hG : GOk w A E c g L m cn cs fa ccd G) {v : List Value} (S : St c g L m news s) (o : Meth w cls name fn) (ha : (a, instObj cls d) ∈ news) (hd : (d, dictOf des k') ∈ news)
    (hf : keepIn (Mine.hd.heap_1 w.params) (.ref fn) = true) (k : wpAny (model PRG w) A (call (.ref fn) (.ref a :: v)) Q E s)
    (hv : ev1 (envOf cn cs L fa ccd) m [] x = some (.ref a) := by with_unfolding_all exact rfl) (hl : getL name des = some none := by with_unfolding_all exact rfl)
    (h : ezs (envOf cn cs L fa ccd) m G args = some v := by with_unfolding_all exact rfl)
    (he : eval (.Call (.Attribute (.Name x np) name apos) args [] pos) (envOf cn cs L fa ccd) = (do
      let ov ← eval (.Name x np) (envOf cn cs L fa ccd)
      standAt apos.atName
      let (f, first) ← holding [ov] (getMethod ov name pl)
      callWith pos f first (backTo pos (starEach args (envOf cn cs L fa ccd))) (backToKw pos (keywordEach [] (envOf cn cs L fa ccd)))) := by with_unfolding_all rfl)
    (hk : cs.kind = .function := by with_unfolding_all rfl) :
    wpAny (model PRG w) A (eval (.Call (.Attribute (.Name x np) name apos) args [] pos) (envOf cn cs L fa ccd)) Q E s :=
  r_meth (ev1_ok hk g0 hv S (r_getm C S o ha hd hl (q_cw0 C hG S (.inl hf) k h hk))) he
theorem q_atr {v : Value} (C : Cx w base outer (envOf cn cs L fa ccd) A g L n) (S : St c g L m news s) (o : Own w cls name) (ha : (a, instObj cls d) ∈ news) (hd : (d, dictOf des k') ∈ news) (k : ∀ s', St c g L m news s' → Q v s')
    (hv : ev1 (envOf cn cs L fa ccd) m [] x = some (.ref a) := by with_unfolding_all exact rfl) (hl : getL name des = some (some v) := by with_unfolding_all exact rfl) (hh : handedIn v = true := by with_unfolding_all rfl)
    (he : eval (.Attribute (.Name x np) name apos) (envOf cn cs L fa ccd) = (do
      let o ← eval (.Name x np) (envOf cn cs L fa ccd)
      standAt apos.atName
      let r ← holding [o] (getAttr o name true)
      letTemporaryGo (.Name x np) o r
      pure r) := by with_unfolding_all rfl) (hk : cs.kind = .function := by with_unfolding_all rfl) :
    wpAny (model PRG w) A (eval (.Attribute (.Name x np) name apos) (envOf cn cs L fa ccd)) Q E s :=
  r_attr (ev1_ok hk g0 hv S (r_get C S o ha hd hl hh k)) he
end
section
variable {x : Str} {pos np xp : Pos} {e : Expr} {rest : List Stmt} {Q : Flow → Shared → Prop}
theorem k_as (h : wpAny (model PRG w) A (eval e env) (fun v s₁ => wpAny (model PRG w) A (storeName env x v) (fun _ => Seq (fun s' => wpAny (model PRG w) A (execs rest env) Q E s') Q .next) E s₁) E s)
    (hs : swapsWith e (some (.Name x xp)) pos.line env = pure false := by with_unfolding_all rfl) : wpAny (model PRG w) A (execs (.Assign [.Name x xp] e pos :: rest) env) Q E s := r_cons (wpAny_Assign_Name h hs)
theorem k_ex (h : wpAny (model PRG w) A (eval e env) (fun _ => Seq (fun s' => wpAny (model PRG w) A (execs rest env) Q E s') Q .next) E s)
    (hi : interactive env = false := by with_unfolding_all rfl) (hs : swapsWith e none pos.line env = pure false := by with_unfolding_all rfl) : wpAny (model PRG w) A (execs (.Expr e pos :: rest) env) Q E s := r_cons (wpAny_Expr_any h hi hs)
theorem k_if {body orelse : List Stmt} (h : wpAny (model PRG w) A (isTrue e env (eval e env)) (fun b s₂ => if b then wpAny (model PRG w) A (execs body env) (Seq (fun s' => wpAny (model PRG w) A (execs rest env) Q E s') Q) E s₂ else wpAny (model PRG w) A (execs orelse env) (Seq (fun s' => wpAny (model PRG w) A (execs rest env) Q E s') Q) E s₂) E s) :
    wpAny (model PRG w) A (execs (.If e body orelse pos :: rest) env) Q E s := r_cons (wpAny_If h)
theorem k_rt (h : wpAny (model PRG w) A (eval e env) (fun v => Seq (fun s' => wpAny (model PRG w) A (execs rest env) Q E s') Q (.ret v)) E s) : wpAny (model PRG w) A (execs (.Return (some e) pos :: rest) env) Q E s := r_cons (wpAny_Return_some h)
theorem k_st {K : Shared → Prop} {v : Value} (S : St c g L m news s) (k : ∀ s', St c g L ((x, v) :: m) news s' → K s')
    (hk : cs.kind = .function := by with_unfolding_all rfl) (hx : (envOf cn cs L fa ccd).kindOf x = some .local := by with_unfolding_all rfl) : wpAny (model PRG w) A (storeName (envOf cn cs L fa ccd) x v) (fun _ => Seq K Q .next) E s :=
  r_store S (fun s' S' => k s' S') hk hx
theorem k_sn {K : Flow → Shared → Prop} (h : K .next s) : Seq (fun s' => wpAny (model PRG w) A (execs [] env) K E s') Q .next s := wpAny_execs_nil h
theorem q_as (hG : GOk w A E c g L m cn cs fa ccd G) {v : (Nat → Tok) → (Nat → Addr) → Value} (S : St c g L m news s) (k : ∀ t a s', St c g L ((x, v t a) :: m) (N t a) s' → wpAny (model PRG w) A (execs rest (envOf cn cs L fa ccd)) Q E s')
    (h : ∀ t a, evT (envOf cn cs L fa ccd) m G e news t a = some (v t a, N t a) := by with_unfolding_all exact fun _ _ => rfl) (hk : cs.kind = .function := by with_unfolding_all rfl) (hx : (envOf cn cs L fa ccd).kindOf x = some .local := by with_unfolding_all rfl)
    (hs : swapsWith e (some (.Name x xp)) pos.line (envOf cn cs L fa ccd) = pure false := by with_unfolding_all rfl) : wpAny (model PRG w) A (execs (.Assign [.Name x xp] e pos :: rest) (envOf cn cs L fa ccd)) Q E s :=
  k_as (evT_ok hk hG S h fun t a s' S' => k_st S' (k t a) hk hx) hs
theorem q_if {l r : Expr} {op : CmpOp} {tp : Pos} {body orelse : List Stmt} (hG : GOk w A E c g L m cn cs fa ccd G) {b : (Nat → Tok) → (Nat → Addr) → Bool} (S : St c g L m news s)
    (k : ∀ t a s', St c g L m (N t a) s' → if b t a then wpAny (model PRG w) A (execs body (envOf cn cs L fa ccd)) (Seq (fun s' => wpAny (model PRG w) A (execs rest (envOf cn cs L fa ccd)) Q E s') Q) E s' else wpAny (model PRG w) A (execs orelse (envOf cn cs L fa ccd)) (Seq (fun s' => wpAny (model PRG w) A (execs rest (envOf cn cs L fa ccd)) Q E s') Q) E s')
    (h : ∀ t a, evT (envOf cn cs L fa ccd) m G (.Compare l [op] [r] tp) news t a = some (.bool (b t a), N t a) := by with_unfolding_all exact fun _ _ => rfl) (hk : cs.kind = .function := by with_unfolding_all rfl) :
    wpAny (model PRG w) A (execs (.If (.Compare l [op] [r] tp) body orelse pos :: rest) (envOf cn cs L fa ccd)) Q E s := by
  refine k_if ?_
  obtain ⟨ts, as, h0⟩ := off_ok (h (fun i => s.toks + i) (fun i => s.heap.objs.size + i))
  obtain ⟨a, t, u1, b2, t2, u2, h2, h3, h4⟩ := i2_ok h0
  unfold evQ at h4
  cases h5 : evC op a b2 with
  | none => rw [h5] at h4; exact (nn h4).elim
  | some c0 =>
    rw [h5] at h4
    injection h4 with h4
    injection h4 with e1 e2
    injection e1 with e1
    refine wpAny_isTrue_Compare1 (ev_ok hk hG _ _ _ _ _ h2 s _ S sup_ fun s1 S1 P1 => ev_ok hk hG _ _ _ _ _ h3 s1 _ S1 P1 fun s2 S2 P2 => ?_) (evC_in h5 _); refine evC_ok h5 (wpAny_truthy_bool ?_)
    rw [e2] at S2
    rw [e1]
    exact k _ _ s2 S2
theorem q_rt (hG : GOk w A E c g L m cn cs fa ccd G) {v : (Nat → Tok) → (Nat → Addr) → Value} (S : St c g L m news s) (k : ∀ t a s', St c g L m (N t a) s' → Q (.ret (v t a)) s')
    (h : ∀ t a, evT (envOf cn cs L fa ccd) m G e news t a = some (v t a, N t a) := by with_unfolding_all exact fun _ _ => rfl) (hk : cs.kind = .function := by with_unfolding_all rfl) :
    wpAny (model PRG w) A (execs (.Return (some e) pos :: rest) (envOf cn cs L fa ccd)) Q E s := k_rt (evT_ok hk hG S h fun t a s' S' => seq_ret (k t a s' S'))
end
section
variable {x : Str} {pos np : Pos} {slice : Expr} {a : Addr} {vs : List Value} {k' : Nat} {i : Int} {u : (Nat → Tok) → (Nat → Addr) → Tok} {v : Value} {Q : Value → Shared → Prop}
theorem q_itT (hG : GOk w A E c g L m cn cs fa ccd G) (S : St c g L m news s) (ha : (a, tup vs k') ∈ news) (h : ∀ t b, evT (envOf cn cs L fa ccd) m G slice news t b = some (.int i (u t b), news)) {j : Nat} (h0 : -(2 ^ 63) ≤ i) (h1 : i < 2 ^ 63) (hj : seqIndex? i vs.length = some j) (hx : vs[j]? = some v) (k : ∀ s', St c g L m news s' → Q v s')
    (hv : ev1 (envOf cn cs L fa ccd) m [] x = some (.ref a) := by with_unfolding_all exact rfl) (hk : cs.kind = .function := by with_unfolding_all rfl)
    (hs : ∀ u, subscripted slice false (.ref a) (.int i u) = operate [.ref a, .int i u] (getItem (.ref a) (.int i u)) := by with_unfolding_all exact fun _ => rfl) :
    wpAny (model PRG w) A (eval (.Subscript (.Name x np) slice pos) (envOf cn cs L fa ccd)) Q E s :=
  Subscript_ (ev1_ok hk g0 hv S (evT_ok hk hG S h fun t b s' S' => r_itemT S' ha h0 h1 hj hx (k s' S') (hs _)))
theorem q_itL (hG : GOk w A E c g L m cn cs fa ccd G) (S : St c g L m news s) (ha : (a, lst vs k') ∈ news) (h : ∀ t b, evT (envOf cn cs L fa ccd) m G slice news t b = some (.int i (u t b), news)) (h0 : 0 ≤ i) (h1 : i < 2 ^ 63) (hx : vs[i.toNat]? = some v) (k : ∀ s', St c g L m news s' → Q v s')
    (hv : ev1 (envOf cn cs L fa ccd) m [] x = some (.ref a) := by with_unfolding_all exact rfl) (hk : cs.kind = .function := by with_unfolding_all rfl)
    (hs : ∀ u, subscripted slice false (.ref a) (.int i u) = operate [.ref a, .int i u] (getItem (.ref a) (.int i u)) := by with_unfolding_all exact fun _ => rfl) :
    wpAny (model PRG w) A (eval (.Subscript (.Name x np) slice pos) (envOf cn cs L fa ccd)) Q E s :=
  Subscript_ (ev1_ok hk g0 hv S (evT_ok hk hG S h fun t b s' S' => r_item S' ha h0 h1 hx (k s' S') (hs _)))
end
end
end Mine
end
section
open PySem PySem.W PyProof.Rows PySem.Calls PySem.Spec
set_option maxHeartbeats 1000000
namespace Mine
theorem fillK_D1 : (fun (_ : PySem.W.OpenLaw) (_ : Params → Frag) => True) PySem.Challenge.rw_nm0142_01 Mine.hd.heap_1 := by
  k_fill
  trivial
theorem c_push {w : World} {base : Heap} {outer : List Env} {env : Env} {A : Around} {c : Shared} {g : Heap} {L : Addr} {m : Loc} {rest : Led} {s : Shared} {Q E : Value → Shared → Prop} {me : Addr} {md : Addr} {vl : Addr} {bl : Addr} {e0 : Nat → Int × Tok} {vK : Value} {vF : Value} {vN : Value} {vL : Value} {vR : Value} {vA : Value} {kd : Nat} {kv : Nat} {vals : List Value} {v : Value} (C : Cx w base outer env A g L 1)
    (S : St c g L m ((me, instObj 353 md) :: (md, dictOf (sEnt e0 vK vF vN vL vR (.ref vl) (.ref bl) vA) kd) :: (vl, lst vals kv) :: rest) s) (hz : vals.length ≤ 1000)
    (k : ∀ s', St c g L m ((me, instObj 353 md) :: (md, dictOf (sEnt e0 vK vF vN vL vR (.ref vl) (.ref bl) vA) kd) :: (vl, lst (vals ++ [v]) (kv + 1)) :: rest) s' → Q .none s') :
    wpAny (model PRG w) A (call (.ref 189) [.ref me, v]) Q E s := by
  refine' r_def C S (binds := [("kind", v), ("self", .ref me)]) ?ho ?hcd ?hb ?hl ?_ ?c1 ?c2 ?c3 ?c4
  case ho => k_is
  case hcd => k_is
  case hb => exact BindsTo.of_eq rfl
  case hl => exact locs rfl
  case c1 => decide
  case c2 => exact rfl
  case c3 => exact rfl
  case c4 => exact rfl
  intro g1 L1 s1 C1 S1 F1; k_fold; (with_reducible refine k_ex ?_); refine r_meth (pl := pure false) ?_; (with_reducible refine q_atr C1 S1 (own_353_values w) M0 (M1 M0) fun s6 S6 => ?_; clear S1); refine r_getml S6 (.tail _ (.tail _ (.head _))) PySem.F.slot_list_append PySem.F.type_list_append ?_; refine r_callB ?_; (with_reducible refine q_sp0 g0 S6 ?_); refine r_append S6 (.tl (.tl .hd)) (by (rw [PySem.sizeLine_eq]; lia)) fun s12 S12 => ?_; clear S6; (with_reducible refine k_sn ?_); k_unfold; refine r_leave S12 fun S12 => ?_; exact k _ (by assumption)
theorem c_pop_any {w : World} {base : Heap} {outer : List Env} {env : Env} {A : Around} {c : Shared} {g : Heap} {L : Addr} {m : Loc} {rest : Led} {s : Shared} {Q E : Value → Shared → Prop} {me : Addr} {md : Addr} {vl : Addr} {bl : Addr} {e0 : Nat → Int × Tok} {vK : Value} {vF : Value} {vN : Value} {vL : Value} {vR : Value} {vA : Value} {kd : Nat} {kv : Nat} {kb : Nat} {vals : List Value} {bvs : List Value} {ba : Addr} {bd : Addr} {e1 : Nat → Int × Tok} {bC : Value} {bP : Value} {bR : Value} {bh : Int} {th : Tok} {dead : Bool} {kbd : Nat} {v : Value} (C : Cx w base outer env A g L 1)
    (S : St c g L m ((me, instObj 353 md) :: (md, dictOf (sEnt e0 vK vF vN vL vR (.ref vl) (.ref bl) vA) kd) :: (vl, lst (vals ++ [v]) kv) :: (bl, lst (bvs ++ [.ref ba]) kb) :: (ba, instObj 157 bd) :: (bd, dictOf (bEnt e1 bC bP bR (.int bh th) (.bool dead) (.bool false)) kbd) :: rest) s) (hz : vals.length ≤ 1000) (hz2 : bvs.length ≤ 1000) (hh : bh ≤ vals.length)
    (k : ∀ s', St c g L m ((me, instObj 353 md) :: (md, dictOf (sEnt e0 vK vF vN vL vR (.ref vl) (.ref bl) vA) kd) :: (vl, lst vals (kv + 1)) :: (bl, lst (bvs ++ [.ref ba]) kb) :: (ba, instObj 157 bd) :: (bd, dictOf (bEnt e1 bC bP bR (.int bh th) (.bool dead) (.bool false)) kbd) :: rest) s' → Q v s') :
    wpAny (model PRG w) A (call (.ref 203) [.ref me]) Q E s := by
  refine' r_def C S (binds := [("self", .ref me)]) ?ho ?hcd ?hb ?hl ?_ ?c1 ?c2 ?c3 ?c4
  case ho => k_is
  case hcd => k_is
  case hb => exact BindsTo.of_eq rfl
  case hl => exact locs rfl
  case c1 => decide
  case c2 => exact rfl
  case c3 => exact rfl
  case c4 => exact rfl
  intro g1 L1 s1 C1 S1 F1; k_fold; (with_reducible refine k_as ?_); refine Subscript_ ?_; (with_reducible refine q_atr C1 S1 (own_353_blocks w) M0 (M1 M0) fun s22 S22 => ?_; clear S1; refine q_ev g0 S22 fun τ25 α25 s25 S25 => ?_; clear S22); refine r_last S25 (.tail _ (.tail _ (.tail _ (.head _)))) (by lia) ?_; (with_reducible refine k_st S25 fun s27 S27 => ?_; clear S25; refine k_if ?_); refine wpAny_isTrue_Compare1 ?_; refine r_call ?_; refine r_bui C1 S27 (gb_len w) (by boot_by_name) (by decide) ?_; refine r_callB ?_; refine spliced_more ?_; (with_reducible refine q_atr C1 S27 (own_353_values w) M0 (M1 M0) fun s38 S38 => ?_; clear S27); refine spliced_none ?_; refine r_len S38 (.tail _ (.tail _ (.head _))) (by (simp only [decide_eq_true_eq, List.length_append, List.length_cons, List.length_nil, List.length_reverse, List.length_replicate]; lia)) fun t40 s40 S40 => ?_; clear S38; (with_reducible refine q_atr C1 S40 (own_157_height w) (M1 (M1 (M1 (M1 M0)))) (M1 (M1 (M1 (M1 (M1 M0))))) fun s43 S43 => ?_; clear S40); refine gt_int ?_; refine wpAny_truthy_bool ?_; refine t_pos (by simp only [decide_eq_true_eq, List.length_append, List.length_cons, List.length_nil]; lia) ?_; (with_reducible refine k_rt ?_); refine r_meth (pl := pure false) ?_; (with_reducible refine q_atr C1 S43 (own_353_values w) M0 (M1 M0) fun s52 S52 => ?_; clear S43); refine r_getml S52 (.tail _ (.tail _ (.head _))) PySem.F.slot_list_pop PySem.F.type_list_pop ?_; refine r_callB0 ?_; refine r_pop S52 (.tl (.tl .hd)) (by (rw [PySem.sizeLine_eq]; lia)) fun s55 S55 => ?_; clear S52; refine seq_ret ?_; refine seq_ret ?_; k_unfold; refine r_leave S55 fun S55 => ?_; exact k _ (by assumption)
end Mine
end
section
open PySem PySem.W PyProof.Rows PySem.Calls PySem.Spec
set_option maxHeartbeats 1000000
namespace Mine

theorem c_pop {w : World} {base : Heap} {outer : List Env} {env : Env} {A : Around} {c : Shared} {g : Heap} {L : Addr} {m : Loc} {rest : Led} {s : Shared} {Q E : Value → Shared → Prop} {me : Addr} {md : Addr} {vl : Addr} {bl : Addr} {e0 : Nat → Int × Tok} {vK : Value} {vF : Value} {vN : Value} {vL : Value} {vR : Value} {vA : Value} {kd : Nat} {kv : Nat} {kb : Nat} {vals : List Value} {bvs : List Value} {ba : Addr} {bd : Addr} {e1 : Nat → Int × Tok} {bC : Value} {bP : Value} {bR : Value} {bh : Int} {th : Tok} {dead : Bool} {kbd : Nat} {t t' : Tok} (C : Cx w base outer env A g L 2)
    (S : St c g L m ((me, instObj 353 md) :: (md, dictOf (sEnt e0 vK vF vN vL vR (.ref vl) (.ref bl) vA) kd) :: (vl, lst (vals ++ [.int (-1) t]) kv) :: (bl, lst (bvs ++ [.ref ba]) kb) :: (ba, instObj 157 bd) :: (bd, dictOf (bEnt e1 bC bP bR (.int bh th) (.bool dead) (.bool false)) kbd) :: rest) s) (hz : vals.length ≤ 1000) (hz2 : bvs.length ≤ 1000) (hh : bh ≤ vals.length)
    (k : ∀ s', St c g L m ((me, instObj 353 md) :: (md, dictOf (sEnt e0 vK vF vN vL vR (.ref vl) (.ref bl) vA) kd) :: (vl, lst vals (kv + 1)) :: (bl, lst (bvs ++ [.ref ba]) kb) :: (ba, instObj 157 bd) :: (bd, dictOf (bEnt e1 bC bP bR (.int bh th) (.bool dead) (.bool false)) kbd) :: rest) s' → Q (.int (-1) t) s') :
    wpAny (model PRG w) A (call (.ref 210) [.ref me, .int (-1) t']) Q E s := by
  refine' r_def C S (binds := [("kind", .int (-1) t'), ("self", .ref me)]) ?ho ?hcd ?hb ?hl ?_ ?c1 ?c2 ?c3 ?c4
  case ho => k_is
  case hcd => k_is
  case hb => exact BindsTo.of_eq rfl
  case hl => exact locs rfl
  case c1 => decide
  case c2 => exact rfl
  case c3 => exact rfl
  case c4 => exact rfl
  intro g1 L1 s1 C1 S1 F1; k_fold; (with_reducible refine k_as ?_; refine q_meth0 C1 g0 S1 (meth_353_pop_any w) M0 (M1 M0) (keep_203 w) ?_); refine c_pop_any (C1.le (by decide)) S1 (by assumption) (by assumption) (by assumption) fun s7 S7 => ?_; clear S1; (with_reducible refine k_st S7 fun s8 S8 => ?_; clear S7; refine k_if ?_); refine isTrue_and ?_; refine wpAny_isTrue_Compare1 ?_; refine r_loc S8 rfl ?_; refine r_loc S8 rfl ?_; refine ne_int ?_; refine wpAny_truthy_bool ?_; refine t_ff ?_; refine t_ff ?_; refine wpAny_execs_nil ?_; refine seq_next ?_; (with_reducible refine k_rt ?_); refine r_loc S8 rfl ?_; refine seq_ret ?_; k_unfold; refine r_leave S8 fun S8 => ?_; exact k _ (by assumption)
theorem c_push_all0 {w : World} {base : Heap} {outer : List Env} {env : Env} {A : Around} {c : Shared} {g : Heap} {L : Addr} {m : Loc} {rest : Led} {s : Shared} {Q E : Value → Shared → Prop} {me md vl bl : Addr} {e0 : Nat → Int × Tok} {vK vF vN vL vR vA : Value} {kd : Nat} {t : Addr} {kt : Nat} (C : Cx w base outer env A g L 1)
    (S : St c g L m ((me, instObj 353 md) :: (md, dictOf (sEnt e0 vK vF vN vL vR (.ref vl) (.ref bl) vA) kd) :: rest) s) (ht : (t, tup [] kt) ∈ rest)
    (k : ∀ s', St c g L m ((me, instObj 353 md) :: (md, dictOf (sEnt e0 vK vF vN vL vR (.ref vl) (.ref bl) vA) kd) :: rest) s' → Q .none s') :
    wpAny (model PRG w) A (call (.ref 196) [.ref me, .ref t]) Q E s := by
  refine' r_def C S (binds := [("kinds", .ref t), ("self", .ref me)]) ?ho ?hcd ?hb ?hl ?_ ?c1 ?c2 ?c3 ?c4
  case ho => k_is
  case hcd => k_is
  case hb => exact BindsTo.of_eq rfl
  case hl => exact locs rfl
  case c1 => decide
  case c2 => exact rfl
  case c3 => exact rfl
  case c4 => exact rfl
  intro g1 L1 s1 C1 S1 F1; k_fold; refine r_cons ?_; refine wpAny_For ?_; refine r_loc S1 rfl ?_; refine r_iterTup S1 (.tail _ (.tail _ (ht))) fun it31 s31 S31 => ?_; clear S1; refine r_forTup0 C1 (by assumption) (.tail _ (.tail _ ht)) fun s2 S2 => ?_; (with_reducible refine k_sn ?_); k_unfold; refine r_leave S2 fun S2 => ?_; exact k _ (by assumption)
end Mine
end
section
open PySem PySem.W PyProof.Rows PySem.Calls PySem.Spec
set_option maxHeartbeats 1000000
namespace Mine

noncomputable abbrev I32V (v : Value) : Prop := ∃ t, v = .int (-1) t
theorem c_pop_all {w : World} {base : Heap} {outer : List Env} {env : Env} {A : Around} {c : Shared} {g : Heap} {L : Addr} {m : Loc} {rest : Led} {s : Shared} {Q E : Value → Shared → Prop} {me : Addr} {md : Addr} {vl : Addr} {bl : Addr} {e0 : Nat → Int × Tok} {vK : Value} {vF : Value} {vN : Value} {vL : Value} {vR : Value} {vA : Value} {kd : Nat} {kv : Nat} {kb : Nat} {vals : List Value} {bvs : List Value} {ba : Addr} {bd : Addr} {e1 : Nat → Int × Tok} {bC : Value} {bP : Value} {bR : Value} {bh : Int} {th : Tok} {dead : Bool} {kbd : Nat} {ks pv : List Value} {t : Addr} {kt : Nat} (C : Cx w base outer env A g L 3)
    (S : St c g L m ((me, instObj 353 md) :: (md, dictOf (sEnt e0 vK vF vN vL vR (.ref vl) (.ref bl) vA) kd) :: (vl, lst (vals ++ pv) kv) :: (bl, lst (bvs ++ [.ref ba]) kb) :: (ba, instObj 157 bd) :: (bd, dictOf (bEnt e1 bC bP bR (.int bh th) (.bool dead) (.bool false)) kbd) :: rest) s)
    (ht : (t, tup ks kt) ∈ rest) (hks : ∀ v ∈ ks, I32V v) (hpv : ∀ v ∈ pv, I32V v) (hlen : pv.length = ks.length) (hk : ks.length ≤ 10) (hz : vals.length ≤ 900) (hz2 : bvs.length ≤ 1000) (hh : bh ≤ vals.length)
    (k : ∀ fl found fk kv' s', found.length = ks.length → St c g L m ((fl, lst found fk) :: (me, instObj 353 md) :: (md, dictOf (sEnt e0 vK vF vN vL vR (.ref vl) (.ref bl) vA) kd) :: (vl, lst vals kv') :: (bl, lst (bvs ++ [.ref ba]) kb) :: (ba, instObj 157 bd) :: (bd, dictOf (bEnt e1 bC bP bR (.int bh th) (.bool dead) (.bool false)) kbd) :: rest) s' → Q (.ref fl) s') :
    wpAny (model PRG w) A (call (.ref 217) [.ref me, .ref t]) Q E s := by
  refine' r_def C S (binds := [("kinds", .ref t), ("self", .ref me)]) ?ho ?hcd ?hb ?hl ?_ ?c1 ?c2 ?c3 ?c4
  case ho => k_is
  case hcd => k_is
  case hb => exact BindsTo.of_eq rfl
  case hl => exact locs rfl
  case c1 => decide
  case c2 => exact rfl
  case c3 => exact rfl
  case c4 => exact rfl
  intro g1 L1 s1 C1 S1 F1; k_fold; (with_reducible refine q_as g0 S1 fun τ6 α6 s6 S6 => ?_; clear S1); refine r_cons ?_; refine wpAny_For ?_; refine r_call ?_; refine r_bui C1 S6 (gb_range w) (by boot_by_name) (by decide) ?_; refine r_callT ?_; refine spliced_more ?_; refine wpAny_BinOp ?_; (with_reducible refine q_callB0 C1 g0 S6 (bb_len w) .B ?_); refine r_lenT S6 (.tail _ (.tail _ (.tail _ (.tail _ (.tail _ (.tail _ (.tail _ (ht)))))))) (by lia) fun t21 s21 S21 => ?_; clear S6; refine r_int S21 fun t22 s22 S22 => ?_; clear S21; refine r_sub S22 fun t23 s23 S23 => ?_; clear S22; (with_reducible refine q_sp g0 S23 fun τ31 α31 s31 S31 => ?_; clear S23); refine r_range3 S31 (by decide) (by lia) (by decide) fun r33 t33 u33 v33 s33 S33 => ?_; clear S31; refine r_iterRange S33 .hd (small_down (by lia)).1 (small_down (by lia)).2 fun it s40 S40 => ?_; refine r_forRangeF (I := fun i news₁ => ∃ (found : List Value) (fk : Nat) (pv' : List Value) (kv' : Nat), found.length = i ∧ pv'.length + i = ks.length ∧ (∀ v ∈ pv', I32V v) ∧ news₁ = ((α6 0), lst found fk) :: (me, instObj 353 md) :: (md, dictOf (sEnt e0 vK vF vN vL vR (.ref vl) (.ref bl) vA) kd) :: (vl, lst (vals ++ pv') kv') :: (bl, lst (bvs ++ [.ref ba]) kb) :: (ba, instObj 157 bd) :: (bd, dictOf (bEnt e1 bC bP bR (.int bh th) (.bool dead) (.bool false)) kbd) :: rest) C1 S40 ⟨[], 0, pv, kv, rfl, by lia, hpv, rfl⟩ (fun _ _ _ _ _ _ S k => r_asg S k) (fun i news₁ t50 s50 hi hI S50 => ?_) (fun m₁ news₁ s60 hm hI S60 => ?_)
  · try k_fold
    obtain ⟨found, fk, pv', kv', h1, h2, h3, rfl⟩ := hI
    rcases List.eq_nil_or_concat pv' with rfl | ⟨pv2, x, rfl⟩
    · exfalso; simp at h2; lia
    rw [List.concat_eq_append] at *
    rw [List.length_append] at h2
    obtain ⟨tx, rfl⟩ := h3 x (by simp)
    rw [← List.append_assoc] at S50
    have hj : ((ks.length : Int) - 1 + i * -1).toNat < ks.length := by lia
    obtain ⟨ty, hy⟩ := hks _ (List.getElem_mem hj)
    try k_fold
    (with_reducible refine k_ex ?_); refine r_meth ?_; refine r_loc S50 rfl ?_; refine r_getml S50 (.tail _ (.head _)) PySem.F.slot_list_append PySem.F.type_list_append ?_; refine r_callB ?_; refine spliced_more ?_; refine r_meth ?_; refine r_loc S50 rfl ?_; refine r_getm C1 S50 (meth_353_pop w) (.tail _ (.tail _ (.head _))) (.tail _ (.tail _ (.tail _ (.head _)))) rfl ?_; refine r_callK (keep_210 w) ?_; refine spliced_more ?_; refine Subscript_ ?_; refine r_loc S50 rfl ?_; refine r_loc S50 rfl ?_; refine r_itemTn S50 (.tail _ (.tail _ (.tail _ (.tail _ (.tail _ (.tail _ (.tail _ (.tail _ ht)))))))) (by lia) (by lia) (by lia) (by rw [List.getElem?_eq_getElem hj, hy]) ?_; refine spliced_none ?_; refine ⟨C1.inK S50, ?_⟩; refine c_pop (C1.le (by decide)) (St.rot_2_6 S50) (by simp only [List.length_append]; simp at h2; lia) hz2 (by simp only [List.length_append]; lia) fun s130 S130 => ?_; refine spliced_none ?_; refine r_append S130 (.tl (.tl (.tl (.tl (.tl (.tl (.tl .hd))))))) (by (rw [PySem.sizeLine_eq]; lia)) fun s142 S142 => ?_; clear S130; (with_reducible refine k_sn ?_); refine ⟨_, ⟨found ++ [.int (-1) tx], _, pv2, _, by simp [h1], by simp at h2; lia, fun v hv => h3 v (by simp [hv]), rfl⟩, St.rot_6_2 (by assumption)⟩
  · try k_fold
    obtain ⟨found, fk, pv', kv', h1, h2, h3, rfl⟩ := hI
    have : pv' = [] := List.eq_nil_of_length_eq_zero (by lia)
    subst this
    rw [List.append_nil] at S60
    refine seq_next ?_
    try k_fold
    (with_reducible refine k_ex ?_); refine r_meth ?_; refine r_loc S60 ((hm _ (by decide)).trans rfl) ?_; refine r_getml S60 (.head _) PySem.F.slot_list_reverse PySem.F.type_list_reverse ?_; refine r_callB0 ?_; refine r_reverse S60 .hd (by (rw [PySem.sizeLine_eq]; lia)) fun s208 S208 => ?_; clear S60; refine seq_next ?_; (with_reducible refine k_rt ?_); refine r_loc S208 ((hm _ (by decide)).trans rfl) ?_; refine seq_ret ?_; k_unfold; refine r_leave S208 fun S208 => ?_; exact k (α6 0) found.reverse _ _ _ (by rw [List.length_reverse]; exact h1) (by assumption)
end Mine
end
section
open PySem PySem.W PyProof.Rows PySem.Calls PySem.Spec
set_option maxHeartbeats 1000000
namespace Mine

theorem c_Block {w : World} {base : Heap} {outer : List Env} {env : Env} {A : Around} {c : Shared} {g : Heap} {L : Addr} {m : Loc} {news : Led} {s : Shared} {Q E : Value → Shared → Prop} {vC vP vR vH vB : Value} (C : Cx w base outer env A g L 2)
    (S : St c g L m news s)
    (k : ∀ x dx e kd s', St c g L m ((x, instObj 157 dx) :: (dx, dictOf (bEnt e vC vP vR vH (.bool false) vB) kd) :: news) s' → Q (.ref x) s') :
    wpAny (model PRG w) A (call (.ref 157) [vC, vP, vR, vH, vB]) Q E s := by
  refine r_inst C S (by kernel_rfl) (fI := 147) (by kernel_rfl) (by kernel_rfl) fun x dx s2 C2 S2 => ?_; refine' r_code C2 S2 (binds := [("is_buried", vB), ("height", vH), ("results", vR), ("params", vP), ("code", vC), ("self", .ref x)]) ?ho ?hcd ?hb ?hl ?_ ?c1 ?c2 ?c3 ?c4
  case ho => k_is
  case hcd => k_is
  case hb => exact BindsTo.of_eq rfl
  case hl => exact locs rfl
  case c1 => decide
  case c2 => exact rfl
  case c3 => exact rfl
  case c4 => exact rfl
  intro g1 L1 s1 C1 S1 F1; k_fold; refine r_cons ?_; refine plainObj_wpAny_Assign_Attribute ?_; refine r_loc S1 rfl ?_; refine r_loc S1 rfl ?_; refine r_setNew C1 S1 (so_157 w "code" (by kernel_rfl)) (.head _) rfl (fun _ _ => rfl) (fun _ _ => (.tl .hd)) (Nat.le_of_ble_eq_true rfl) fun h5 t5 s5 S5 => ?_; simp only [List.nil_append, List.cons_append] at S5; clear S1; refine seq_next ?_; refine r_cons ?_; refine plainObj_wpAny_Assign_Attribute ?_; refine r_loc S5 rfl ?_; refine r_loc S5 rfl ?_; refine r_setNew C1 S5 (so_157 w "params" (by kernel_rfl)) (.head _) rfl (fun _ _ => rfl) (fun _ _ => (.tl .hd)) (Nat.le_of_ble_eq_true rfl) fun h11 t11 s11 S11 => ?_; simp only [List.nil_append, List.cons_append] at S11; clear S5; refine seq_next ?_; refine r_cons ?_; refine plainObj_wpAny_Assign_Attribute ?_; refine r_loc S11 rfl ?_; refine r_loc S11 rfl ?_; refine r_setNew C1 S11 (so_157 w "results" (by kernel_rfl)) (.head _) rfl (fun _ _ => rfl) (fun _ _ => (.tl .hd)) (Nat.le_of_ble_eq_true rfl) fun h17 t17 s17 S17 => ?_; simp only [List.nil_append, List.cons_append] at S17; clear S11; refine seq_next ?_; refine r_cons ?_; refine plainObj_wpAny_Assign_Attribute ?_; refine r_loc S17 rfl ?_; refine r_loc S17 rfl ?_; refine r_setNew C1 S17 (so_157 w "height" (by kernel_rfl)) (.head _) rfl (fun _ _ => rfl) (fun _ _ => (.tl .hd)) (Nat.le_of_ble_eq_true rfl) fun h23 t23 s23 S23 => ?_; simp only [List.nil_append, List.cons_append] at S23; clear S17; refine seq_next ?_; refine r_cons ?_; refine plainObj_wpAny_Assign_Attribute ?_; refine wpAny_Constant_bool ?_; refine r_loc S23 rfl ?_; refine r_setNew C1 S23 (so_157 w "is_dead" (by kernel_rfl)) (.head _) rfl (fun _ _ => rfl) (fun _ _ => (.tl .hd)) (Nat.le_of_ble_eq_true rfl) fun h29 t29 s29 S29 => ?_; simp only [List.nil_append, List.cons_append] at S29; clear S23; refine seq_next ?_; refine r_cons ?_; refine plainObj_wpAny_Assign_Attribute ?_; refine r_loc S29 rfl ?_; refine r_loc S29 rfl ?_; refine r_setNew C1 S29 (so_157 w "is_buried" (by kernel_rfl)) (.head _) rfl (fun _ _ => rfl) (fun _ _ => (.tl .hd)) (Nat.le_of_ble_eq_true rfl) fun h35 t35 s35 S35 => ?_; simp only [List.nil_append, List.cons_append] at S35; clear S29; (with_reducible refine k_sn ?_); k_unfold; refine r_leave S35 fun S35 => ?_; exact ⟨rfl, k x dx (fun i => [(h5,t5),(h11,t11),(h17,t17),(h23,t23),(h29,t29),(h35,t35)].getD i (0,0)) _ _ (by assumption)⟩
theorem c_begin {w : World} {base : Heap} {outer : List Env} {env : Env} {A : Around} {c : Shared} {g : Heap} {L : Addr} {m : Loc} {rest : Led} {s : Shared} {Q E : Value → Shared → Prop} {me : Addr} {md : Addr} {vl : Addr} {bl : Addr} {e0 : Nat → Int × Tok} {vK : Value} {vF : Value} {vN : Value} {vL : Value} {vR : Value} {vA : Value} {kd : Nat} {kv : Nat} {kb : Nat} {vals : List Value} {bvs : List Value} {ba bd : Addr} {e1 : Nat → Int × Tok} {bC bP bR aC aR : Value} {vH : Value} {kbd : Nat} {t : Addr} {kt : Nat} (C : Cx w base outer env A g L 4)
    (S : St c g L m ((me, instObj 353 md) :: (md, dictOf (sEnt e0 vK vF vN vL vR (.ref vl) (.ref bl) vA) kd) :: (vl, lst vals kv) :: (bl, lst (bvs ++ [.ref ba]) kb) :: (ba, instObj 157 bd) :: (bd, dictOf (bEnt e1 bC bP bR vH (.bool false) (.bool false)) kbd) :: rest) s)
    (ht : (t, tup [] kt) ∈ rest) (hz : vals.length ≤ 1000) (hz2 : bvs.length ≤ 1000)
    (k : ∀ x dx e kd' kb' th s', St c g L m ((me, instObj 353 md) :: (md, dictOf (sEnt e0 vK vF vN vL vR (.ref vl) (.ref bl) vA) kd) :: (vl, lst vals kv) :: (bl, lst (bvs ++ [.ref ba] ++ [.ref x]) kb') :: (x, instObj 157 dx) :: (dx, dictOf (bEnt e aC (.ref t) aR (.int vals.length th) (.bool false) (.bool false)) kd') ::
      (ba, instObj 157 bd) :: (bd, dictOf (bEnt e1 bC bP bR vH (.bool false) (.bool false)) kbd) :: rest) s' → Q .none s') :
    wpAny (model PRG w) A (call (.ref 224) [.ref me, aC, .ref t, aR]) Q E s := by
  refine' r_def C S (binds := [("results", aR), ("params", .ref t), ("code", aC), ("self", .ref me)]) ?ho ?hcd ?hb ?hl ?_ ?c1 ?c2 ?c3 ?c4
  case ho => k_is
  case hcd => k_is
  case hb => exact BindsTo.of_eq rfl
  case hl => exact locs rfl
  case c1 => decide
  case c2 => exact rfl
  case c3 => exact rfl
  case c4 => exact rfl
  intro g1 L1 s1 C1 S1 F1; k_fold; (with_reducible refine k_as ?_); refine Subscript_ ?_; (with_reducible refine q_atr C1 S1 (own_353_blocks w) M0 (M1 M0) fun s6 S6 => ?_; clear S1; refine q_ev g0 S6 fun τ9 α9 s9 S9 => ?_; clear S6); refine r_last S9 (.tail _ (.tail _ (.tail _ (.head _)))) (by lia) ?_; (with_reducible refine k_st S9 fun s11 S11 => ?_; clear S9; refine k_as ?_); refine r_call ?_; refine r_glb C1 S11 (gl_Block w) ?_; refine r_callK (keep_157 w) ?_; refine spliced_more ?_; refine r_loc S11 rfl ?_; refine spliced_more ?_; refine r_loc S11 rfl ?_; refine spliced_more ?_; refine r_loc S11 rfl ?_; refine spliced_more ?_; refine r_call ?_; refine r_bui C1 S11 (gb_len w) (by boot_by_name) (by decide) ?_; refine r_callB ?_; refine spliced_more ?_; (with_reducible refine q_atr C1 S11 (own_353_values w) M0 (M1 M0) fun s31 S31 => ?_; clear S11); refine spliced_none ?_; refine r_len S31 (.tail _ (.tail _ (.head _))) (by lia) fun t33 s33 S33 => ?_; clear S31; refine spliced_more ?_; refine BoolOp_or ?_; (with_reducible refine q_atr C1 S33 (own_157_is_dead w) (M1 (M1 (M1 (M1 M0)))) (M1 (M1 (M1 (M1 (M1 M0))))) fun s38 S38 => ?_; clear S33); refine wpAny_truthy_bool ?_; refine t_ff ?_; refine BoolOp_one ?_; (with_reducible refine q_atr C1 S38 (own_157_is_buried w) (M1 (M1 (M1 (M1 M0)))) (M1 (M1 (M1 (M1 (M1 M0))))) fun s44 S44 => ?_; clear S38); refine spliced_none ?_; refine ⟨C1.inK S44, ?_⟩; refine c_Block (C1.le (by decide)) S44 fun x47 dx47 e47 kd47 s47 S47 => ?_; clear S44; (with_reducible refine k_st S47 fun s48 S48 => ?_; clear S47; refine k_ex ?_); refine r_meth (pl := pure false) ?_; (with_reducible refine q_atr C1 S48 (own_353_blocks w) (M1 (M1 M0)) (M1 (M1 (M1 M0))) fun s55 S55 => ?_; clear S48); refine r_getml S55 (.tail _ (.tail _ (.tail _ (.tail _ (.tail _ (.head _)))))) PySem.F.slot_list_append PySem.F.type_list_append ?_; refine r_callB ?_; (with_reducible refine q_sp0 g0 S55 ?_); refine r_append S55 (.tl (.tl (.tl (.tl (.tl .hd))))) (by (simp only [List.length_append, List.length_cons, List.length_nil]; rw [PySem.sizeLine_eq]; lia)) fun s61 S61 => ?_; clear S55; refine seq_next ?_; (with_reducible refine k_ex ?_; refine q_meth0 C1 g0 S61 (meth_353_push_all w) (M1 (M1 M0)) (M1 (M1 (M1 M0))) (keep_196 w) ?_); rename St _ _ _ _ _ _ => S90; refine c_push_all0 (C1.le (by decide)) (St.rot_2_4 S90) (.tail _ (.tail _ (.tail _ (.tail _ (.tail _ (.tail _ ht)))))) fun s91 S91 => ?_; (with_reducible refine k_sn ?_); k_unfold; refine r_leave S91 fun S91 => ?_; exact k _ _ _ _ _ _ _ (by assumption)
theorem c_label {w : World} {base : Heap} {outer : List Env} {env : Env} {A : Around} {c : Shared} {g : Heap} {L : Addr} {m : Loc} {news : Led} {s : Shared} {Q E : Value → Shared → Prop} {ba bd p r : Addr} {e1 : Nat → Int × Tok} {code : Int} {tc : Tok} {vH vD vB : Value} {kbd : Nat} (C : Cx w base outer env A g L 1)
    (S : St c g L m news s) (h1 : (ba, instObj 157 bd) ∈ news) (h2 : (bd, dictOf (bEnt e1 (.int code tc) (.ref p) (.ref r) vH vD vB) kbd) ∈ news) 
    (k : ∀ t s', t = p ∨ t = r → St c g L m news s' → Q (.ref t) s') :
    wpAny (model PRG w) A (call (.ref 154) [.ref ba]) Q E s := by
  refine' r_def C S (binds := [("self", .ref ba)]) ?ho ?hcd ?hb ?hl ?_ ?c1 ?c2 ?c3 ?c4
  case ho => k_is
  case hcd => k_is
  case hb => exact BindsTo.of_eq rfl
  case hl => exact locs rfl
  case c1 => decide
  case c2 => exact rfl
  case c3 => exact rfl
  case c4 => exact rfl
  intro g1 L1 s1 C1 S1 F1; k_fold; (with_reducible refine k_rt ?_); refine wpAny_IfExp ?_; refine wpAny_isTrue_Compare1 ?_; (with_reducible refine q_atr C1 S1 (own_157_code w) (h1) (h2) fun s7 S7 => ?_; clear S1); refine r_glb C1 S7 (gl_LOOP w) ?_; refine eq_int ?_; refine wpAny_truthy_bool ?_
  split
  · (with_reducible refine q_atr C1 S7 (own_157_params w) (h1) (h2) fun s103 S103 => ?_; clear S7); refine seq_ret ?_; k_unfold; refine r_leave S103 fun S103 => ?_; exact k _ _ (.inl rfl) (by assumption)
  · (with_reducible refine q_atr C1 S7 (own_157_results w) (h1) (h2) fun s203 S203 => ?_; clear S7); refine seq_ret ?_; k_unfold; refine r_leave S203 fun S203 => ?_; exact k _ _ (.inr rfl) (by assumption)
theorem c_close {w : World} {base : Heap} {outer : List Env} {env : Env} {A : Around} {c : Shared} {g : Heap} {L : Addr} {m : Loc} {rest : Led} {s : Shared} {Q E : Value → Shared → Prop} {me : Addr} {md : Addr} {vl : Addr} {bl : Addr} {e0 : Nat → Int × Tok} {vK : Value} {vF : Value} {vN : Value} {vL : Value} {vR : Value} {vA : Value} {kd : Nat} {kv : Nat} {kb : Nat} {vals : List Value} {bvs : List Value} {ba bd : Addr} {e1 : Nat → Int × Tok} {bC bP : Value} {th : Tok} {dead : Bool} {kbd : Nat} {t : Addr} {kt : Nat} (C : Cx w base outer env A g L 4)
    (S : St c g L m ((me, instObj 353 md) :: (md, dictOf (sEnt e0 vK vF vN vL vR (.ref vl) (.ref bl) vA) kd) :: (vl, lst vals kv) :: (bl, lst (bvs ++ [.ref ba]) kb) :: (ba, instObj 157 bd) :: (bd, dictOf (bEnt e1 bC bP (.ref t) (.int vals.length th) (.bool dead) (.bool false)) kbd) :: rest) s)
    (ht : (t, tup [] kt) ∈ rest) (hz : vals.length ≤ 900) (hz2 : bvs.length ≤ 1000)
    (k : ∀ kv' s', St c g L m ((me, instObj 353 md) :: (md, dictOf (sEnt e0 vK vF vN vL vR (.ref vl) (.ref bl) vA) kd) :: (vl, lst vals kv') :: (bl, lst bvs (kb + 1)) :: (ba, instObj 157 bd) :: (bd, dictOf (bEnt e1 bC bP (.ref t) (.int vals.length th) (.bool dead) (.bool false)) kbd) :: rest) s' → Q (.ref ba) s') :
    wpAny (model PRG w) A (call (.ref 231) [.ref me]) Q E s := by
  refine' r_def C S (binds := [("self", .ref me)]) ?ho ?hcd ?hb ?hl ?_ ?c1 ?c2 ?c3 ?c4
  case ho => k_is
  case hcd => k_is
  case hb => exact BindsTo.of_eq rfl
  case hl => exact locs rfl
  case c1 => decide
  case c2 => exact rfl
  case c3 => exact rfl
  case c4 => exact rfl
  intro g1 L1 s1 C1 S1 F1; k_fold; (with_reducible refine k_as ?_); refine Subscript_ ?_; (with_reducible refine q_atr C1 S1 (own_353_blocks w) M0 (M1 M0) fun s6 S6 => ?_; clear S1; refine q_ev g0 S6 fun τ9 α9 s9 S9 => ?_; clear S6); refine r_last S9 (.tail _ (.tail _ (.tail _ (.head _)))) (by lia) ?_; (with_reducible refine k_st S9 fun s11 S11 => ?_; clear S9; refine k_ex ?_); refine r_meth ?_; refine r_loc S11 rfl ?_; refine r_getm C1 S11 (meth_353_pop_all w) (.head _) (.tail _ (.head _)) rfl ?_; refine r_callK (keep_217 w) ?_; refine spliced_more ?_; (with_reducible refine q_atr C1 S11 (own_157_results w) (M1 (M1 (M1 (M1 M0)))) (M1 (M1 (M1 (M1 (M1 M0))))) fun s22 S22 => ?_; clear S11); refine spliced_none ?_; refine ⟨C1.inK S22, ?_⟩; refine c_pop_all (C1.le (by decide)) (ks := []) (pv := []) (kt := kt) (by simpa using S22) (by assumption) (by simp) (by simp) rfl (by simp) (by lia) (by lia) (by lia) fun fl25 found25 fk25 kv25 s25 hf25 S25 => ?_; clear S22; refine seq_next ?_; (with_reducible refine k_if ?_); refine wpAny_isTrue_Compare1 ?_; refine r_call ?_; refine r_bui C1 S25 (gb_len w) (by boot_by_name) (by decide) ?_; refine r_callB ?_; refine spliced_more ?_; (with_reducible refine q_atr C1 S25 (own_353_values w) (M1 M0) (M1 (M1 M0)) fun s36 S36 => ?_; clear S25); refine spliced_none ?_; refine r_len S36 (.tail _ (.tail _ (.tail _ (.head _)))) (by lia) fun t38 s38 S38 => ?_; clear S36; (with_reducible refine q_atr C1 S38 (own_157_height w) (M1 (M1 (M1 (M1 (M1 M0))))) (M1 (M1 (M1 (M1 (M1 (M1 M0)))))) fun s41 S41 => ?_; clear S38); refine ne_int ?_; refine wpAny_truthy_bool ?_; refine t_neg (by simp) ?_; refine wpAny_execs_nil ?_; refine seq_next ?_; (with_reducible refine k_ex ?_); refine r_meth (pl := pure false) ?_; (with_reducible refine q_atr C1 S41 (own_353_blocks w) (M1 M0) (M1 (M1 M0)) fun s52 S52 => ?_; clear S41); refine r_getml S52 (.tail _ (.tail _ (.tail _ (.tail _ (.head _))))) PySem.F.slot_list_pop PySem.F.type_list_pop ?_; refine r_callB0 ?_; refine r_pop S52 (.tl (.tl (.tl (.tl .hd)))) (by (rw [PySem.sizeLine_eq]; lia)) fun s55 S55 => ?_; clear S52; refine seq_next ?_; (with_reducible refine k_rt ?_); refine r_loc S55 rfl ?_; refine seq_ret ?_; k_unfold; refine r_leave S55 fun S55 => ?_; exact k _ _ (St.tail (by assumption))
theorem c_kill {w : World} {base : Heap} {outer : List Env} {env : Env} {A : Around} {c : Shared} {g : Heap} {L : Addr} {m : Loc} {rest : Led} {s : Shared} {Q E : Value → Shared → Prop} {me : Addr} {md : Addr} {vl : Addr} {bl : Addr} {e0 : Nat → Int × Tok} {vK : Value} {vF : Value} {vN : Value} {vL : Value} {vR : Value} {vA : Value} {kd : Nat} {kv : Nat} {kb : Nat} {vals : List Value} {bvs : List Value} {ba bd : Addr} {e1 : Nat → Int × Tok} {bC bP bR : Value} {th : Tok} {dead : Bool} {kbd : Nat} {hv : List Value} (C : Cx w base outer env A g L 2)
    (S : St c g L m ((me, instObj 353 md) :: (md, dictOf (sEnt e0 vK vF vN vL vR (.ref vl) (.ref bl) vA) kd) :: (vl, lst (vals ++ hv) kv) :: (bl, lst (bvs ++ [.ref ba]) kb) :: (ba, instObj 157 bd) :: (bd, dictOf (bEnt e1 bC bP bR (.int vals.length th) (.bool dead) (.bool false)) kbd) :: rest) s)
    (hz : vals.length + hv.length ≤ 900) (hz2 : bvs.length ≤ 1000)
    (k : ∀ kv' s', St c g L m ((me, instObj 353 md) :: (md, dictOf (sEnt e0 vK vF vN vL vR (.ref vl) (.ref bl) vA) kd) :: (vl, lst vals kv') :: (bl, lst (bvs ++ [.ref ba]) kb) :: (ba, instObj 157 bd) :: (bd, dictOf (bEnt e1 bC bP bR (.int vals.length th) (.bool true) (.bool false)) kbd) :: rest) s' → Q .none s') :
    wpAny (model PRG w) A (call (.ref 238) [.ref me]) Q E s := by
  refine' r_def C S (binds := [("self", .ref me)]) ?ho ?hcd ?hb ?hl ?_ ?c1 ?c2 ?c3 ?c4
  case ho => k_is
  case hcd => k_is
  case hb => exact BindsTo.of_eq rfl
  case hl => exact locs rfl
  case c1 => decide
  case c2 => exact rfl
  case c3 => exact rfl
  case c4 => exact rfl
  intro g1 L1 s1 C1 S1 F1; k_fold; (with_reducible refine k_as ?_); refine Subscript_ ?_; (with_reducible refine q_atr C1 S1 (own_353_blocks w) M0 (M1 M0) fun s6 S6 => ?_; clear S1; refine q_ev g0 S6 fun τ9 α9 s9 S9 => ?_; clear S6); refine r_last S9 (.tail _ (.tail _ (.tail _ (.head _)))) (by lia) ?_; (with_reducible refine k_st S9 fun s11 S11 => ?_; clear S9); refine r_cons ?_; refine wpAny_While ?_; rename St _ _ _ _ _ _ => S90; refine r_while (I := fun j m₁ news₁ => m₁ = ([("block", .ref ba), ("self", .ref me)] : Loc) ∧ ∃ hv' kv', hv'.length = j ∧ j ≤ hv.length ∧ news₁ = (me, instObj 353 md) :: (md, dictOf (sEnt e0 vK vF vN vL vR (.ref vl) (.ref bl) vA) kd) :: (vl, lst (vals ++ hv') kv') :: (bl, lst (bvs ++ [.ref ba]) kb) :: (ba, instObj 157 bd) :: (bd, dictOf (bEnt e1 bC bP bR (.int vals.length th) (.bool dead) (.bool false)) kbd) :: rest) hv.length S90 ⟨rfl, hv, kv, rfl, Nat.le_refl _, rfl⟩ fun j m₁ news₁ s60 hI S60 => ?_
  obtain ⟨rfl, hv', kv', h1, h2, rfl⟩ := hI
  refine wpAny_isTrue_Compare1 ?_; refine r_call ?_; refine r_bui C1 S60 (gb_len w) (by boot_by_name) (by decide) ?_; refine r_callB ?_; refine spliced_more ?_; (with_reducible refine q_atr C1 S60 (own_353_values w) M0 (M1 M0) fun s108 S108 => ?_; clear S60); refine spliced_none ?_; refine r_len S108 (.tail _ (.tail _ (.head _))) (by (simp only [decide_eq_true_eq, List.length_append, List.length_cons, List.length_nil, List.length_reverse, List.length_replicate]; lia)) fun t110 s110 S110 => ?_; clear S108; (with_reducible refine q_atr C1 S110 (own_157_height w) (M1 (M1 (M1 (M1 M0)))) (M1 (M1 (M1 (M1 (M1 M0))))) fun s113 S113 => ?_; clear S110); refine gt_int ?_; refine wpAny_truthy_bool ?_
  split
  · try k_fold
    rename_i hgt
    rcases List.eq_nil_or_concat hv' with rfl | ⟨hv2, x, rfl⟩
    · exfalso; simp at hgt
    rw [List.concat_eq_append] at *
    rename St _ _ _ _ _ _ => S91
    rw [← List.append_assoc] at S91
    have h1' : hv2.length + 1 = j := by simpa using h1
    try k_fold
    (with_reducible refine k_ex ?_); refine r_meth (pl := pure false) ?_; (with_reducible refine q_atr C1 S91 (own_353_values w) M0 (M1 M0) fun s206 S206 => ?_; clear S91); refine r_getml S206 (.tail _ (.tail _ (.head _))) PySem.F.slot_list_pop PySem.F.type_list_pop ?_; refine r_callB0 ?_; refine r_pop S206 (.tl (.tl .hd)) (by (simp only [List.length_append, List.length_cons, List.length_nil]; rw [PySem.sizeLine_eq]; lia)) fun s209 S209 => ?_; clear S206; (with_reducible refine k_sn ?_); exact ⟨j - 1, by lia, _, _, ⟨rfl, hv2, _, by lia, by lia, rfl⟩, by assumption⟩
  · try k_fold
    rename_i hgt
    have : hv' = [] := List.eq_nil_of_length_eq_zero (by simp only [decide_eq_true_eq, List.length_append] at hgt; lia)
    subst this
    rw [List.append_nil] at *
    refine seq_next ?_
    try k_fold
    refine r_cons ?_; refine plainObj_wpAny_Assign_Attribute ?_; refine wpAny_Constant_bool ?_; refine r_loc S113 rfl ?_; refine r_set_is_dead C1 S113 (.tail _ (.tail _ (.tail _ (.tail _ (.head _))))) (.tl (.tl (.tl (.tl (.tl .hd))))) fun s306 S306 => ?_; clear S113; (with_reducible refine k_sn ?_); k_unfold; refine r_leave S306 fun S306 => ?_; exact k _ _ (by assumption)
end Mine
end
section
open PySem PySem.W PyProof.Rows PySem.Calls PySem.Spec
set_option maxHeartbeats 1000000
namespace Mine

theorem c_target {w : World} {base : Heap} {outer : List Env} {env : Env} {A : Around} {c : Shared} {g : Heap} {L : Addr} {m : Loc} {rest : Led} {s : Shared} {Q E : Value → Shared → Prop} {me : Addr} {md : Addr} {vl : Addr} {bl : Addr} {e0 : Nat → Int × Tok} {vK : Value} {vF : Value} {vN : Value} {vL : Value} {vR : Value} {vA : Value} {kd : Nat} {kv : Nat} {kb : Nat} {vals : List Value} {i : Int} {ti : Tok} {xa xd p r : Addr} {e1 : Nat → Int × Tok} {code : Int} {tc : Tok} {vH vD vB : Value} {kbd : Nat} {bs : List Value} (C : Cx w base outer env A g L 2)
    (S : St c g L m ((me, instObj 353 md) :: (md, dictOf (sEnt e0 vK vF vN vL vR (.ref vl) (.ref bl) vA) kd) :: (vl, lst vals kv) :: (bl, lst bs kb) :: rest) s) (hz2 : bs.length ≤ 1000)
    (h0 : 0 ≤ i) (hi : i < bs.length) (hx : bs[((bs.length : Int) - 1 - i).toNat]? = some (.ref xa)) (h1 : (xa, instObj 157 xd) ∈ rest) (h2 : (xd, dictOf (bEnt e1 (.int code tc) (.ref p) (.ref r) vH vD vB) kbd) ∈ rest)
    (k : ∀ t s', t = p ∨ t = r → St c g L m ((me, instObj 353 md) :: (md, dictOf (sEnt e0 vK vF vN vL vR (.ref vl) (.ref bl) vA) kd) :: (vl, lst vals kv) :: (bl, lst bs kb) :: rest) s' → Q (.ref t) s') :
    wpAny (model PRG w) A (call (.ref 245) [.ref me, .int i ti]) Q E s := by
  refine' r_def C S (binds := [("label", .int i ti), ("self", .ref me)]) ?ho ?hcd ?hb ?hl ?_ ?c1 ?c2 ?c3 ?c4
  case ho => k_is
  case hcd => k_is
  case hb => exact BindsTo.of_eq rfl
  case hl => exact locs rfl
  case c1 => decide
  case c2 => exact rfl
  case c3 => exact rfl
  case c4 => exact rfl
  intro g1 L1 s1 C1 S1 F1; k_fold; (with_reducible refine k_if ?_); refine isTrue_not ?_; refine isTrue_chain ?_; refine r_int S1 fun t5 s5 S5 => ?_; clear S1; refine test_link ?_; refine r_loc S5 rfl ?_; refine le_int ?_; refine wpAny_truthy_bool ?_; refine t_pos (by simp only [decide_eq_true_eq]; lia) ?_; refine test_last ?_; refine r_call ?_; refine r_bui C1 S5 (gb_len w) (by boot_by_name) (by decide) ?_; refine r_callB ?_; refine spliced_more ?_; (with_reducible refine q_atr C1 S5 (own_353_blocks w) M0 (M1 M0) fun s18 S18 => ?_; clear S5); refine spliced_none ?_; refine r_len S18 (.tail _ (.tail _ (.tail _ (.head _)))) (by lia) fun t20 s20 S20 => ?_; clear S18; refine lt_int ?_; refine wpAny_truthy_bool ?_; refine t_neg (by simp_all) ?_; refine wpAny_execs_nil ?_; refine seq_next ?_; (with_reducible refine k_rt ?_); refine r_meth (pl := pure false) ?_; refine Subscript_ ?_; (with_reducible refine q_atr C1 S20 (own_353_blocks w) M0 (M1 M0) fun s32 S32 => ?_; clear S20); refine wpAny_BinOp ?_; refine wpAny_BinOp ?_; refine r_call ?_; refine r_bui C1 S32 (gb_len w) (by boot_by_name) (by decide) ?_; refine r_callB ?_; refine spliced_more ?_; (with_reducible refine q_atr C1 S32 (own_353_blocks w) M0 (M1 M0) fun s41 S41 => ?_; clear S32); refine spliced_none ?_; refine r_len S41 (.tail _ (.tail _ (.tail _ (.head _)))) (by lia) fun t43 s43 S43 => ?_; clear S41; refine r_int S43 fun t44 s44 S44 => ?_; clear S43; refine r_sub S44 fun t45 s45 S45 => ?_; clear S44; refine r_loc S45 rfl ?_; refine r_sub S45 fun t47 s47 S47 => ?_; clear S45; rename St _ _ _ _ _ _ => S90; refine r_item S90 (.tail _ (.tail _ (.tail _ (.head _)))) (by lia) (by lia) hx ?_; refine r_getm C1 S90 (meth_157_label w) (.tail _ (.tail _ (.tail _ (.tail _ (h1))))) (.tail _ (.tail _ (.tail _ (.tail _ (h2))))) rfl ?_; refine r_callK0 C1 S90 (keep_154 w) ?_; rename St _ _ _ _ _ _ => S190; refine c_label (C1.le (by decide)) S190 (.tail _ (.tail _ (.tail _ (.tail _ h1)))) (.tail _ (.tail _ (.tail _ (.tail _ h2)))) fun t s191 ht S191 => ?_; refine seq_ret ?_; k_unfold; refine r_leave S191 fun S191 => ?_; exact k _ _ ht (by assumption)
theorem c_type_at {w : World} {base : Heap} {outer : List Env} {env : Env} {A : Around} {c : Shared} {g : Heap} {L : Addr} {m : Loc} {rest : Led} {s : Shared} {Q E : Value → Shared → Prop} {me : Addr} {md : Addr} {vl : Addr} {bl : Addr} {e0 : Nat → Int × Tok} {vF : Value} {vN : Value} {vL : Value} {vR : Value} {vA : Value} {kd : Nat} {kv : Nat} {kb : Nat} {vals : List Value} {bvs : List Value} {i : Int} {ti : Tok} {kl : Addr} {kvs : List Value} {kk : Nat} {v : Value} (C : Cx w base outer env A g L 1)
    (S : St c g L m ((me, instObj 353 md) :: (md, dictOf (sEnt e0 (.ref kl) vF vN vL vR (.ref vl) (.ref bl) vA) kd) :: (vl, lst vals kv) :: (bl, lst bvs kb) :: rest) s) (hk : (kl, lst kvs kk) ∈ rest) (hz2 : kvs.length ≤ 1000)
    (h0 : 0 ≤ i) (hi : i < kvs.length) (hx : kvs[i.toNat]? = some v)
    (k : ∀ s', St c g L m ((me, instObj 353 md) :: (md, dictOf (sEnt e0 (.ref kl) vF vN vL vR (.ref vl) (.ref bl) vA) kd) :: (vl, lst vals kv) :: (bl, lst bvs kb) :: rest) s' → Q v s') :
    wpAny (model PRG w) A (call (.ref 259) [.ref me, .int i ti]) Q E s := by
  refine' r_def C S (binds := [("index", .int i ti), ("self", .ref me)]) ?ho ?hcd ?hb ?hl ?_ ?c1 ?c2 ?c3 ?c4
  case ho => k_is
  case hcd => k_is
  case hb => exact BindsTo.of_eq rfl
  case hl => exact locs rfl
  case c1 => decide
  case c2 => exact rfl
  case c3 => exact rfl
  case c4 => exact rfl
  intro g1 L1 s1 C1 S1 F1; k_fold; (with_reducible refine k_if ?_); refine isTrue_not ?_; refine isTrue_chain ?_; refine r_int S1 fun t5 s5 S5 => ?_; clear S1; refine test_link ?_; refine r_loc S5 rfl ?_; refine le_int ?_; refine wpAny_truthy_bool ?_; refine t_pos (by simp only [decide_eq_true_eq]; lia) ?_; refine test_last ?_; refine r_call ?_; refine r_bui C1 S5 (gb_len w) (by boot_by_name) (by decide) ?_; refine r_callB ?_; refine spliced_more ?_; (with_reducible refine q_atr C1 S5 (own_353_kinds w) M0 (M1 M0) fun s18 S18 => ?_; clear S5); refine spliced_none ?_; refine r_len S18 (.tail _ (.tail _ (.tail _ (.tail _ (hk))))) (by lia) fun t20 s20 S20 => ?_; clear S18; refine lt_int ?_; refine wpAny_truthy_bool ?_; refine t_neg (by simp_all) ?_; refine wpAny_execs_nil ?_; refine seq_next ?_; (with_reducible refine k_rt ?_); refine Subscript_ ?_; (with_reducible refine q_atr C1 S20 (own_353_kinds w) M0 (M1 M0) fun s31 S31 => ?_; clear S20); refine r_loc S31 rfl ?_; rename St _ _ _ _ _ _ => S90; refine r_item S90 (.tail _ (.tail _ (.tail _ (.tail _ hk)))) (by lia) (by lia) hx ?_; refine seq_ret ?_; k_unfold; refine r_leave S90 fun S90 => ?_; exact k _ (by assumption)
theorem c_func_at {w : World} {base : Heap} {outer : List Env} {env : Env} {A : Around} {c : Shared} {g : Heap} {L : Addr} {m : Loc} {rest : Led} {s : Shared} {Q E : Value → Shared → Prop} {me : Addr} {md : Addr} {vl : Addr} {bl : Addr} {e0 : Nat → Int × Tok} {vN : Value} {vL : Value} {vR : Value} {vA : Value} {kd : Nat} {kv : Nat} {kb : Nat} {vals : List Value} {bvs : List Value} {i j : Int} {ti tj : Tok} {kl fl : Addr} {kvs fvs : List Value} {kk fk : Nat} {v : Value} (C : Cx w base outer env A g L 2)
    (S : St c g L m ((me, instObj 353 md) :: (md, dictOf (sEnt e0 (.ref kl) (.ref fl) vN vL vR (.ref vl) (.ref bl) vA) kd) :: (vl, lst vals kv) :: (bl, lst bvs kb) :: rest) s) (hk : (kl, lst kvs kk) ∈ rest) (hf : (fl, lst fvs fk) ∈ rest) (hz2 : kvs.length ≤ 1000) (hz3 : fvs.length ≤ 1000)
    (h0 : 0 ≤ i) (hi : i < fvs.length) (hx : fvs[i.toNat]? = some (.int j tj)) (h0' : 0 ≤ j) (hi' : j < kvs.length) (hx' : kvs[j.toNat]? = some v)
    (k : ∀ s', St c g L m ((me, instObj 353 md) :: (md, dictOf (sEnt e0 (.ref kl) (.ref fl) vN vL vR (.ref vl) (.ref bl) vA) kd) :: (vl, lst vals kv) :: (bl, lst bvs kb) :: rest) s' → Q v s') :
    wpAny (model PRG w) A (call (.ref 266) [.ref me, .int i ti]) Q E s := by
  refine' r_def C S (binds := [("index", .int i ti), ("self", .ref me)]) ?ho ?hcd ?hb ?hl ?_ ?c1 ?c2 ?c3 ?c4
  case ho => k_is
  case hcd => k_is
  case hb => exact BindsTo.of_eq rfl
  case hl => exact locs rfl
  case c1 => decide
  case c2 => exact rfl
  case c3 => exact rfl
  case c4 => exact rfl
  intro g1 L1 s1 C1 S1 F1; k_fold; (with_reducible refine k_if ?_); refine isTrue_not ?_; refine isTrue_chain ?_; refine r_int S1 fun t5 s5 S5 => ?_; clear S1; refine test_link ?_; refine r_loc S5 rfl ?_; refine le_int ?_; refine wpAny_truthy_bool ?_; refine t_pos (by simp only [decide_eq_true_eq]; lia) ?_; refine test_last ?_; refine r_call ?_; refine r_bui C1 S5 (gb_len w) (by boot_by_name) (by decide) ?_; refine r_callB ?_; refine spliced_more ?_; (with_reducible refine q_atr C1 S5 (own_353_funcs w) M0 (M1 M0) fun s18 S18 => ?_; clear S5); refine spliced_none ?_; refine r_len S18 (.tail _ (.tail _ (.tail _ (.tail _ (hf))))) (by lia) fun t20 s20 S20 => ?_; clear S18; refine lt_int ?_; refine wpAny_truthy_bool ?_; refine t_neg (by simp_all) ?_; refine wpAny_execs_nil ?_; refine seq_next ?_; (with_reducible refine k_rt ?_); refine r_meth ?_; refine r_loc S20 rfl ?_; refine r_getm C1 S20 (meth_353_type_at w) (.head _) (.tail _ (.head _)) rfl ?_; refine r_callK (keep_259 w) ?_; refine spliced_more ?_; refine Subscript_ ?_; (with_reducible refine q_atr C1 S20 (own_353_funcs w) M0 (M1 M0) fun s36 S36 => ?_; clear S20); refine r_loc S36 rfl ?_; rename St _ _ _ _ _ _ => S90; refine r_item S90 (.tail _ (.tail _ (.tail _ (.tail _ hf)))) (by lia) (by lia) hx ?_; refine spliced_none ?_; refine ⟨C1.inK S90, ?_⟩; rename St _ _ _ _ _ _ => S190; refine c_type_at (C1.le (by decide)) S190 hk hz2 h0' hi' hx' fun s191 S191 => ?_; refine seq_ret ?_; k_unfold; refine r_leave S191 fun S191 => ?_; exact k _ (by assumption)
theorem c_local_at {w : World} {base : Heap} {outer : List Env} {env : Env} {A : Around} {c : Shared} {g : Heap} {L : Addr} {m : Loc} {rest : Led} {s : Shared} {Q E : Value → Shared → Prop} {me : Addr} {md : Addr} {vl : Addr} {bl : Addr} {e0 : Nat → Int × Tok} {vK : Value} {vF : Value} {vN : Value} {vR : Value} {vA : Value} {kd : Nat} {kv : Nat} {kb : Nat} {vals : List Value} {bvs : List Value} {i : Int} {ti : Tok} {ll : Addr} {lvs : List Value} {lk : Nat} {v : Value} (C : Cx w base outer env A g L 1)
    (S : St c g L m ((me, instObj 353 md) :: (md, dictOf (sEnt e0 vK vF vN (.ref ll) vR (.ref vl) (.ref bl) vA) kd) :: (vl, lst vals kv) :: (bl, lst bvs kb) :: rest) s) (hk : (ll, tup lvs lk) ∈ rest) (hz2 : lvs.length ≤ 1000)
    (h0 : 0 ≤ i) (hi : i < lvs.length) (hx : lvs[i.toNat]? = some v)
    (k : ∀ s', St c g L m ((me, instObj 353 md) :: (md, dictOf (sEnt e0 vK vF vN (.ref ll) vR (.ref vl) (.ref bl) vA) kd) :: (vl, lst vals kv) :: (bl, lst bvs kb) :: rest) s' → Q v s') :
    wpAny (model PRG w) A (call (.ref 273) [.ref me, .int i ti]) Q E s := by
  refine' r_def C S (binds := [("index", .int i ti), ("self", .ref me)]) ?ho ?hcd ?hb ?hl ?_ ?c1 ?c2 ?c3 ?c4
  case ho => k_is
  case hcd => k_is
  case hb => exact BindsTo.of_eq rfl
  case hl => exact locs rfl
  case c1 => decide
  case c2 => exact rfl
  case c3 => exact rfl
  case c4 => exact rfl
  intro g1 L1 s1 C1 S1 F1; k_fold; (with_reducible refine k_if ?_); refine isTrue_not ?_; refine isTrue_chain ?_; refine r_int S1 fun t5 s5 S5 => ?_; clear S1; refine test_link ?_; refine r_loc S5 rfl ?_; refine le_int ?_; refine wpAny_truthy_bool ?_; refine t_pos (by simp only [decide_eq_true_eq]; lia) ?_; refine test_last ?_; refine r_call ?_; refine r_bui C1 S5 (gb_len w) (by boot_by_name) (by decide) ?_; refine r_callB ?_; refine spliced_more ?_; (with_reducible refine q_atr C1 S5 (own_353_locals w) M0 (M1 M0) fun s18 S18 => ?_; clear S5); refine spliced_none ?_; refine r_lenT S18 (.tail _ (.tail _ (.tail _ (.tail _ (hk))))) (by lia) fun t20 s20 S20 => ?_; clear S18; refine lt_int ?_; refine wpAny_truthy_bool ?_; refine t_neg (by simp_all) ?_; refine wpAny_execs_nil ?_; refine seq_next ?_; (with_reducible refine k_rt ?_); refine Subscript_ ?_; (with_reducible refine q_atr C1 S20 (own_353_locals w) M0 (M1 M0) fun s31 S31 => ?_; clear S20); refine r_loc S31 rfl ?_; rename St _ _ _ _ _ _ => S90; refine r_itemTn S90 (.tail _ (.tail _ (.tail _ (.tail _ hk)))) (by lia) (by lia) (by lia) hx ?_; refine seq_ret ?_; k_unfold; refine r_leave S90 fun S90 => ?_; exact k _ (by assumption)
end Mine
end
section
open PySem PySem.W PyProof.Rows PySem.Calls PySem.Spec
set_option maxHeartbeats 2000000
namespace Mine
noncomputable def Firm (P : Obj → Prop) : Prop := ∀ o x, P o → P (o.mapFields (·.setIfInBounds 1 x))
noncomputable def Trc (h base : Heap) (e : Addr) (P : Obj → Prop) (fl : Value) : Prop :=
  ∃ oe vs T oT ts, h.get? e = some oe ∧ P oe ∧ oe.data = .fields vs ∧ vs[1]? = some (.ref T) ∧ base.get? T = none ∧ T ≠ e ∧ h.get? T = some oT ∧ oT.data = .fields ts ∧ ts[3]? = some fl
structure Fly (base : Heap) (l : List Env) (e : Addr) (P : Obj → Prop) (fl : Value) (h : Heap) : Prop where
  st : base.StaysIn h
  en : base.get? e = none
  ff : h.FunFrames base l
  tr : Trc h base e P fl
section
variable {M : Model} {A : Around} {E : Value → Shared → Prop} {s : Shared} {P : Obj → Prop}
theorem newHead {base : Heap} {env : Env} {outer : List Env} {L e : Addr} {oe : Obj} {vs : Array Value} {head : Value} {hadNext : Bool} {Q : Unit → Shared → Prop} (hP : Firm P)
    (hfr : A.frames = some (env :: outer)) (hl : s.heap.FunFrames base (env :: outer)) (hf : env.frame = some L)
    (he : s.heap.get? e = some oe) (hp : P oe) (hkb : base.StaysIn s.heap) (hen : base.get? e = none) (hd : oe.data = .fields vs) (hsz : 1 < vs.size)
    (h : ∀ h', Fly base (env :: outer) e P (rawInt L) h' → s.heap.UpToSlots h' → Q () { s with heap := h' }) :
    wpAny M A (do let a ← frameOf env; let pl ← entryPlaceOf L hadNext; let b ← EntryCells.newEntry head a .none (rawInt L) .none pl; setField (.ref e) 1 b) Q E s := by
  have hene : e ∉ (env :: outer).filterMap (·.frame) := fun hm => by
    obtain ⟨_, o, ho, hnf⟩ := hl.mem hm
    rw [he] at ho
    cases ho
    exact hnf vs hd
  refine wpAny_bind (wpAny_frameOf_fun hfr hl hf fun h₁ hs₁ => ?_); refine wpAny_bind (wpAny_entryPlaceOf fun pl hpl => ?_)
  unfold EntryCells.newEntry newFields
  refine wpAny_bind (wpAny_newObj_type ?_ (hpl.sizeOk5 _ _ _ _ _))
  have he₁ : h₁.get? e = some oe := (hs₁.2.1 e hene).trans he
  have kb₁ : base.StaysIn h₁ := fun b o hbo => (hs₁.2.1 b fun hm => by rw [(hl.mem hm).1] at hbo; cases hbo).trans (hkb b o hbo)
  generalize ht : ({ cls := .type "traceback", dict := none, data := .fields ([head, .ref L, .none, rawInt L, .none] ++ (if pl.isEmpty then List.replicate 6 Value.none else pl)).toArray } : Obj) = tb
  have htd : tb.data = .fields ([head, .ref L, .none, rawInt L, .none] ++ (if pl.isEmpty then List.replicate 6 Value.none else pl)).toArray := by rw [← ht]
  have he₂ := Heap.get?_push_of_some (h := h₁) tb he₁
  refine wpAny_setField he₂ hd hsz (h _ ?_ ?_)
  all_goals
    have hTe : h₁.objs.size ≠ e := Nat.ne_of_gt (Heap.lt_size he₁)
    have keep : ∀ b o, b ≠ e → h₁.get? b = some o → ((h₁.push tb).update e (Obj.mapFields (·.setIfInBounds 1 (Value.ref h₁.objs.size)))).get? b = some o := fun b o hbe hb => by
      rw [Heap.get?_update_other _ _ (Ne.symm hbe)]
      exact Heap.get?_push_of_some _ hb
    have noRec : ∀ b o, s.heap.get? b = some o → (∀ vs, o.data ≠ .fields vs) → b ≠ e := fun b o hb hnf q => by
      rw [q, he] at hb
      cases hb
      exact hnf vs hd
  · have hd₃ := Obj.data_mapFields hd (·.setIfInBounds 1 (Value.ref h₁.objs.size))
    have he₃ := Heap.get?_update_self (Obj.mapFields (·.setIfInBounds 1 (Value.ref h₁.objs.size))) he₂ (Obj.isFreed_of_fields hd₃)
    have hT₃ := (Heap.get?_update_other (h₁.push tb) (Obj.mapFields (·.setIfInBounds 1 (Value.ref h₁.objs.size))) (Ne.symm hTe)).trans (Heap.get?_push_size h₁ (Obj.isFreed_of_fields htd))
    refine ⟨fun b o hbo => keep b o (fun q => by rw [q, hen] at hbo; cases hbo) (kb₁ b o hbo), hen, hl.of_keeps fun b o hb hnf => ?_, ?_⟩
    · obtain ⟨sl, hs⟩ := hs₁.2.2 b o hb
      exact ⟨_, keep b _ (noRec b o hb hnf) hs, rfl⟩
    · exact ⟨_, _, h₁.objs.size, _, _, he₃, hP oe _ hp, hd₃, by simp [hsz], kb₁.fresh, hTe, hT₃, htd, by first | (simp; done) | (rcases hpl with rfl | ⟨_, _, _, _, _, _, _, rfl⟩ <;> simp)⟩
  · intro b o hb hnf
    obtain ⟨sl, hs⟩ := hs₁.2.2 b o hb
    exact ⟨sl, keep b _ (noRec b o hb hnf) hs⟩
theorem setFl {base : Heap} {l : List Env} {e : Addr} {fl : Value} {f : Option Addr} {Q : Unit → Shared → Prop} (X : Fly base l e P fl s.heap)
    (h : ∀ h', Fly base l e P (f.elim .none fun f => rawInt f) h' → s.heap.UpToSlots h' → Q () { s with heap := h' }) : wpAny M A (setFlight (.ref e) f) Q E s := by
  obtain ⟨hkb, hen, hl, oe, vs, T, oT, ts, he, hp, hd, h1, hnT, hTe, hT, hdT, h3⟩ := X
  have hsz3 : 3 < ts.size := (Array.getElem?_eq_some_iff.mp h3).1
  have other : ∀ b, b ≠ T → (s.heap.update T (Obj.mapFields (·.setIfInBounds 3 (f.elim Value.none fun f => rawInt f)))).get? b = s.heap.get? b := fun b hb => Heap.get?_update_other _ _ (Ne.symm hb)
  have noRec : ∀ b o, s.heap.get? b = some o → (∀ vs, o.data ≠ .fields vs) → b ≠ T := fun b o hb hnf q => by
    rw [q, hT] at hb
    cases hb
    exact hnf ts hdT
  unfold setFlight
  refine wpAny_bind (wpAny_field he hd h1 ?_)
  rw [if_pos (show (Value.ref T != Value.none) = true from by simp)]
  refine wpAny_setField hT hdT hsz3 (h _ ⟨fun b o hbo => (other b fun q => by rw [q, hnT] at hbo; cases hbo).trans (hkb b o hbo), hen,
    hl.of_keeps fun b o hb hnf => ⟨o, (other b (noRec b o hb hnf)).trans hb, rfl⟩, ?_⟩ fun b o hb hnf => ⟨o.slots, (other b (noRec b o hb hnf)).trans hb⟩)
  exact ⟨oe, vs, T, _, _, (other e (Ne.symm hTe)).trans he, hp, hd, h1, hnT, hTe, Heap.get?_update_self _ hT (Obj.isFreed_of_fields (Obj.data_mapFields hdT _)), Obj.data_mapFields hdT _, by simp [hsz3]⟩
theorem noteOn {base : Heap} {env : Env} {outer : List Env} {L e : Addr} {Q : Unit → Shared → Prop} (hP : Firm P) (hfr : A.frames = some (env :: outer)) (hf : env.frame = some L) (X : Fly base (env :: outer) e P .none s.heap)
    (h : ∀ h', Fly base (env :: outer) e P (rawInt L) h' → s.heap.UpToSlots h' → Q () { s with heap := h' }) : wpAny M A (noteFrame (.ref e) env) Q E s := by
  obtain ⟨hkb, hen, hl, oe, vs, T, oT, ts, he, hp, hd, h1, hnT, hTe, hT, hdT, h3⟩ := X
  unfold noteFrame
  simp only [hf]
  refine wpAny_bind (wpAny_field he hd h1 ?_)
  rw [if_pos (show (Value.ref T != Value.none) = true from by simp)]
  refine wpAny_bind (wpAny_field hT hdT h3 ?_)
  rw [if_neg (show ¬ ((Value.none == rawInt L) = true) from by simp [rawInt])]
  refine wpAny_bind (wpAny_setField hT hdT (Array.getElem?_eq_some_iff.mp h3).1 ?_)
  have other : ∀ b, b ≠ T → (s.heap.update T (Obj.mapFields (·.setIfInBounds 3 Value.none))).get? b = s.heap.get? b := fun b hb => Heap.get?_update_other _ _ (Ne.symm hb)
  have noRec : ∀ b o, s.heap.get? b = some o → (∀ vs, o.data ≠ .fields vs) → b ≠ T := fun b o hb hnf q => by
    rw [q, hT] at hb
    cases hb
    exact hnf ts hdT
  have hu : s.heap.UpToSlots (s.heap.update T (Obj.mapFields (·.setIfInBounds 3 Value.none))) := fun b o hb hnf => ⟨o.slots, (other b (noRec b o hb hnf)).trans hb⟩
  refine newHead hP hfr (hl.of_keeps fun b o hb hnf => ⟨o, (other b (noRec b o hb hnf)).trans hb, rfl⟩) hf ((other e (Ne.symm hTe)).trans he) hp
    (fun b o hbo => (other b fun q => by rw [q, hnT] at hbo; cases hbo).trans (hkb b o hbo)) hen hd (Array.getElem?_eq_some_iff.mp h1).1 fun h' Y k => h h' Y (hu.trans k)
theorem noteFirst {base : Heap} {env : Env} {outer : List Env} {L e : Addr} {oe : Obj} {vs : Array Value} {Q : Unit → Shared → Prop} (hP : Firm P) (hfr : A.frames = some (env :: outer)) (hf : env.frame = some L) (hl : s.heap.FunFrames base (env :: outer))
    (he : s.heap.get? e = some oe) (hp : P oe) (hkb : base.StaysIn s.heap) (hen : base.get? e = none) (hd : oe.data = .fields vs) (h1 : vs[1]? = some .none)
    (h : ∀ h', Fly base (env :: outer) e P (rawInt L) h' → s.heap.UpToSlots h' → Q () { s with heap := h' }) : wpAny M A (noteFrame (.ref e) env) Q E s := by
  unfold noteFrame
  simp only [hf]
  refine wpAny_bind (wpAny_field he hd h1 ?_)
  rw [if_neg (by decide)]
  exact newHead hP hfr hl hf he hp hkb hen hd (Array.getElem?_eq_some_iff.mp h1).1 h
theorem noteAgain {base : Heap} {l : List Env} {env : Env} {L e : Addr} {Q : Unit → Shared → Prop} (hf : env.frame = some L) (X : Fly base l e P (rawInt L) s.heap) (h : Q () s) : wpAny M A (noteFrame (.ref e) env) Q E s := by
  obtain ⟨hkb, hen, hl, oe, vs, T, oT, ts, he, hp, hd, h1, hnT, hTe, hT, hdT, h3⟩ := X
  unfold noteFrame
  simp only [hf]
  refine wpAny_bind (wpAny_field he hd h1 ?_)
  rw [if_pos (show (Value.ref T != Value.none) = true from by simp)]
  refine wpAny_bind (wpAny_field hT hdT h3 ?_)
  rw [if_pos (show (rawInt L == rawInt L) = true from by simp)]
  exact wpAny_pure h
theorem Fly.pop {base h : Heap} {env : Env} {outer : List Env} {e : Addr} {fl : Value} (X : Fly base (env :: outer) e P fl h) : Fly base outer e P fl h := ⟨X.st, X.en, X.ff.2.2, X.tr⟩
theorem leaveFirst {base : Heap} {env : Env} {outer : List Env} {L e : Addr} {oe : Obj} {vs : Array Value} {Q : Unit → Shared → Prop} (hP : Firm P) (hfr : A.frames = some (env :: outer)) (hf : env.frame = some L) (hl : s.heap.FunFrames base (env :: outer))
    (he : s.heap.get? e = some oe) (hp : P oe) (hkb : base.StaysIn s.heap) (hen : base.get? e = none) (hd : oe.data = .fields vs) (h1 : vs[1]? = some .none)
    (h : ∀ h', Fly base outer e P .none h' → s.heap.UpToSlots h' → Q () { s with heap := h' }) : wpAny M A (leaving env (.ref e)) Q E s := by
  unfold leaving
  exact wpAny_bind (noteFirst hP hfr hf hl he hp hkb hen hd h1 fun h' X k => setFl (f := none) X fun h'' Y k' => h h'' Y.pop (k.trans k'))
theorem leaveOn {base : Heap} {env : Env} {outer : List Env} {L e : Addr} {Q : Unit → Shared → Prop} (hP : Firm P) (hfr : A.frames = some (env :: outer)) (hf : env.frame = some L) (X : Fly base (env :: outer) e P .none s.heap)
    (h : ∀ h', Fly base outer e P .none h' → s.heap.UpToSlots h' → Q () { s with heap := h' }) : wpAny M A (leaving env (.ref e)) Q E s := by
  unfold leaving
  exact wpAny_bind (noteOn hP hfr hf X fun h' X k => setFl (f := none) X fun h'' Y k' => h h'' Y.pop (k.trans k'))
theorem leaveHeld {base : Heap} {env : Env} {outer : List Env} {L e : Addr} {Q : Unit → Shared → Prop} (hf : env.frame = some L) (X : Fly base (env :: outer) e P (rawInt L) s.heap)
    (h : ∀ h', Fly base outer e P .none h' → s.heap.UpToSlots h' → Q () { s with heap := h' }) : wpAny M A (leaving env (.ref e)) Q E s := by
  unfold leaving
  exact wpAny_bind (noteAgain hf X (setFl (f := none) X fun h'' Y k' => h h'' Y.pop k'))
theorem cameBack {base : Heap} {l : List Env} {env : Env} {L e : Addr} {fl : Value} {E' : Value → Shared → Prop} (hf : env.frame = some L) (X : Fly base l e P fl s.heap)
    (h : ∀ h', Fly base l e P (rawInt L) h' → s.heap.UpToSlots h' → E' (.ref e) { s with heap := h' }) : cameBackBy M A env E' (.ref e) s := by
  have Y := X
  obtain ⟨hkb, hen, hl, oe, vs, T, oT, ts, he, hp, hd, h1, hnT, hTe, hT, hdT, h3⟩ := Y
  unfold cameBackBy
  refine wpAny_bind (wpAny_field he hd h1 ?_)
  rw [if_neg (by simp)]
  show wpAny M A (setFlight (.ref e) env.frame) _ _ s
  rw [hf]
  exact setFl (f := some L) X fun h' Y k => h h' Y k
end
end Mine
end
section
open PySem PySem.W PyProof.Rows PySem.Calls PySem.Spec PySem.Builtin PySem.Builtin.ObjectAttr
set_option maxHeartbeats 2000000
namespace Mine
noncomputable abbrev xEnt (e : Nat → Int × Tok) (why fn at_ : Value) : List DictEntry :=
  [⟨(e 0).1, .str "why" (e 0).2, why⟩, ⟨(e 1).1, .str "function" (e 1).2, fn⟩, ⟨(e 2).1, .str "at" (e 2).2, at_⟩]
noncomputable abbrev eObj (d t0 : Addr) : Obj := { cls := .ref 124, dict := some d, data := .fields #[.ref t0, .none, .none, .none, .bool false, .none] }
noncomputable abbrev eObj0 (t0 : Addr) : Obj := { cls := .ref 124, dict := none, data := .fields #[.ref t0, .none, .none, .none, .bool false, .none] }
noncomputable abbrev excTail : List Value := [.ref 104, .type "Exception", .type "BaseException", .type "object"]
noncomputable abbrev cls124O : Obj := excClassObj "Invalid" "Invalid" 124 123 [.ref 104] excTail true [] [] false none none (some (.ref 108)) none (some (.str "Invalid" 320)) (some (.str "Invalid" 328)) (some (.bool true)) "Exception.__new__"
theorem cls124 (w : World) : List.lookup 124 (Mine.hd.heap_1 w.params) = some cls124O := by kernel_rfl
section
variable {w : World} {base : Heap} {outer : List Env} {env : Env} {A : Around} {c : Shared} {g g' : Heap} {L L' : Addr} {n : Nat} {m m' : Loc} {news news' : Led} {s : Shared} {E : Value → Shared → Prop}
theorem x_sd {D : Addr} {es : List DictEntry} {k1 : Nat} {name : Str} {tk : Tok} {v : Value} {news' : Int → Tok → Led} {Q : Fin → Shared → Prop} (S : St c g L m news s)
    (e : ∀ hsh key, (putL name hsh key v es, putN name es k1) = (es ++ [⟨hsh, key, v⟩], k1 + 1)) (hr : es.any (·.refKey) = false) (hz : es.length ≤ 900)
    (U : ∀ h t, At (D, dictOf es k1) (D, dictOf (es ++ [⟨h, .str name t, v⟩]) (k1 + 1)) news (news' h t)) (k : ∀ h t s', St c g L m (news' h t) s' → Q (.done (.ret .none)) s') :
    wpAny (model PRG w) A (storeInDict D (.str name tk) name v) Q E s := by
  have Dm := S.get (U 0 0).mem
  unfold storeInDict newKeyGuard
  refine wpAny_bind (wpAny_pure (wpAny_bind ?_))
  unfold nsSet
  refine wpAny_bind (wpAny_bind (wpAny_askSetting (wpAny_pure (wpAny_bind (wpAny_mkText (wpAny_bind (wpAny_loadPart Dm ?_)))))))
  dsimp only
  have hc : (!es.toArray.any (·.key.isStr name) && es.toArray.any (·.refKey)) = false := by
    rw [List.any_toArray, List.any_toArray, hr, Bool.and_false]
  rw [aRefKeyMayBeTheName_at, hc]
  refine wpAny_updatePart Dm ?_
  obtain ⟨e1, e2⟩ := Prod.mk.inj (e (PyData.keyHash w.params name) (.str name s.toks))
  have hput : (s.heap.update D (Obj.putName name (PyData.keyHash w.params name) (.str name s.toks) v)).get? D = some (dictOf (es ++ [⟨PyData.keyHash w.params name, .str name s.toks, v⟩]) (k1 + 1)) := by
    rw [Heap.get?_update_self _ Dm (by rw [putName_dict]; rfl), putName_dict, e1, e2]
  have S' := S.upd (tk := s.toks + 1) (U (PyData.keyHash w.params name) s.toks) (Heap.SameBut.update s.heap D _) hput
  refine wpAny_bind (wpAny_lookBehind hput (pastItsLine_dict (by rw [List.size_toArray, List.length_append, sizeLine_eq]; show es.length + 1 ≤ _; lia)) ?_); exact wpAny_pure (k _ _ _ S')
theorem cl124 (w : World) : ∃ cd, clsIn (Mine.hd.heap_1 w.params) 124 = some cd ∧ cd.mro = .ref 124 :: excTail ∧ cd.hasDict = true := by
  unfold clsIn
  rw [cls124]
  exact ⟨_, rfl, rfl, rfl⟩
theorem x_open {e : Addr} {oe : Obj} {od : Option Obj} {name : Str} {v : Value} {Q : Unit → Shared → Prop} (X : (Mine.hd.heap_1 w.params).In s.heap) (I : InstAt s.heap e oe 124 od) (ha : findIn (Mine.hd.heap_1 w.params) (.ref 124) name = some none)
    (h : ∀ A', wpAny (model PRG w) A' (storeInOwnDict (.ref e) (.ref 124) (.str name s.toks) name v false) (fun fin s' => fin = .done (.ret .none) ∧ Q () s') (fun _ _ => False) { s with toks := s.toks + 1 }) :
    wpAny (model PRG w) A (setAttr (.ref e) name v) Q E s := by
  have SF := PySem.F.store_object
  obtain ⟨cd, hc, hm, hdd⟩ := cl124 w
  refine set_plain X I (by kernel_rfl) ?_
  have sub : Looks (model PRG w) s.heap (isInstance (.ref e) (.type "object")) true := I.type.andThen (looks_mroIn X (by unfold mroIn; rw [hc, Option.bind_some, hm]; rfl))
  refine codeAny_call_builtin SF.slot.plain SF.entry (@check_slot (model PRG w) _ _ { s with toks := s.toks + 1 } "object.__setattr__" "object" "__setattr__" (.ref e) [.str name s.toks, v] [] _ SF.kind SF.split sub (SF.args (.ref e) (.str name s.toks) v) ?_)
  have hml : Looks (model PRG w) s.heap (mroOf (.ref 124)) cd.mro := (looks_clsIn X hc).andThen .now
  have L3 : Looks (model PRG w) s.heap (storeTaker? none) none := .now
  rw [osa_eq, refuse_eq]
  refine wpAny_bind (wpAny_bind (Looks.here (s := { s with toks := s.toks + 1 }) I.type (wpAny_bind (Looks.here (s := { s with toks := s.toks + 1 }) hml ?_))))
  rw [hm, refuseLoop_ref, refuseLoop_ref, PySem.F.store_Exception.passes]
  refine wpAny_pure (wpAny_bind (Looks.here (s := { s with toks := s.toks + 1 }) I.type (wpAny_bind (Looks.here (s := { s with toks := s.toks + 1 }) (looks_findIn X ha) (wpAny_bind (Looks.here (s := { s with toks := s.toks + 1 }) L3 ?_)))))); refine wpAny_mono (h _) (fun fin s' h' => ?_) fun _ _ x => x.elim
  obtain ⟨rfl, q⟩ := h'
  exact q
theorem x_set {e d t0 : Addr} {es : List DictEntry} {k1 : Nat} {name : Str} {v : Value} {news' : Int → Tok → Led} {Q : Unit → Shared → Prop} (X : (Mine.hd.heap_1 w.params).In s.heap) (S : St c g L m news s) (ha : findIn (Mine.hd.heap_1 w.params) (.ref 124) name = some none) (he : (e, eObj d t0) ∈ news)
    (ee : ∀ hsh key, (putL name hsh key v es, putN name es k1) = (es ++ [⟨hsh, key, v⟩], k1 + 1)) (hr : es.any (·.refKey) = false) (hz : es.length ≤ 900)
    (U : ∀ h t, At (d, dictOf es k1) (d, dictOf (es ++ [⟨h, .str name t, v⟩]) (k1 + 1)) news (news' h t)) (k : ∀ h t s', St c g L m (news' h t) s' → Q () s') :
    wpAny (model PRG w) A (setAttr (.ref e) name v) Q E s := by
  obtain ⟨cd, hc, hm, hdd⟩ := cl124 w
  refine x_open X (od := some (dictOf es k1)) ⟨S.get he, rfl, rfl, S.get (U 0 0).mem⟩ ha fun A' => ?_
  have hx : ({ s with toks := s.toks + 1 } : Shared).heap.get? e = some (eObj d t0) := S.get he
  refine wpAny_bind (wpAny_pure (wpAny_bind (wpAny_bind (wpAny_loadPart hx (wpAny_bind (Looks.here (s := { s with toks := s.toks + 1 }) (looks_clsIn X hc) ?_))))))
  rw [hdd]
  refine wpAny_pure (a := some d) ?_; exact x_sd S.tok ee hr hz U fun h t s' S' => ⟨rfl, k h t s' S'⟩
theorem x_set0 {e t0 : Addr} {name : Str} {v : Value} {rest : Led} {Q : Unit → Shared → Prop} (X : (Mine.hd.heap_1 w.params).In s.heap) (S : St c g L m ((e, eObj0 t0) :: rest) s) (ha : findIn (Mine.hd.heap_1 w.params) (.ref 124) name = some none)
    (k : ∀ d h t s', St c g L m ((d, dictOf [⟨h, .str name t, v⟩] 1) :: (e, eObj d t0) :: rest) s' → Q () s') :
    wpAny (model PRG w) A (setAttr (.ref e) name v) Q E s := by
  obtain ⟨cd, hc, hm, hdd⟩ := cl124 w
  have he := S.get (.head _)
  refine x_open X (od := none) ⟨he, rfl, rfl, trivial⟩ ha fun A' => ?_
  have hx : ({ s with toks := s.toks + 1 } : Shared).heap.get? e = some (eObj0 t0) := he
  refine wpAny_bind (wpAny_pure (wpAny_bind (wpAny_bind (wpAny_loadPart hx (wpAny_bind (Looks.here (s := { s with toks := s.toks + 1 }) (looks_clsIn X hc) ?_))))))
  rw [hdd]
  have S1 := S.push (o := { cls := .type "dict", data := .dict #[] }) (tk := s.toks + 1)
  have h2 : ((s.heap.push { cls := .type "dict", data := .dict #[] }).update e fun o => { o with dict := some s.heap.objs.size }).get? e = some (eObj s.heap.objs.size t0) := Heap.get?_update_self _ (S1.get (.tail _ (.head _))) rfl
  have S2 := S1.upd (tk := s.toks + 1) (.tl .hd) (Heap.SameBut.update _ e _) h2
  refine wpAny_bind (wpAny_alloc (wpAny_bind (wpAny_update (S1.get (.tail _ (.head _))) (wpAny_pure ?_)))); exact x_sd (es := []) S2 (fun _ _ => rfl) rfl (by decide) (fun _ _ => .hd) fun h t s' S' => ⟨rfl, k _ h t s' S'⟩
theorem x_check_init {M : Model} {e t0 : Addr} {rest : List Value} {Q : Unit → Shared → Prop} {h : Heap} {gs : Array GenState} {d : Drawn} {t : Nat} {os : OsState} (X : (Mine.hd.heap_1 w.params).In h) (he : h.get? e = some (eObj0 t0)) (hq : Q () ⟨h, gs, d, t, os⟩) :
    wpAny M A (checkBuiltinCall "Exception.__init__" ⟨.ref e :: rest, []⟩) Q E ⟨h, gs, d, t, os⟩ := by
  have F := PySem.F.excBase_Exception
  have hC : h.get? 124 = some cls124O := X _ _ (cls124 w)
  have hcB : (Value.ref 124 :: excTail).contains (.type "Exception") = true := by decide
  have hshort := F.noStar
  simp only [checkBuiltinCall, F.initKind, F.initSplit, F.initRow]
  repeat (first | with_reducible refine wpAny_loadPart_at he ?_ | with_reducible refine wpAny_loadPart_at hC ?_ | (with_reducible refine wpAny_isSubtype_exc hC ?_; rw [hcB]) | wp_step)
  refine wpAny_onRaise ?_
  rw [show ∀ (a b : String) (n : Nat), Bind.check ⟨.positional, "*", "Exception", .self, [⟨"args", .varPos, false⟩]⟩ a b n (List.map (fun x => x.fst) ({ pos := Value.ref e :: rest } : Args).kw) = pure () from
    fun a b n => check_star_args _ _ _ _ _ _]
  exact wpAny_pure hq
theorem x_init {e t0 : Addr} {vs : List Value} {rest : Led} {Q : Value → Shared → Prop} (X : (Mine.hd.heap_1 w.params).In s.heap) (S : St c g L m ((e, eObj0 t0) :: rest) s) (hz : vs.length ≤ 1000000)
    (k : ∀ t1 s', St c g L m ((t1, tup vs 0) :: (e, eObj0 t1) :: rest) s' → Q .none s') : wpAny (model PRG w) A (call (.builtin "Exception.__init__") (.ref e :: vs)) Q E s := by
  have F := PySem.F.excBase_Exception
  have he := S.get (.head _)
  have S1 := S.push (o := tup vs 0) (tk := s.toks)
  have he₁ := S1.get (.tail _ (.head _))
  have h2 : ((s.heap.push (tup vs 0)).update e (Obj.mapFields (·.setIfInBounds 0 (.ref s.heap.objs.size)))).get? e = some (eObj0 s.heap.objs.size) := Heap.get?_update_self _ he₁ rfl
  have S2 := S1.upd (tk := s.toks) (.tl .hd) (Heap.SameBut.update _ e _) h2
  refine wpAny_call (codeAny_call_builtin F.init.plain F.initEntry (x_check_init X he ?_))
  unfold Builtin.«BaseException.__init__»
  dsimp only
  rw [if_neg (by simp)]
  unfold newTuple Builtin.BaseException.bexcPut
  refine wpAny_bind (wpAny_newObj_type (wpAny_bind (wpAny_bind (wpAny_field he₁ rfl rfl (wpAny_bind (wpAny_setField he₁ rfl (by show 0 < 6; decide) ?_))))) (by show (List.toArray _).size ≤ sizeLine; rw [List.size_toArray, sizeLine_eq]; lia)); exact wpAny_letGo (wpAny_pure (k _ _ S2))
theorem x_check_new {M : Model} {rest : List Value} {Q : Unit → Shared → Prop} {h : Heap} {gs : Array GenState} {d : Drawn} {t : Nat} {os : OsState} (X : (Mine.hd.heap_1 w.params).In h) (hq : Q () ⟨h, gs, d, t, os⟩) :
    wpAny M A (checkBuiltinCall "Exception.__new__" ⟨.ref 124 :: rest, []⟩) Q E ⟨h, gs, d, t, os⟩ := by
  have F := PySem.F.excBase_Exception
  have hC : h.get? 124 = some cls124O := X _ _ (cls124 w)
  have hcont : (Value.ref 124 :: excTail).contains (.type "Exception") = true := by decide
  have hstar := F.noStar
  simp only [checkBuiltinCall, F.newKind, F.newSplit, F.newRow]
  repeat (first | refine wpAny_loadPart_at hC ?_ | (refine wpAny_isSubtype_exc hC ?_; rw [hcont]) | refine wpAny_staticBase_exc hC ?_ | refine wpAny_madeBy_exc hC ?_ | simp only [bne_self_eq_false, Bool.false_eq_true, if_false] | wp_step)
  exact hq
theorem x_new {R : Result → Shared → Prop} {rest : List Value} {h : Heap} {gs : Array GenState} {d : Drawn} {t : Nat} {os : OsState} (X : (Mine.hd.heap_1 w.params).In h) (hz : rest.length ≤ sizeLine)
    (hq : R (.ok (.ret (.ref (h.objs.size + 1)))) ⟨(h.push (tup rest 0)).push (eObj0 h.objs.size), gs, d, t, os⟩) : codeAny (model PRG w) A (.builtin "Exception.__new__" ⟨.ref 124 :: rest, []⟩) R ⟨h, gs, d, t, os⟩ := by
  have F := PySem.F.excBase_Exception
  have hC : h.get? 124 = some cls124O := X _ _ (cls124 w)
  have hends := F.ends
  have hcB : (Value.ref 124 :: excTail).contains (.type "Exception") = true := by decide
  have hcA : (Value.ref 124 :: excTail).contains (.type "AttributeError") = false := by decide
  have hcN : (Value.ref 124 :: excTail).contains (.type "NameError") = false := by decide
  refine codeAny_builtinAt F.entry ?_
  unfold Builtin.«BaseException.__new__»
  refine PySem.wpAt_bind ?_
  show PySem.wpAt _ _ _ (stack >>= _) _ _ _
  refine PySem.wpAt_bind (PySem.wpAt_stack fun p below => PySem.wpAt_of_wpAny ?_)
  wp_walk
  refine PySem.wpAt_of_wpAny ?_
  rw [F.owner]
  repeat (first | with_reducible refine wpAny_madeHere_exc F.canon hC ?_ | with_reducible refine wpAny_loadPart_at hC ?_ | (with_reducible refine wpAny_isSubtype_exc hC ?_; first | rw [hcB] | rw [hcA] | rw [hcN]) | wp_step)
  show R _ _
  rw [Heap.size_push]
  exact hq
theorem x_make {rest : List Value} {Q : Value → Shared → Prop} (X : (Mine.hd.heap_1 w.params).In s.heap) (S : St c g L m news s) (hz : rest.length ≤ 1000000)
    (k : ∀ e t0 s', St c g L m ((e, eObj0 t0) :: news) s' → wpAny (model PRG w) (A.under (.builtin "type.__call__" ⟨.ref 124 :: rest, []⟩)) (call (.ref 121) (.ref e :: rest)) (fun r s'' => r = .none ∧ Q (.ref e) s'') E s') :
    wpAny (model PRG w) A (call (.ref 124) rest) Q E s := by
  have F := PySem.F.excBase_Exception
  have hzl : rest.length ≤ sizeLine := by rw [sizeLine_eq]; lia
  have f1 := tc_lookup
  have f2 := tc_bind (.ref 124)
  have S2 := ((S.push (o := tup rest 0) (tk := s.toks)).push (o := eObj0 s.heap.objs.size) (tk := s.toks)).drop (.tl .hd)
  obtain ⟨h, gs, d, t, os⟩ := s
  have hC : h.get? 124 = some cls124O := X _ _ (cls124 w)
  have hT : (⟨h, gs, d, t, os⟩ : Shared).TypeIs (.ref 124) "type" := ⟨_, hC, rfl⟩
  refine wpAny_call (codeAny_of_tree ?_)
  show wpAny _ _ (callAny (.ref 124) _) _ _ _
  repeat (any_goals (first | assumption | with_reducible refine wpAny_loadPart_at hC ?_ | wp_step))
  refine ⟨rfl, ?_⟩; refine codeAny_call_builtin_at (Code.quiet_builtin _ (by decide +kernel)) entry_typeCall (wpAny_check_type_call_sub hC ?_)
  repeat (first | with_reducible refine wpAny_loadPart_at hC ?_ | with_reducible refine wpAny_madeBy_exc hC ?_ | wp_step)
  refine codeAny_call_builtin_code (Code.quiet_builtin _ F.quiet) (x_check_new X ?_); refine x_new X hzl ?_
  show wpAny _ _ _ _ _ _
  have hs : (h.push (tup rest 0)).objs.size = h.objs.size + 1 := Heap.size_push ..
  dsimp only at S2
  rw [hs] at S2
  have X2 : (Mine.hd.heap_1 w.params).In ((h.push (tup rest 0)).push (eObj0 h.objs.size)) := fun b o q => Heap.get?_push_of_some _ (Heap.get?_push_of_some _ (X b o q))
  have hC₁ : ((h.push (tup rest 0)).push (eObj0 h.objs.size)).get? 124 = some cls124O := X2 _ _ (cls124 w)
  have hget := S2.get (.head _)
  have hcC : (Value.ref 124 :: excTail).contains (.ref 124) = true := by decide
  have Li : Looks (model PRG w) ((h.push (tup rest 0)).push (eObj0 h.objs.size)) (typeLookup (.ref 124) "__init__") (some (.ref 121)) := looks_findIn X2 (by kernel_rfl)
  have Lf : Looks (model PRG w) ((h.push (tup rest 0)).push (eObj0 h.objs.size)) (typeOf (.ref 121)) (.type "function") := looks_typeIn X2 (by kernel_rfl)
  unfold isInstance
  repeat (first | with_reducible refine wpAny_loadPart_at hget ?_ | wp_step)
  show wpAny _ _ (isSubtype (.ref 124) (.ref 124)) _ _ _
  refine wpAny_isSubtype_exc hC₁ ?_
  rw [hcC]
  repeat wp_step
  refine Li.at ?_; refine wpAny_holding (wpAny_bind ?_)
  unfold bindSpecial
  refine wpAny_bind (Lf.at ?_)
  rw [if_pos (by decide)]
  refine wpAny_pure (wpAny_bind (wpAny_mono (k _ _ _ S2) (fun r s' hr => ?_) fun _ _ x => x))
  obtain ⟨rfl, hQ⟩ := hr
  wp_walk
  exact hQ
end
end Mine
end
section
open PySem PySem.W PyProof.Rows PySem.Calls PySem.Spec
set_option maxHeartbeats 2000000
namespace Mine
section
variable {w : World} {base : Heap} {outer : List Env} {env : Env} {A : Around} {c : Shared} {g g' : Heap} {L L' : Addr} {n : Nat} {m m' : Loc} {news news' : Led} {s : Shared} {E : Value → Shared → Prop} {lim : Nat}
variable {cn : Str} {cs : Scope} {fa : Addr} {ccd : Value}
theorem CxL.make (C : CxL lim w base outer env A g L (n + 1)) (cl : Addr) (vals : List Value) (kw : List (Str × Value)) : CxL lim w base outer env (A.under (.builtin "type.__call__" ⟨.ref cl :: vals, kw⟩)) g L n := by
  refine ⟨⟨_, C.below.choose_spec⟩, C.K, C.T, C.fr, C.ef, C.ek, C.hn, ?_, ?_⟩
  · have := C.dp; rw [depth_under_kw]; lia
  · have h1 : (A.under (.builtin "type.__call__" ⟨.ref cl :: vals, kw⟩)).units = A.units + 1 := rfl
    have := C.un; rw [h1]; lia
theorem r_glbL {x : Str} {pos : Pos} {v : Value} {Q : Value → Shared → Prop} (C : CxL lim w base outer env A g L n) (S : St c g L m news s) (e : nsIn (Mine.hd.heap_1 w.params) mainGlobals x = some (some v)) (k : Q v s)
    (hk : cs.kind = .function := by rfl) (hx : (envOf cn cs L fa ccd).kindOf x = some .globalImplicit := by rfl) (hd : (x == ("__debug__" : Str)) = false := by decide) :
    wpAny (model PRG w) A (eval (.Name x pos) (envOf cn cs L fa ccd)) Q E s := by
  obtain ⟨mean, mg, mb, T⟩ := C.T
  exact name_K S.fr C.K (topRead_of T) e k hk hx hd
theorem r_buiL {x : Str} {pos : Pos} {v : Value} {Q : Value → Shared → Prop} (C : CxL lim w base outer env A g L n) (S : St c g L m news s) (e : nsIn (Mine.hd.heap_1 w.params) mainGlobals x = some none) (hv : bootBuiltins x = some v) (hn : x ≠ "__name__") (k : Q v s)
    (hk : cs.kind = .function := by rfl) (hx : (envOf cn cs L fa ccd).kindOf x = some .globalImplicit := by rfl) (hd : (x == ("__debug__" : Str)) = false := by decide) :
    wpAny (model PRG w) A (eval (.Name x pos) (envOf cn cs L fa ccd)) Q E s := by
  obtain ⟨mean, mg, mb, T⟩ := C.T
  exact name_B S.fr C.K (topRead_of T) e hv hn k hk hx hd
theorem fi_why (w : World) : findIn (Mine.hd.heap_1 w.params) (.ref 124) "why" = some none := by kernel_rfl
theorem fi_function (w : World) : findIn (Mine.hd.heap_1 w.params) (.ref 124) "function" = some none := by kernel_rfl
theorem fi_at (w : World) : findIn (Mine.hd.heap_1 w.params) (.ref 124) "at" = some none := by kernel_rfl
theorem r_init0 {why : Str} {t1 : Tok} {e t0 : Addr} {rest : Led} {Q : Value → Shared → Prop} (C : CxL 604 w base outer env A g L (n + 1)) (S : St c g L m ((e, eObj0 t0) :: rest) s)
    (k : ∀ d t0 h t s', St c g L m ((d, dictOf [⟨h, .str "why" t, .str why t1⟩] 1) :: (e, eObj d t0) :: rest) s' → Q .none s') :
    wpAny (model PRG w) A (call (.ref 101) [.ref e, .str why t1]) Q E s := by
  refine wpAny_call ?_; refine' r_codeL (by decide) C S (binds := [("why", .str why t1), ("self", .ref e)]) ?ho ?hcd ?hb ?hl ?_ ?c1 ?c2 ?c3 ?c4
  case ho => k_is
  case hcd => k_is
  case hb => exact BindsTo.of_eq rfl
  case hl => exact locs rfl
  case c1 => decide
  case c2 => exact rfl
  case c3 => exact rfl
  case c4 => exact rfl
  intro g1 L1 s1 C1 S1 F1; k_fold; (with_reducible refine k_ex ?_); refine r_meth ?_; refine r_buiL C1 S1 (gb_Exception w) (by boot_by_name) (by decide) ?_; refine method_type (v := .builtin "Exception.__init__") S1.fr C1.K (by kernel_rfl) (by decide +kernel) (by kernel_rfl) rfl ?_; refine r_callB ?_
  have S2 := S1.tok (tk := s1.toks + 1)
  (with_reducible refine q_sp0 g0 S2 ?_); refine x_init (C1.inK S2) S2 (bL rfl) fun t3 s3 S3 => ?_; refine seq_next ?_; refine r_cons ?_; refine plainObj_wpAny_Assign_Attribute ?_; refine r_loc S3 rfl ?_; refine r_loc S3 rfl ?_; refine x_set0 (C1.inK S3.tail) S3.tail (fi_why w) fun d h t s4 S4 => ?_; refine seq_next ?_; refine wpAny_execs_nil ?_; k_unfold; refine r_leave S4 fun S5 => ?_; exact k _ _ _ _ _ S5
theorem r_exc {why : Str} {t1 t2 : Tok} {fn : Value} {at_ : Int} {Q : Value → Shared → Prop} (C : Cx w base outer env A g L n) (S : St c g L m news s)
    (k : ∀ e d t0 ex kx s', St c g L m ((e, eObj d t0) :: (d, dictOf (xEnt ex (.str why t1) fn (.int at_ t2)) kx) :: news) s' → Q (.ref e) s') :
    wpAny (model PRG w) A (call (.ref 124) [.str why t1, fn, .int at_ t2]) Q E s := by
  refine x_make (C.inK S) S (bL rfl) fun e t0 s0 S0 => ?_
  have CL := C.up.make 124 [.str why t1, fn, .int at_ t2] []
  refine wpAny_call ?_; refine' r_codeL (by decide) CL S0 (binds := [("at", .int at_ t2), ("function", fn), ("why", .str why t1), ("self", .ref e)]) ?ho ?hcd ?hb ?hl ?_ ?c1 ?c2 ?c3 ?c4
  case ho => k_is
  case hcd => k_is
  case hb => exact BindsTo.of_eq rfl
  case hl => exact locs rfl
  case c1 => decide
  case c2 => exact rfl
  case c3 => exact rfl
  case c4 => exact rfl
  intro g1 L1 s1 C1 S1 F1; k_fold; (with_reducible refine k_ex ?_); refine r_meth ?_; refine r_glbL C1 S1 (gl_WasmFault w) ?_; refine method_of_cls S1.fr C1.K (by kernel_rfl) ?_; refine cls_val (a := .ref 101) (mc := .type "type") S1.fr C1.K (by kernel_rfl) (by kernel_rfl) (by kernel_rfl) rfl ?_
  have S2 := S1.tok (tk := s1.toks + 1)
  refine r_callK (by kernel_rfl) ?_; (with_reducible refine q_sp0 g0 S2 ?_); refine ⟨C1.inK S2, ?_⟩; refine r_init0 C1 S2 fun d t3 h1 k1 s3 S3 => ?_; refine seq_next ?_; refine r_cons ?_; refine plainObj_wpAny_Assign_Attribute ?_; refine r_loc S3 rfl ?_; refine r_loc S3 rfl ?_; refine x_set (C1.inK S3) S3 (fi_function w) (.tail _ (.head _)) (fun _ _ => rfl) rfl (bL rfl) (fun _ _ => .hd) fun h2 k2 s4 S4 => ?_; refine seq_next ?_; refine r_cons ?_; refine plainObj_wpAny_Assign_Attribute ?_; refine r_loc S4 rfl ?_; refine r_loc S4 rfl ?_; refine x_set (C1.inK S4) S4 (fi_at w) (.tail _ (.head _)) (fun _ _ => rfl) rfl (bL rfl) (fun _ _ => .hd) fun h3 k3 s5 S5 => ?_; refine seq_next ?_; refine wpAny_execs_nil ?_; k_unfold; refine r_leave S5 fun S6 => ?_; exact ⟨rfl, k e d t3 (fun i => [(h1, k1), (h2, k2), (h3, k3)].getD i (0, 0)) _ _ (S6.perm (.swap _ _ _))⟩
end
end Mine
end
section
open PySem PySem.W PyProof.Rows PySem.Calls PySem.Spec PySem.W.X
set_option maxHeartbeats 2000000
namespace Mine
section
variable {w : World} {base : Heap} {outer : List Env} {env : Env} {A : Around} {c : Shared} {g g' : Heap} {L L' : Addr} {n : Nat} {m m' : Loc} {news news' : Led} {s : Shared} {E : Value → Shared → Prop}
theorem r_raise {x : Expr} {pos : Pos} {Q : Flow → Shared → Prop} (C : Cx w base outer env A g L n)
    (h : wpAny (model PRG w) A (eval x env) (fun v s₁ => ∃ e d t0, v = .ref e ∧ (Mine.hd.heap_1 w.params).In s₁.heap ∧ s₁.heap.get? e = some (eObj d t0) ∧ E (.ref e) s₁) E s) :
    wpAny (model PRG w) A (exec (.Raise (some x) none pos) env) Q E s := by
  rw [arm_exec_Raise]
  refine wpAny_bind (wpAny_standAt ?_)
  simp only [evalOpt, Option.map]
  unfold raiseStmt
  refine wpAny_bind (wpAny_bind (wpAny_mono h (fun v s₁ h₁ => wpAny_bind (wpAny_standAt (wpAny_pure ?_))) fun _ _ x => x))
  obtain ⟨e, d, t0, rfl, K, he, hE⟩ := h₁
  have hC := K 124 _ (cls124 w)
  have hcB : (Value.ref 124 :: excTail).contains (.type "BaseException") = true := by decide +kernel
  obtain ⟨hp, g, dr, tk, os⟩ := s₁
  repeat (first | with_reducible refine wpAny_loadPart_at he ?_ | with_reducible refine wpAny_loadPart_at hC ?_ | (with_reducible refine wpAny_isSubtype_exc hC ?_; rw [hcB]) | wp_step)
  exact wpAny_raiseNew_none C.hn hE
end
end Mine
end
section
open PySem PySem.W PyProof.Rows PySem.Calls PySem.Spec
set_option maxHeartbeats 2000000
namespace Mine
noncomputable abbrev isX (d : Addr) : Obj → Prop := fun o => o.cls = .ref 124 ∧ o.dict = some d
theorem firmX (d : Addr) : Firm (isX d) := fun o x h => by
  obtain ⟨h1, h2⟩ := h
  refine ⟨?_, ?_⟩
  · rw [← h1]; unfold Obj.mapFields; split <;> rfl
  · rw [← h2]; unfold Obj.mapFields; split <;> rfl
structure RX (base : Heap) (l : List Env) (c : Shared) (g : Heap) (L : Addr) (m : Loc) (keep : Led) (why : Str) (fn : Value) (at_ : Int) (fl : Value) (v : Value) (s' : Shared) : Prop where
  gens : s'.gens = c.gens
  drawn : s'.drawn = c.drawn
  os : s'.os = c.os
  fr : ∃ g₂, Fr g L g₂ (fun y => m.lookup y) ∧ g₂.UpToSlots s'.heap
  ex : ∃ e d B ex kx t1 t2, v = .ref e ∧ base.StaysIn B ∧ (∀ q ∈ (d, dictOf (xEnt ex (.str why t1) fn (.int at_ t2)) kx) :: keep, B.get? q.1 = some q.2 ∧ base.get? q.1 = none) ∧ Fly B l e (isX d) fl s'.heap
section
variable {w : World} {base : Heap} {outer : List Env} {env env' : Env} {A A' : Around} {c : Shared} {g g' : Heap} {L L' : Addr} {n : Nat} {m m' : Loc} {news news' keep : Led} {s s' : Shared} {E : Value → Shared → Prop}
variable {why : Str} {fn : Value} {at_ : Int} {fl v : Value} {l : List Env}
theorem x_first {e d t0 : Addr} {ex : Nat → Int × Tok} {t1 t2 : Tok} {kx : Nat} {E' : Value → Shared → Prop} (C : Cx w base (env :: outer) env' A' g' L' n) (S : St c g' L' m' news s') (F : Fr g L g' (fun y => m.lookup y))
    (he : (e, eObj d t0) ∈ news) (hd : (d, dictOf (xEnt ex (.str why t1) fn (.int at_ t2)) kx) ∈ news) (hk : ∀ q ∈ keep, q ∈ news) (hek : ∀ q ∈ keep, q.1 ≠ e) (hde : d ≠ e)
    (k : ∀ s'', RX base (env :: outer) c g L m keep why fn at_ .none (.ref e) s'' → E (.ref e) s'') :
    wpAny (model PRG w) A' (leaving env' (.ref e)) (fun _ s'' => E (.ref e) s'') E' s' := by
  obtain ⟨A₀, B⟩ := C.below
  have K' := pushX B S.fr C.ef C.ek
  have zn : ∀ q ∈ news, q.1 ∉ (env' :: env :: outer).filterMap (·.frame) := fun q hq hm => by
    obtain ⟨en, hen, hf⟩ := List.mem_filterMap.mp hm
    rcases List.mem_cons.mp hen with rfl | hen
    · rw [C.ef] at hf
      exact (S.nw q hq).2.1 (Option.some.inj hf).symm
    · obtain ⟨o, ho, _⟩ := (B.frames.mem (List.mem_filterMap.mpr ⟨en, hen, hf⟩)).2
      rw [(S.nw q hq).2.2] at ho; cases ho
  have bn : ∀ q ∈ news, base.get? q.1 = none := fun q hq => fresh_of_stays B.stays (S.nw q hq).2.2
  have hin : ∀ en ∈ (env' :: env :: outer), ∀ b, en.frame = some b → b ∈ e :: (env' :: env :: outer).filterMap (·.frame) := fun en he b hb => .tail _ (List.mem_filterMap.mpr ⟨en, he, hb⟩)
  have st : base.StaysIn (hideAll s'.heap (e :: (env' :: env :: outer).filterMap (·.frame))) := fun b o q => hideAll_get _ (K'.stays b o q) fun hm => by
    rcases List.mem_cons.mp hm with rfl | hm
    · rw [bn _ he] at q; cases q
    · rw [(K'.frames.mem hm).1] at q; cases q
  have hl : ∀ q ∈ (d, dictOf (xEnt ex (.str why t1) fn (.int at_ t2)) kx) :: keep, (hideAll s'.heap (e :: (env' :: env :: outer).filterMap (·.frame))).get? q.1 = some q.2 ∧ base.get? q.1 = none := fun q hq => by
    have hn : q ∈ news ∧ q.1 ≠ e := by
      rcases List.mem_cons.mp hq with rfl | hq
      · exact ⟨hd, hde⟩
      · exact ⟨hk q hq, hek q hq⟩
    refine ⟨hideAll_get _ (S.nw q hn.1).1 fun hm => ?_, bn q hn.1⟩
    rcases List.mem_cons.mp hm with x | hm
    · exact hn.2 x
    · exact zn q hn.1 hm
  refine leaveFirst (base := hideAll s'.heap (e :: (env' :: env :: outer).filterMap (·.frame))) (P := isX d) (firmX d) C.fr C.ef (funFrames_hide K'.frames hin) (S.nw _ he).1 ⟨rfl, rfl⟩ (fun b o q => of_hideAll _ q) (hideAll_none _ (.head _)) rfl rfl fun h' X k' => ?_; refine k _ ⟨S.gens, S.drawn, S.os, ⟨g', F, (Heap.UpToSlots.of_keeps S.fr.keep).trans k'⟩, e, d, _, ex, kx, t1, t2, rfl, st, hl, X⟩
theorem x_on {E' : Value → Shared → Prop} (C : Cx w base (env :: outer) env' A' g' L' n) (R : RX base (env' :: env :: outer) c g' L' m' keep why fn at_ .none v s') (F : Fr g L g' (fun y => m.lookup y))
    (k : ∀ s'', RX base (env :: outer) c g L m keep why fn at_ .none v s'' → E v s'') :
    wpAny (model PRG w) A' (leaving env' v) (fun _ s'' => E v s'') E' s' := by
  obtain ⟨h1, h2, h3, ⟨g₂, F₂, u⟩, e, d, B, ex, kx, t1, t2, rfl, st, hl, X⟩ := R
  refine leaveOn (firmX d) C.fr C.ef X fun h' Y k' => ?_; exact k _ ⟨h1, h2, h3, ⟨g', F, ((Heap.UpToSlots.of_keeps F₂.keep).trans u).trans k'⟩, e, d, B, ex, kx, t1, t2, rfl, st, hl, Y⟩
theorem x_loop (C : Cx w base outer env A g L n) (R : RX base (env :: outer) c g L m keep why fn at_ .none v s')
    (k : ∀ s'', RX base (env :: outer) c g L m keep why fn at_ (rawInt L) v s'' → E v s'') : LoopE w A env E v s' := by
  obtain ⟨h1, h2, h3, ⟨g₂, F₂, u⟩, e, d, B, ex, kx, t1, t2, rfl, st, hl, X⟩ := R
  unfold LoopE notedBy
  refine noteOn (firmX d) C.fr C.ef X fun h' Y k' => ?_; refine cameBack C.ef Y fun h'' Z k'' => ?_; exact k _ ⟨h1, h2, h3, ⟨g₂, F₂, (u.trans k').trans k''⟩, e, d, B, ex, kx, t1, t2, rfl, st, hl, Z⟩
theorem x_held {E' : Value → Shared → Prop} (C : Cx w base (env :: outer) env' A' g' L' n) (R : RX base (env' :: env :: outer) c g' L' m' keep why fn at_ (rawInt L') v s') (F : Fr g L g' (fun y => m.lookup y))
    (k : ∀ s'', RX base (env :: outer) c g L m keep why fn at_ .none v s'' → E v s'') :
    wpAny (model PRG w) A' (leaving env' v) (fun _ s'' => E v s'') E' s' := by
  obtain ⟨h1, h2, h3, ⟨g₂, F₂, u⟩, e, d, B, ex, kx, t1, t2, rfl, st, hl, X⟩ := R
  refine leaveHeld C.ef X fun h' Y k' => ?_; exact k _ ⟨h1, h2, h3, ⟨g', F, ((Heap.UpToSlots.of_keeps F₂.keep).trans u).trans k'⟩, e, d, B, ex, kx, t1, t2, rfl, st, hl, Y⟩
theorem x_first' {e d t0 : Addr} {ex : Nat → Int × Tok} {t1 t2 : Tok} {kx : Nat} {E' : Value → Shared → Prop} (C : Cx w base (env :: outer) env' A' g' L' n) (S : St c g' L' m' ((e, eObj d t0) :: (d, dictOf (xEnt ex (.str why t1) fn (.int at_ t2)) kx) :: news) s') (F : Fr g L g' (fun y => m.lookup y))
    (hk : ∀ q ∈ keep, q ∈ news) (k : ∀ s'', RX base (env :: outer) c g L m keep why fn at_ .none (.ref e) s'' → E (.ref e) s'') :
    wpAny (model PRG w) A' (leaving env' (.ref e)) (fun _ s'' => E (.ref e) s'') E' s' := by
  have nd := S.nd
  rw [List.map_cons, List.map_cons, List.nodup_cons] at nd
  exact x_first C S F (.head _) (.tail _ (.head _)) (fun q hq => .tail _ (.tail _ (hk q hq))) (fun q hq x => nd.1 (List.mem_cons.mpr (.inr (List.mem_map.mpr ⟨q, hk q hq, x⟩)))) (fun x => nd.1 (List.mem_cons.mpr (.inl x.symm))) k
theorem RX.sub {keep' : Led} (R : RX base l c g L m keep why fn at_ fl v s') (h : ∀ q ∈ keep', q ∈ keep) : RX base l c g L m keep' why fn at_ fl v s' := by
  obtain ⟨h1, h2, h3, f, e, d, B, ex, kx, t1, t2, rfl, st, hl, X⟩ := R
  refine ⟨h1, h2, h3, f, e, d, B, ex, kx, t1, t2, rfl, st, fun q hq => ?_, X⟩
  rcases List.mem_cons.mp hq with rfl | hq
  · exact hl _ (.head _)
  · exact hl q (.tail _ (h q hq))
end
end Mine
end
section
open PySem PySem.W PyProof.Rows PySem.Calls PySem.Spec
set_option maxHeartbeats 2000000
namespace Mine
noncomputable abbrev NV : List Value := [.ref 39, .ref 42, .ref 45, .ref 48, .ref 51, .ref 54, .ref 57, .ref 60, .ref 63, .ref 66, .ref 69, .ref 72]
noncomputable abbrev RNG : List (Int × Int) := [(69, 69), (70, 79), (80, 80), (81, 90), (103, 105), (106, 120), (121, 123), (124, 138), (167, 167), (172, 173), (192, 193), (194, 196)]
theorem nv_73 (w : World) : (Mine.hd.heap_1 w.params).lookup 73 = some (tup NV 0) := by kernel_rfl
noncomputable def rowAt (K : Frag) (a : Addr) (lo hi : Int) : Bool := match K.lookup a with
  | some ⟨.type "tuple", none, .seq xs _, _⟩ => (match xs.toList with | [.int l _, .int h _, .ref _, .ref _] => l == lo && h == hi | _ => false)
  | _ => false
theorem rowAt_of {K : Frag} {a : Addr} {lo hi : Int} (h : rowAt K a lo hi = true) {hp : Heap} (X : K.In hp) : ∃ t1 t2 p r, hp.IsTuple a [.int lo t1, .int hi t2, .ref p, .ref r].toArray := by
  unfold rowAt at h
  split at h
  · rename_i xs n sl ho
    split at h
    · rename_i l t1 h' t2 p r hx
      simp only [Bool.and_eq_true, beq_iff_eq] at h
      obtain ⟨rfl, rfl⟩ := h
      refine ⟨t1, t2, p, r, _, X _ _ ho, rfl, n, ?_⟩
      obtain ⟨xs⟩ := xs
      simp only at hx
      rw [hx]
    · cases h
  · cases h
theorem nv_rows (w : World) : (List.range 12).all (fun i => match NV[i]?, RNG[i]? with | some (.ref a), some p => rowAt (Mine.hd.heap_1 w.params) a p.1 p.2 | _, _ => false) = true := by kernel_rfl
theorem nv_at (w : World) {i : Nat} {v : Value} (h : NV[i]? = some v) : ∃ a p, v = .ref a ∧ p ∈ RNG ∧ rowAt (Mine.hd.heap_1 w.params) a p.1 p.2 = true := by
  have hi : i < 12 := (List.getElem?_eq_some_iff.mp h).1
  have q := List.all_eq_true.mp (nv_rows w) i (List.mem_range.mpr hi)
  rw [h] at q
  cases hr : RNG[i]? with
  | none => rw [hr] at q; cases v <;> cases q
  | some p =>
    rw [hr] at q
    cases v with
    | ref a => exact ⟨a, p, rfl, List.mem_of_getElem? hr, q⟩
    | _ => cases q
noncomputable abbrev KN : List (Int × PyData) := [(-1, .str "i32"), (-2, .str "i64"), (-16, .str "funcref"), (-17, .str "externref")]
theorem kn_22 (w : World) : KTD.keyedLook (fun b => (Mine.hd.heap_1 w.params).lookup b) 22 KN = true := by kernel_rfl
section
variable {w : World} {base : Heap} {outer : List Env} {env : Env} {A : Around} {c : Shared} {g g' : Heap} {L L' : Addr} {n : Nat} {m m' : Loc} {news news' : Led} {s : Shared} {E : Value → Shared → Prop}
theorem r_inKinds {i : Int} {t : Tok} {b : Bool} {Q : Value → Shared → Prop} (C : Cx w base outer env A g L n) (S : St c g L m news s) (hb : KTD.inKeys i KN = b) (k : ∀ s', St c g L m news s' → Q (.bool b) s') :
    wpAny (model PRG w) A (compareOp .In (.int i t) (.ref 22)) Q E s := by
  subst hb
  exact KTD.in_keyed (h₀ := s.heap) (kt_keyed_in (C.inK S) (kn_22 w)) (fun _ _ q => q) (k _ S.tok)
theorem r_inTup {a : Addr} {vs : List Value} {k' : Nat} {i : Int} {t : Tok} {b : Bool} {Q : Value → Shared → Prop} (S : St c g L m news s) (ha : (a, tup vs k') ∈ news) {ns : List Int} (hi : IntsAre vs ns) (hb : ns.any (· == i) = b) (k : Q (.bool b) s) :
    wpAny (model PRG w) A (compareOp .In (.int i t) (.ref a)) Q E s := by
  subst hb
  refine SeqAt.in_tupleAt (items := vs.toArray) (isInt i) ⟨_, S.get ha, rfl, _, rfl⟩ (fun y hy => (eq_isInt i t hi y (by simpa using hy)).at _ _) ?_
  rw [← Array.any_toList, show vs.toArray.toList = vs from rfl, any_isInt i hi]
  exact k
theorem r_inTupD {a : Addr} {vs : List Value} {k' : Nat} {i : Int} {t : Tok} {b : Bool} {Q : Value → Shared → Prop} (S : St c g L m ((a, tup vs k') :: news) s) {ns : List Int} (hi : IntsAre vs ns) (hb : ns.any (· == i) = b) (k : St c g L m news s → Q (.bool b) s) :
    wpAny (model PRG w) A (compareOp .In (.int i t) (.ref a)) Q E s := r_inTup S (.head _) hi hb (k S.tail)
end
end Mine
end
section
open PySem PySem.W PyProof.Rows PySem.Calls PySem.Spec
set_option maxHeartbeats 1000000
namespace Mine

theorem x_fail {w : World} {base : Heap} {outer : List Env} {env : Env} {A : Around} {c : Shared} {g : Heap} {L : Addr} {m : Loc} {rest : Led} {s : Shared} {Q E : Value → Shared → Prop} {me : Addr} {md : Addr} {vl : Addr} {bl : Addr} {e0 : Nat → Int × Tok} {vK : Value} {vF : Value} {vL : Value} {vR : Value} {kd : Nat} {keep : Led} {at_ : Int} {ta : Tok} {fni : Int} {tfn : Tok} {why : Str} {tw : Tok} (C : Cx w base outer env A g L 1)
    (S : St c g L m ((me, instObj 353 md) :: (md, dictOf (sEnt e0 vK vF (.int fni tfn) vL vR (.ref vl) (.ref bl) (.int at_ ta)) kd) :: rest) s) (hk : ∀ q ∈ keep, q ∈ rest) (kE : ∀ v s', RX base (env :: outer) c g L m keep why (.int fni tfn) at_ .none v s' → E v s') :
    wpAny (model PRG w) A (call (.ref 182) [.ref me, .str why tw]) Q E s := by
  refine' r_def C S (binds := [("why", .str why tw), ("self", .ref me)]) ?ho ?hcd ?hb ?hl ?_ ?c1 ?c2 ?c3 ?c4
  case ho => k_is
  case hcd => k_is
  case hb => exact BindsTo.of_eq rfl
  case hl => exact locs rfl
  case c1 => decide
  case c2 => exact rfl
  case c3 => exact rfl
  case c4 => exact rfl
  intro g1 L1 s1 C1 S1 F1; k_fold; refine r_cons ?_; refine r_raise C1 ?_; refine r_call ?_; refine r_glb C1 S1 (gl_Invalid w) ?_; refine r_callK (keep_124 w) ?_; refine spliced_more ?_; refine r_loc S1 rfl ?_; refine spliced_more ?_; (with_reducible refine q_atr C1 S1 (own_353_function w) M0 (M1 M0) fun s11 S11 => ?_; clear S1); refine spliced_more ?_; (with_reducible refine q_atr C1 S11 (own_353_at w) M0 (M1 M0) fun s15 S15 => ?_; clear S11); refine spliced_none ?_; refine ⟨C1.inK S15, ?_⟩; refine r_exc C1 S15 fun e18 d18 t18 x18 k18 s18 S18 => ?_; clear S15; refine ⟨_, _, _, rfl, C1.inK S18, S18.get (.head _), x_first' C1 S18 F1 (fun q hq => by repeat (first | exact hk q hq | refine List.Mem.tail _ ?_)) fun v' R => kE _ v' R⟩
end Mine
end
section
open PySem PySem.W PyProof.Rows PySem.Calls PySem.Spec
set_option maxHeartbeats 1000000
namespace Mine

theorem c_nk_none {w : World} {base : Heap} {outer : List Env} {env : Env} {A : Around} {c : Shared} {g : Heap} {L : Addr} {m : Loc} {rest : Led} {s : Shared} {Q E : Value → Shared → Prop} {code : Int} {t : Tok} (C : Cx w base outer env A g L 1) (S : St c g L m rest s) (hc : ∀ p ∈ RNG, ¬ (p.1 ≤ code ∧ code ≤ p.2))
    (k : ∀ s', St c g L m rest s' → Q .none s') : wpAny (model PRG w) A (call (.ref 80) [.int code t]) Q E s := by
  refine' r_def C S (binds := [("code", .int code t)]) ?ho ?hcd ?hb ?hl ?_ ?c1 ?c2 ?c3 ?c4
  case ho => k_is
  case hcd => k_is
  case hb => exact BindsTo.of_eq rfl
  case hl => exact locs rfl
  case c1 => decide
  case c2 => exact rfl
  case c3 => exact rfl
  case c4 => exact rfl
  intro g1 L1 s1 C1 S1 F1; k_fold; refine r_cons ?_; refine wpAny_For ?_; refine r_glb C1 S1 (gl_NUMBERS w) ?_; rename St _ _ _ _ _ _ => S90
  have T90 : IsTup (Shared.heap _) 73 NV.toArray := ⟨_, C1.inK S90 _ _ (nv_73 w), rfl, _, rfl⟩
  refine wpAny_pyIter_tuple T90 ?_; refine r_forTup (fun _ (m' : Loc) => m'.lookup ("code" : Str) = some (Value.int code t)) C1 (S90.push (o := tupIt 73 0) (tk := _)) (fun h X => ⟨_, X _ _ (nv_73 w), rfl, _, rfl⟩) (fun i v h => by obtain ⟨a, p, e, _⟩ := nv_at w h; exact ⟨a, e⟩) rfl ?_ ?_
  · rintro i m₁ o s₁ v hv hm hT S91
    obtain ⟨a, p, rfl, hp, hr⟩ := nv_at w hv
    obtain ⟨t1, t2, pa, ra, ht⟩ := rowAt_of hr (C1.inK S91)
    have hcc := hc p hp
    try k_fold
    refine r_unpackK C1 S91 ht rfl rfl fun s92 S92 => ?_
    by_cases hlo : p.1 ≤ code
    · have hhi : ¬ code ≤ p.2 := fun h => hcc ⟨hlo, h⟩
      refine r_orderN ?_; refine r_asg S92 fun s102 S102 => ?_; clear S92; refine r_orderN ?_; refine r_asg S102 fun s104 S104 => ?_; clear S102; refine r_orderN ?_; refine r_asg S104 fun s106 S106 => ?_; clear S104; refine r_orderN ?_; refine r_asg S106 fun s108 S108 => ?_; clear S106; refine r_order0 ?_; (with_reducible refine k_if ?_); refine isTrue_chain ?_; refine r_loc S108 rfl ?_; refine test_link ?_; refine r_loc S108 hm ?_; refine le_int ?_; refine wpAny_truthy_bool ?_; refine t_pos (by simp only [decide_eq_true_eq]; lia) ?_; refine test_last ?_; refine r_loc S108 rfl ?_; refine le_int ?_; refine wpAny_truthy_bool ?_; refine t_neg (by simp only [decide_eq_true_eq]; lia) ?_; refine wpAny_execs_nil ?_; (with_reducible refine k_sn ?_); rename St _ _ _ _ _ _ => S190; refine ⟨_, _, ?_, hT, S190⟩; exact hm
    · refine r_orderN ?_; refine r_asg S92 fun s152 S152 => ?_; clear S92; refine r_orderN ?_; refine r_asg S152 fun s154 S154 => ?_; clear S152; refine r_orderN ?_; refine r_asg S154 fun s156 S156 => ?_; clear S154; refine r_orderN ?_; refine r_asg S156 fun s158 S158 => ?_; clear S156; refine r_order0 ?_; (with_reducible refine k_if ?_); refine isTrue_chain ?_; refine r_loc S158 rfl ?_; refine test_link ?_; refine r_loc S158 hm ?_; refine le_int ?_; refine wpAny_truthy_bool ?_; refine t_neg (by simp only [decide_eq_true_eq]; lia) ?_; refine t_ff ?_; refine wpAny_execs_nil ?_; (with_reducible refine k_sn ?_); rename St _ _ _ _ _ _ => S190; refine ⟨_, _, ?_, hT, S190⟩; exact hm
  · rintro m₁ s₁ _ S91
    refine seq_next ?_
    try k_fold
    (with_reducible refine k_rt ?_); refine r_none ?_; refine seq_ret ?_; k_unfold; refine r_leave S91 fun S91 => ?_; exact k _ (by assumption)
theorem c_is_kind {w : World} {base : Heap} {outer : List Env} {env : Env} {A : Around} {c : Shared} {g : Heap} {L : Addr} {m : Loc} {rest : Led} {s : Shared} {Q E : Value → Shared → Prop} {i : Int} {t : Tok} {b : Bool} (C : Cx w base outer env A g L 1) (S : St c g L m rest s) (hb : KTD.inKeys i KN = b)
    (k : ∀ s', St c g L m rest s' → Q (.bool b) s') : wpAny (model PRG w) A (call (.ref 29) [.int i t]) Q E s := by
  refine' r_def C S (binds := [("kind", .int i t)]) ?ho ?hcd ?hb ?hl ?_ ?c1 ?c2 ?c3 ?c4
  case ho => k_is
  case hcd => k_is
  case hb => exact BindsTo.of_eq rfl
  case hl => exact locs rfl
  case c1 => decide
  case c2 => exact rfl
  case c3 => exact rfl
  case c4 => exact rfl
  intro g1 L1 s1 C1 S1 F1; k_fold; (with_reducible refine k_rt ?_); refine wpAny_Compare1 ?_; refine r_loc S1 rfl ?_; refine r_glb C1 S1 (gl_KIND_NAMES w) ?_; refine r_inKinds C1 S1 (by assumption) fun s306 S306 => ?_; clear S1; refine seq_ret ?_; k_unfold; refine r_leave S306 fun S306 => ?_; exact k _ (by assumption)
theorem c_is_nk {w : World} {base : Heap} {outer : List Env} {env : Env} {A : Around} {c : Shared} {g : Heap} {L : Addr} {m : Loc} {rest : Led} {s : Shared} {Q E : Value → Shared → Prop} {i : Int} {t : Tok} {b : Bool} (C : Cx w base outer env A g L 1) (S : St c g L m rest s) (hb : ([-1, -2, 0] : List Int).any (· == i) = b)
    (k : ∀ s', St c g L m rest s' → Q (.bool b) s') : wpAny (model PRG w) A (call (.ref 133) [.int i t]) Q E s := by
  refine' r_def C S (binds := [("kind", .int i t)]) ?ho ?hcd ?hb ?hl ?_ ?c1 ?c2 ?c3 ?c4
  case ho => k_is
  case hcd => k_is
  case hb => exact BindsTo.of_eq rfl
  case hl => exact locs rfl
  case c1 => decide
  case c2 => exact rfl
  case c3 => exact rfl
  case c4 => exact rfl
  intro g1 L1 s1 C1 S1 F1; k_fold; (with_reducible refine k_rt ?_); refine wpAny_Compare1 ?_; refine r_loc S1 rfl ?_; (with_reducible refine q_ev (gk C1 (gl_I32 w) (gk C1 (gl_I64 w) (gk C1 (gl_UNKNOWN w) g0))) S1 fun τ413 α413 s413 S413 => ?_; clear S1); refine r_inTup S413 (.head _) (.cons _ _ (.cons _ _ (.cons _ _ .nil))) (by assumption) ?_; refine seq_ret ?_; k_unfold; refine r_leave S413 fun S413 => ?_; rename St _ _ _ _ _ _ => S490; exact k _ S490.tail
theorem c_is_block {w : World} {base : Heap} {outer : List Env} {env : Env} {A : Around} {c : Shared} {g : Heap} {L : Addr} {m : Loc} {rest : Led} {s : Shared} {Q E : Value → Shared → Prop} {i : Int} {t : Tok} {b : Bool} (C : Cx w base outer env A g L 1) (S : St c g L m rest s) (hb : ([2, 3, 4] : List Int).any (· == i) = b)
    (k : ∀ s', St c g L m rest s' → Q (.bool b) s') : wpAny (model PRG w) A (call (.ref 87) [.int i t]) Q E s := by
  refine' r_def C S (binds := [("code", .int i t)]) ?ho ?hcd ?hb ?hl ?_ ?c1 ?c2 ?c3 ?c4
  case ho => k_is
  case hcd => k_is
  case hb => exact BindsTo.of_eq rfl
  case hl => exact locs rfl
  case c1 => decide
  case c2 => exact rfl
  case c3 => exact rfl
  case c4 => exact rfl
  intro g1 L1 s1 C1 S1 F1; k_fold; (with_reducible refine k_rt ?_); refine wpAny_Compare1 ?_; refine r_loc S1 rfl ?_; (with_reducible refine q_ev (gk C1 (gl_BLOCK w) (gk C1 (gl_LOOP w) (gk C1 (gl_IF w) g0))) S1 fun τ513 α513 s513 S513 => ?_; clear S1); refine r_inTup S513 (.head _) (.cons _ _ (.cons _ _ (.cons _ _ .nil))) (by assumption) ?_; refine seq_ret ?_; k_unfold; refine r_leave S513 fun S513 => ?_; rename St _ _ _ _ _ _ => S590; exact k _ S590.tail
end Mine
end
section
open PySem PySem.W PyProof.Rows PySem.Calls PySem.Spec
set_option maxHeartbeats 2000000
namespace Mine
theorem gl_EMPTY (w : World) : nsIn (Mine.hd.heap_1 w.params) mainGlobals "EMPTY" = some (some (.int (-64) 209)) := by kernel_rfl
structure Blk where
  a : Addr
  d : Addr
  e : Nat → Int × Tok
  code : Int
  tc : Tok
  p : Addr
  kp : Nat
  r : Addr
  kr : Nat
  h : Nat
  th : Tok
  dead : Bool
  k : Nat
noncomputable abbrev Blk.ent (b : Blk) : List DictEntry := bEnt b.e (.int b.code b.tc) (.ref b.p) (.ref b.r) (.int b.h b.th) (.bool b.dead) (.bool false)
noncomputable def ledB : List Blk → Led → Led
  | [], fx => fx
  | b :: bs, fx => (b.a, instObj 157 b.d) :: (b.d, dictOf b.ent b.k) :: ledB bs fx
noncomputable def refB : List Blk → List Value
  | [] => []
  | b :: bs => refB bs ++ [.ref b.a]
structure PS where
  n : Nat
  bs : List (Int × Nat × Bool)
noncomputable def Blk.abs (b : Blk) : Int × Nat × Bool := (b.code, b.h, b.dead)
theorem ledB_mem {q : Addr × Obj} {fx : Led} (h : q ∈ fx) : ∀ bs, q ∈ ledB bs fx
  | [] => h
  | _ :: bs => .tail _ (.tail _ (ledB_mem h bs))
theorem refB_len : ∀ bs, (refB bs).length = bs.length
  | [] => rfl
  | _ :: bs => by rw [refB, List.length_append, refB_len bs]; rfl
theorem refB_get : ∀ (bs : List Blk) (i : Nat) (hi : i < bs.length), (refB bs)[bs.length - 1 - i]? = some (.ref bs[i].a)
  | b :: bs, 0, _ => by
    rw [refB, List.getElem?_append_right (by rw [refB_len]; simp)]
    simp [refB_len]
  | b :: bs, i + 1, hi => by
    have hi' : i < bs.length := by simpa using hi
    rw [refB, List.getElem?_append_left (by rw [refB_len]; simp; lia)]
    have := refB_get bs i hi'
    simp only [List.length_cons, List.getElem_cons_succ]
    rw [← this]
    congr 1
    lia
theorem ledB_get : ∀ (bs : List Blk) (fx : Led) (i : Nat) (hi : i < bs.length), (bs[i].a, instObj 157 bs[i].d) ∈ ledB bs fx ∧ (bs[i].d, dictOf bs[i].ent bs[i].k) ∈ ledB bs fx
  | b :: bs, fx, 0, _ => ⟨.head _, .tail _ (.head _)⟩
  | b :: bs, fx, i + 1, hi => by
    have hi' : i < bs.length := by simpa using hi
    have := ledB_get bs fx i hi'
    exact ⟨.tail _ (.tail _ this.1), .tail _ (.tail _ this.2)⟩
section
variable (me md kl fl ll rl vl bl : Addr) (e0 : Nat → Int × Tok) (fni : Int) (tfn : Tok) (kd : Nat) (at_ : Int) (ta : Tok) (keep : Led)
noncomputable def Rep (p : PS) (news : Led) : Prop :=
  ∃ vals kv kb blks fx, news.Perm ((me, instObj 353 md) :: (md, dictOf (sEnt e0 (.ref kl) (.ref fl) (.int fni tfn) (.ref ll) (.ref rl) (.ref vl) (.ref bl) (.int at_ ta)) kd) :: (vl, lst vals kv) :: (bl, lst (refB blks) kb) :: ledB blks fx) ∧
    (∀ v ∈ vals, I32V v) ∧ vals.length = p.n ∧ blks.map Blk.abs = p.bs ∧ (∀ b ∈ blks, (b.p, tup [] b.kp) ∈ fx ∧ (b.r, tup [] b.kr) ∈ fx) ∧ (∀ q ∈ keep, q ∈ fx)
end
noncomputable def Does (w : World) (n : Nat) (f : Addr) (args : List Value) (c : Shared) (news : Led) (Post : Led → Prop) (X : Prop) (keep : Led) (why : Str) (fn : Value) (at_ : Int) : Prop :=
  ∀ ⦃base : Heap⦄ ⦃outer : List Env⦄ ⦃env : Env⦄ ⦃A : Around⦄ ⦃g : Heap⦄ ⦃L : Addr⦄ ⦃m : Loc⦄ ⦃s : Shared⦄ ⦃Q E : Value → Shared → Prop⦄, Cx w base outer env A g L n → St c g L m news s →
    (∀ v news' s', Post news' → St c g L m news' s' → Q v s') → (X → ∀ v s', RX base (env :: outer) c g L m keep why fn at_ .none v s' → E v s') → wpAny (model PRG w) A (call (.ref f) args) Q E s
theorem Does.le {w : World} {n n' : Nat} {f : Addr} {args : List Value} {c : Shared} {news : Led} {Post : Led → Prop} {X : Prop} {keep : Led} {why : Str} {fn : Value} {at_ : Int} (D : Does w n f args c news Post X keep why fn at_) (h : n ≤ n') : Does w n' f args c news Post X keep why fn at_ := by
  intro base outer env A g L m s Q E C S k kE; exact D (C.le h) S k kE
theorem Does.perm {w : World} {n : Nat} {f : Addr} {args : List Value} {c : Shared} {news news' : Led} {Post : Led → Prop} {X : Prop} {keep : Led} {why : Str} {fn : Value} {at_ : Int} (D : Does w n f args c news' Post X keep why fn at_) (h : news.Perm news') : Does w n f args c news Post X keep why fn at_ := by
  intro base outer env A g L m s Q E C S k kE; exact D C (S.perm h) k kE
theorem ledB_perm (xs fx : Led) : ∀ bs, (xs ++ ledB bs fx).Perm (ledB bs (xs ++ fx))
  | [] => .refl _
  | b :: bs => by
    show (xs ++ ((b.a, instObj 157 b.d) :: (b.d, dictOf b.ent b.k) :: ledB bs fx)).Perm ((b.a, instObj 157 b.d) :: (b.d, dictOf b.ent b.k) :: ledB bs (xs ++ fx))
    exact List.perm_middle.trans (.cons _ (List.perm_middle.trans (.cons _ (ledB_perm xs fx bs))))
end Mine
end
section
open PySem PySem.W PyProof.Rows PySem.Calls PySem.Spec
set_option maxHeartbeats 1000000
namespace Mine

section
variable {w : World} {c : Shared} {me md kl fl ll rl vl bl : Addr} {e0 : Nat → Int × Tok} {fni : Int} {tfn : Tok} {kd : Nat} {at_ : Int} {ta : Tok} {keep : Led} {news rest : Led}
variable {ins : Addr} {code : Int} {tk : Tok} {args : List Value} {ki n : Nat} {Post : Led → Prop} {X : Prop} {why : Str} {vL vR vK vF : Value}
theorem d_step_ctl (hR : news = (me, instObj 353 md) :: (md, dictOf (sEnt e0 (.ref kl) (.ref fl) (.int fni tfn) (.ref ll) (.ref rl) (.ref vl) (.ref bl) (.int at_ ta)) kd) :: rest) (hi : (ins, tup (.int code tk :: args) ki) ∈ rest) (hz : args.length ≤ 10) (hc : code ≤ 16 ∨ code = 18) (H : Does w n 308 [.ref me, .ref ins] c news Post X keep why (.int fni tfn) at_) :
    Does w (n + 1) 287 [.ref me, .ref ins] c news Post X keep why (.int fni tfn) at_ := by
  subst hR
  intro base outer env A g L m s Q E C S k kE; refine' r_def C S (binds := [("instruction", .ref ins), ("self", .ref me)]) ?ho ?hcd ?hb ?hl ?_ ?c1 ?c2 ?c3 ?c4
  case ho => k_is
  case hcd => k_is
  case hb => exact BindsTo.of_eq rfl
  case hl => exact locs rfl
  case c1 => decide
  case c2 => exact rfl
  case c3 => exact rfl
  case c4 => exact rfl
  intro g1 L1 s1 C1 S1 F1; k_fold; (with_reducible refine k_as ?_); refine Subscript_ ?_; refine r_loc S1 rfl ?_; refine r_int S1 fun t5 s5 S5 => ?_; clear S1; refine r_itemTn S5 (.tail _ (.tail _ hi)) (by decide) (by simp only [List.length_cons]; lia) (by simp only [List.length_cons]; lia) rfl ?_; (with_reducible refine k_st S5 fun s7 S7 => ?_; clear S5; refine k_if ?_); refine isTrue_or ?_; refine wpAny_isTrue_Compare1 ?_; refine r_loc S7 rfl ?_; refine r_int S7 fun t14 s14 S14 => ?_; clear S7; refine le_int ?_; refine wpAny_truthy_bool ?_
  by_cases h16 : code ≤ 16
  · refine t_pos (by simp only [beq_iff_eq, decide_eq_true_eq]; lia) ?_; refine t_tt ?_; (with_reducible refine k_ex ?_; refine q_meth0 C1 g0 S14 (meth_353_control w) M0 (M1 M0) (keep_308 w) ?_); refine H C1 S14 (fun v113 news113 s113 hp113 S113 => ?_) (fun x v s' R => x_on C1 R F1 (kE x _)); clear S14; (with_reducible refine k_sn ?_; refine k_sn ?_); k_unfold; refine r_leave S113 fun S113 => ?_
    rename Post _ => hp
    exact k _ _ _ hp (by assumption)
  · refine t_neg (by simp only [beq_iff_eq, decide_eq_true_eq]; lia) ?_; refine isTrue_or ?_; refine wpAny_isTrue_Compare1 ?_; refine r_loc S14 rfl ?_; refine r_int S14 fun t205 s205 S205 => ?_; clear S14; refine eq_int ?_; refine wpAny_truthy_bool ?_; refine t_pos (by simp only [beq_iff_eq, decide_eq_true_eq]; lia) ?_; refine t_tt ?_; (with_reducible refine k_ex ?_; refine q_meth0 C1 g0 S205 (meth_353_control w) M0 (M1 M0) (keep_308 w) ?_); refine H C1 S205 (fun v220 news220 s220 hp220 S220 => ?_) (fun x v s' R => x_on C1 R F1 (kE x _)); clear S205; (with_reducible refine k_sn ?_; refine k_sn ?_); k_unfold; refine r_leave S220 fun S220 => ?_
    rename Post _ => hp
    exact k _ _ _ hp (by assumption)
theorem d_step_loc (hR : news = (me, instObj 353 md) :: (md, dictOf (sEnt e0 (.ref kl) (.ref fl) (.int fni tfn) (.ref ll) (.ref rl) (.ref vl) (.ref bl) (.int at_ ta)) kd) :: rest) (hi : (ins, tup (.int code tk :: args) ki) ∈ rest) (hz : args.length ≤ 10) (h26 : 26 ≤ code) (h34 : code ≤ 34) (H : Does w n 343 [.ref me, .ref ins] c news Post X keep why (.int fni tfn) at_) :
    Does w (n + 1) 287 [.ref me, .ref ins] c news Post X keep why (.int fni tfn) at_ := by
  subst hR
  intro base outer env A g L m s Q E C S k kE; refine' r_def C S (binds := [("instruction", .ref ins), ("self", .ref me)]) ?ho ?hcd ?hb ?hl ?_ ?c1 ?c2 ?c3 ?c4
  case ho => k_is
  case hcd => k_is
  case hb => exact BindsTo.of_eq rfl
  case hl => exact locs rfl
  case c1 => decide
  case c2 => exact rfl
  case c3 => exact rfl
  case c4 => exact rfl
  intro g1 L1 s1 C1 S1 F1; k_fold; (with_reducible refine k_as ?_); refine Subscript_ ?_; refine r_loc S1 rfl ?_; refine r_int S1 fun t305 s305 S305 => ?_; clear S1; refine r_itemTn S305 (.tail _ (.tail _ hi)) (by decide) (by simp only [List.length_cons]; lia) (by simp only [List.length_cons]; lia) rfl ?_; (with_reducible refine k_st S305 fun s307 S307 => ?_; clear S305; refine k_if ?_); refine isTrue_or ?_; refine wpAny_isTrue_Compare1 ?_; refine r_loc S307 rfl ?_; refine r_int S307 fun t314 s314 S314 => ?_; clear S307; refine le_int ?_; refine wpAny_truthy_bool ?_; refine t_neg (by simp only [beq_iff_eq, decide_eq_true_eq]; lia) ?_; refine isTrue_or ?_; refine wpAny_isTrue_Compare1 ?_; refine r_loc S314 rfl ?_; refine r_int S314 fun t321 s321 S321 => ?_; clear S314; refine eq_int ?_; refine wpAny_truthy_bool ?_; refine t_neg (by simp only [beq_iff_eq, decide_eq_true_eq]; lia) ?_; refine isTrue_or_nil ?_; refine t_ff ?_; (with_reducible refine k_if ?_); refine isTrue_chain ?_; refine r_int S321 fun t330 s330 S330 => ?_; clear S321; refine test_link ?_; refine r_loc S330 rfl ?_; refine le_int ?_; refine wpAny_truthy_bool ?_; refine t_pos (by simp only [beq_iff_eq, decide_eq_true_eq]; lia) ?_; refine test_last ?_; refine r_int S330 fun t337 s337 S337 => ?_; clear S330; refine le_int ?_; refine wpAny_truthy_bool ?_; refine t_pos (by simp only [beq_iff_eq, decide_eq_true_eq]; lia) ?_; (with_reducible refine k_ex ?_; refine q_meth0 C1 g0 S337 (meth_353_local w) M0 (M1 M0) (keep_343 w) ?_); refine H C1 S337 (fun v351 news351 s351 hp351 S351 => ?_) (fun x v s' R => x_on C1 R F1 (kE x _)); clear S337; (with_reducible refine k_sn ?_; refine k_sn ?_; refine k_sn ?_); k_unfold; refine r_leave S351 fun S351 => ?_
  rename Post _ => hp
  exact k _ _ _ hp (by assumption)
theorem d_step_const {vals : List Value} {kv : Nat} (hR : news = (me, instObj 353 md) :: (md, dictOf (sEnt e0 (.ref kl) (.ref fl) (.int fni tfn) (.ref ll) (.ref rl) (.ref vl) (.ref bl) (.int at_ ta)) kd) :: (vl, lst vals kv) :: rest) (hi : (ins, tup (.int 65 tk :: args) ki) ∈ rest) (hz : args.length ≤ 10) (hzv : vals.length ≤ 1000)
    (hP : ∀ v kv', I32V v → Post ((me, instObj 353 md) :: (md, dictOf (sEnt e0 (.ref kl) (.ref fl) (.int fni tfn) (.ref ll) (.ref rl) (.ref vl) (.ref bl) (.int at_ ta)) kd) :: (vl, lst (vals ++ [v]) kv') :: rest)) :
    Does w 2 287 [.ref me, .ref ins] c news Post X keep why (.int fni tfn) at_ := by
  subst hR
  intro base outer env A g L m s Q E C S k kE; refine' r_def C S (binds := [("instruction", .ref ins), ("self", .ref me)]) ?ho ?hcd ?hb ?hl ?_ ?c1 ?c2 ?c3 ?c4
  case ho => k_is
  case hcd => k_is
  case hb => exact BindsTo.of_eq rfl
  case hl => exact locs rfl
  case c1 => decide
  case c2 => exact rfl
  case c3 => exact rfl
  case c4 => exact rfl
  intro g1 L1 s1 C1 S1 F1; k_fold; (with_reducible refine k_as ?_); refine Subscript_ ?_; refine r_loc S1 rfl ?_; refine r_int S1 fun t405 s405 S405 => ?_; clear S1; rename St _ _ _ _ _ _ => S490; refine r_itemTn S490 (.tail _ (.tail _ (.tail _ hi))) (by decide) (by simp only [List.length_cons]; lia) (by simp only [List.length_cons]; lia) rfl ?_; (with_reducible refine k_st S490 fun s451 S451 => ?_; clear S490; refine k_if ?_); refine isTrue_or ?_; refine wpAny_isTrue_Compare1 ?_; refine r_loc S451 rfl ?_; refine r_int S451 fun t458 s458 S458 => ?_; clear S451; refine le_int ?_; refine wpAny_truthy_bool ?_; refine t_neg (by simp only [beq_iff_eq, decide_eq_true_eq]; lia) ?_; refine isTrue_or ?_; refine wpAny_isTrue_Compare1 ?_; refine r_loc S458 rfl ?_; refine r_int S458 fun t465 s465 S465 => ?_; clear S458; refine eq_int ?_; refine wpAny_truthy_bool ?_; refine t_neg (by simp only [beq_iff_eq, decide_eq_true_eq]; lia) ?_; refine isTrue_or_nil ?_; refine t_ff ?_; (with_reducible refine k_if ?_); refine isTrue_chain ?_; refine r_int S465 fun t474 s474 S474 => ?_; clear S465; refine test_link ?_; refine r_loc S474 rfl ?_; refine le_int ?_; refine wpAny_truthy_bool ?_; refine t_pos (by simp only [beq_iff_eq, decide_eq_true_eq]; lia) ?_; refine test_last ?_; refine r_int S474 fun t481 s481 S481 => ?_; clear S474; refine le_int ?_; refine wpAny_truthy_bool ?_; refine t_neg (by simp only [beq_iff_eq, decide_eq_true_eq]; lia) ?_; (with_reducible refine q_if g0 S481 fun τ489 α489 s489 S489 => ?_; clear S481); refine t_tt ?_; (with_reducible refine k_ex ?_; refine q_meth0 C1 (gk C1 (gl_I32 w) g0) S489 (meth_353_push w) M0 (M1 M0) (keep_189 w) ?_); rename St _ _ _ _ _ _ => S499; refine c_push (C1.le (by decide)) S499 hzv fun s500 S500 => ?_; (with_reducible refine k_sn ?_; refine k_sn ?_; refine k_sn ?_; refine k_sn ?_); k_unfold; refine r_leave S500 fun S500 => ?_; exact k _ _ _ (hP _ _ ⟨_, rfl⟩) (by assumption)
theorem d_step_num (hR : news = (me, instObj 353 md) :: (md, dictOf (sEnt e0 (.ref kl) (.ref fl) (.int fni tfn) (.ref ll) (.ref rl) (.ref vl) (.ref bl) (.int at_ ta)) kd) :: rest) (hi : (ins, tup (.int code tk :: args) ki) ∈ rest) (hz : args.length ≤ 10) (h69 : 69 ≤ code) (h196 : code ≤ 196) (H : Does w n 301 [.ref me, .int code tk] c news Post X keep why (.int fni tfn) at_) :
    Does w (n + 1) 287 [.ref me, .ref ins] c news Post X keep why (.int fni tfn) at_ := by
  subst hR
  intro base outer env A g L m s Q E C S k kE; refine' r_def C S (binds := [("instruction", .ref ins), ("self", .ref me)]) ?ho ?hcd ?hb ?hl ?_ ?c1 ?c2 ?c3 ?c4
  case ho => k_is
  case hcd => k_is
  case hb => exact BindsTo.of_eq rfl
  case hl => exact locs rfl
  case c1 => decide
  case c2 => exact rfl
  case c3 => exact rfl
  case c4 => exact rfl
  intro g1 L1 s1 C1 S1 F1; k_fold; (with_reducible refine k_as ?_); refine Subscript_ ?_; refine r_loc S1 rfl ?_; refine r_int S1 fun t505 s505 S505 => ?_; clear S1; refine r_itemTn S505 (.tail _ (.tail _ hi)) (by decide) (by simp only [List.length_cons]; lia) (by simp only [List.length_cons]; lia) rfl ?_; (with_reducible refine k_st S505 fun s507 S507 => ?_; clear S505; refine k_if ?_); refine isTrue_or ?_; refine wpAny_isTrue_Compare1 ?_; refine r_loc S507 rfl ?_; refine r_int S507 fun t514 s514 S514 => ?_; clear S507; refine le_int ?_; refine wpAny_truthy_bool ?_; refine t_neg (by simp only [beq_iff_eq, decide_eq_true_eq]; lia) ?_; refine isTrue_or ?_; refine wpAny_isTrue_Compare1 ?_; refine r_loc S514 rfl ?_; refine r_int S514 fun t521 s521 S521 => ?_; clear S514; refine eq_int ?_; refine wpAny_truthy_bool ?_; refine t_neg (by simp only [beq_iff_eq, decide_eq_true_eq]; lia) ?_; refine isTrue_or_nil ?_; refine t_ff ?_; (with_reducible refine k_if ?_); refine isTrue_chain ?_; refine r_int S521 fun t530 s530 S530 => ?_; clear S521; refine test_link ?_; refine r_loc S530 rfl ?_; refine le_int ?_; refine wpAny_truthy_bool ?_; refine t_pos (by simp only [beq_iff_eq, decide_eq_true_eq]; lia) ?_; refine test_last ?_; refine r_int S530 fun t537 s537 S537 => ?_; clear S530; refine le_int ?_; refine wpAny_truthy_bool ?_; refine t_neg (by simp only [beq_iff_eq, decide_eq_true_eq]; lia) ?_; (with_reducible refine q_if g0 S537 fun τ545 α545 s545 S545 => ?_; clear S537); refine t_neg (by simp only [beq_iff_eq, decide_eq_true_eq]; lia) ?_; (with_reducible refine q_if g0 S545 fun τ553 α553 s553 S553 => ?_; clear S545); refine t_neg (by simp only [beq_iff_eq, decide_eq_true_eq]; lia) ?_; (with_reducible refine k_if ?_); refine isTrue_chain ?_; refine r_int S553 fun t560 s560 S560 => ?_; clear S553; refine test_link ?_; refine r_loc S560 rfl ?_; refine le_int ?_; refine wpAny_truthy_bool ?_; refine t_pos (by simp only [beq_iff_eq, decide_eq_true_eq]; lia) ?_; refine test_last ?_; refine r_int S560 fun t567 s567 S567 => ?_; clear S560; refine le_int ?_; refine wpAny_truthy_bool ?_; refine t_pos (by simp only [beq_iff_eq, decide_eq_true_eq]; lia) ?_; (with_reducible refine k_ex ?_; refine q_meth0 C1 g0 S567 (meth_353_number w) M0 (M1 M0) (keep_301 w) ?_); refine H C1 S567 (fun v581 news581 s581 hp581 S581 => ?_) (fun x v s' R => x_on C1 R F1 (kE x _)); clear S567; (with_reducible refine k_sn ?_; refine k_sn ?_; refine k_sn ?_; refine k_sn ?_; refine k_sn ?_; refine k_sn ?_); k_unfold; refine r_leave S581 fun S581 => ?_
  rename Post _ => hp
  exact k _ _ _ hp (by assumption)
theorem d_step_more (hR : news = (me, instObj 353 md) :: (md, dictOf (sEnt e0 (.ref kl) (.ref fl) (.int fni tfn) (.ref ll) (.ref rl) (.ref vl) (.ref bl) (.int at_ ta)) kd) :: rest) (hi : (ins, tup (.int code tk :: args) ki) ∈ rest) (hz : args.length ≤ 10) (hc : (19 ≤ code ∧ code ≤ 25) ∨ code = 17 ∨ (35 ≤ code ∧ code ≤ 64) ∨ (67 ≤ code ∧ code ≤ 68) ∨ 197 ≤ code) (H : Does w n 294 [.ref me, .ref ins] c news Post X keep why (.int fni tfn) at_) :
    Does w (n + 1) 287 [.ref me, .ref ins] c news Post X keep why (.int fni tfn) at_ := by
  subst hR
  intro base outer env A g L m s Q E C S k kE; refine' r_def C S (binds := [("instruction", .ref ins), ("self", .ref me)]) ?ho ?hcd ?hb ?hl ?_ ?c1 ?c2 ?c3 ?c4
  case ho => k_is
  case hcd => k_is
  case hb => exact BindsTo.of_eq rfl
  case hl => exact locs rfl
  case c1 => decide
  case c2 => exact rfl
  case c3 => exact rfl
  case c4 => exact rfl
  intro g1 L1 s1 C1 S1 F1; k_fold
  by_cases h26 : 26 ≤ code
  · by_cases h69 : 69 ≤ code
    · (with_reducible refine k_as ?_); refine Subscript_ ?_; refine r_loc S1 rfl ?_; refine r_int S1 fun t605 s605 S605 => ?_; clear S1; refine r_itemTn S605 (.tail _ (.tail _ hi)) (by decide) (by simp only [List.length_cons]; lia) (by simp only [List.length_cons]; lia) rfl ?_; (with_reducible refine k_st S605 fun s607 S607 => ?_; clear S605; refine k_if ?_); refine isTrue_or ?_; refine wpAny_isTrue_Compare1 ?_; refine r_loc S607 rfl ?_; refine r_int S607 fun t614 s614 S614 => ?_; clear S607; refine le_int ?_; refine wpAny_truthy_bool ?_; refine t_neg (by simp only [beq_iff_eq, decide_eq_true_eq]; lia) ?_; refine isTrue_or ?_; refine wpAny_isTrue_Compare1 ?_; refine r_loc S614 rfl ?_; refine r_int S614 fun t621 s621 S621 => ?_; clear S614; refine eq_int ?_; refine wpAny_truthy_bool ?_; refine t_neg (by simp only [beq_iff_eq, decide_eq_true_eq]; lia) ?_; refine isTrue_or_nil ?_; refine t_ff ?_; (with_reducible refine k_if ?_); refine isTrue_chain ?_; refine r_int S621 fun t630 s630 S630 => ?_; clear S621; refine test_link ?_; refine r_loc S630 rfl ?_; refine le_int ?_; refine wpAny_truthy_bool ?_; refine t_pos (by simp only [beq_iff_eq, decide_eq_true_eq]; lia) ?_; refine test_last ?_; refine r_int S630 fun t637 s637 S637 => ?_; clear S630; refine le_int ?_; refine wpAny_truthy_bool ?_; refine t_neg (by simp only [beq_iff_eq, decide_eq_true_eq]; lia) ?_; (with_reducible refine q_if g0 S637 fun τ645 α645 s645 S645 => ?_; clear S637); refine t_neg (by simp only [beq_iff_eq, decide_eq_true_eq]; lia) ?_; (with_reducible refine q_if g0 S645 fun τ653 α653 s653 S653 => ?_; clear S645); refine t_neg (by simp only [beq_iff_eq, decide_eq_true_eq]; lia) ?_; (with_reducible refine k_if ?_); refine isTrue_chain ?_; refine r_int S653 fun t660 s660 S660 => ?_; clear S653; refine test_link ?_; refine r_loc S660 rfl ?_; refine le_int ?_; refine wpAny_truthy_bool ?_; refine t_pos (by simp only [beq_iff_eq, decide_eq_true_eq]; lia) ?_; refine test_last ?_; refine r_int S660 fun t667 s667 S667 => ?_; clear S660; refine le_int ?_; refine wpAny_truthy_bool ?_; refine t_neg (by simp only [beq_iff_eq, decide_eq_true_eq]; lia) ?_; (with_reducible refine k_ex ?_; refine q_meth0 C1 g0 S667 (meth_353_more w) M0 (M1 M0) (keep_294 w) ?_); refine H C1 S667 (fun v681 news681 s681 hp681 S681 => ?_) (fun x v s' R => x_on C1 R F1 (kE x _)); clear S667; (with_reducible refine k_sn ?_; refine k_sn ?_; refine k_sn ?_; refine k_sn ?_; refine k_sn ?_; refine k_sn ?_); k_unfold; refine r_leave S681 fun S681 => ?_
      rename Post _ => hp
      exact k _ _ _ hp (by assumption)
    · (with_reducible refine k_as ?_); refine Subscript_ ?_; refine r_loc S1 rfl ?_; refine r_int S1 fun t705 s705 S705 => ?_; clear S1; refine r_itemTn S705 (.tail _ (.tail _ hi)) (by decide) (by simp only [List.length_cons]; lia) (by simp only [List.length_cons]; lia) rfl ?_; (with_reducible refine k_st S705 fun s707 S707 => ?_; clear S705; refine k_if ?_); refine isTrue_or ?_; refine wpAny_isTrue_Compare1 ?_; refine r_loc S707 rfl ?_; refine r_int S707 fun t714 s714 S714 => ?_; clear S707; refine le_int ?_; refine wpAny_truthy_bool ?_; refine t_neg (by simp only [beq_iff_eq, decide_eq_true_eq]; lia) ?_; refine isTrue_or ?_; refine wpAny_isTrue_Compare1 ?_; refine r_loc S714 rfl ?_; refine r_int S714 fun t721 s721 S721 => ?_; clear S714; refine eq_int ?_; refine wpAny_truthy_bool ?_; refine t_neg (by simp only [beq_iff_eq, decide_eq_true_eq]; lia) ?_; refine isTrue_or_nil ?_; refine t_ff ?_; (with_reducible refine k_if ?_); refine isTrue_chain ?_; refine r_int S721 fun t730 s730 S730 => ?_; clear S721; refine test_link ?_; refine r_loc S730 rfl ?_; refine le_int ?_; refine wpAny_truthy_bool ?_; refine t_pos (by simp only [beq_iff_eq, decide_eq_true_eq]; lia) ?_; refine test_last ?_; refine r_int S730 fun t737 s737 S737 => ?_; clear S730; refine le_int ?_; refine wpAny_truthy_bool ?_; refine t_neg (by simp only [beq_iff_eq, decide_eq_true_eq]; lia) ?_; (with_reducible refine q_if g0 S737 fun τ745 α745 s745 S745 => ?_; clear S737); refine t_neg (by simp only [beq_iff_eq, decide_eq_true_eq]; lia) ?_; (with_reducible refine q_if g0 S745 fun τ753 α753 s753 S753 => ?_; clear S745); refine t_neg (by simp only [beq_iff_eq, decide_eq_true_eq]; lia) ?_; (with_reducible refine k_if ?_); refine isTrue_chain ?_; refine r_int S753 fun t760 s760 S760 => ?_; clear S753; refine test_link ?_; refine r_loc S760 rfl ?_; refine le_int ?_; refine wpAny_truthy_bool ?_; refine t_neg (by simp only [beq_iff_eq, decide_eq_true_eq]; lia) ?_; refine t_ff ?_; (with_reducible refine k_ex ?_; refine q_meth0 C1 g0 S760 (meth_353_more w) M0 (M1 M0) (keep_294 w) ?_); refine H C1 S760 (fun v777 news777 s777 hp777 S777 => ?_) (fun x v s' R => x_on C1 R F1 (kE x _)); clear S760; (with_reducible refine k_sn ?_; refine k_sn ?_; refine k_sn ?_; refine k_sn ?_; refine k_sn ?_; refine k_sn ?_); k_unfold; refine r_leave S777 fun S777 => ?_
      rename Post _ => hp
      exact k _ _ _ hp (by assumption)
  · (with_reducible refine k_as ?_); refine Subscript_ ?_; refine r_loc S1 rfl ?_; refine r_int S1 fun t805 s805 S805 => ?_; clear S1; refine r_itemTn S805 (.tail _ (.tail _ hi)) (by decide) (by simp only [List.length_cons]; lia) (by simp only [List.length_cons]; lia) rfl ?_; (with_reducible refine k_st S805 fun s807 S807 => ?_; clear S805; refine k_if ?_); refine isTrue_or ?_; refine wpAny_isTrue_Compare1 ?_; refine r_loc S807 rfl ?_; refine r_int S807 fun t814 s814 S814 => ?_; clear S807; refine le_int ?_; refine wpAny_truthy_bool ?_; refine t_neg (by simp only [beq_iff_eq, decide_eq_true_eq]; lia) ?_; refine isTrue_or ?_; refine wpAny_isTrue_Compare1 ?_; refine r_loc S814 rfl ?_; refine r_int S814 fun t821 s821 S821 => ?_; clear S814; refine eq_int ?_; refine wpAny_truthy_bool ?_; refine t_neg (by simp only [beq_iff_eq, decide_eq_true_eq]; lia) ?_; refine isTrue_or_nil ?_; refine t_ff ?_; (with_reducible refine k_if ?_); refine isTrue_chain ?_; refine r_int S821 fun t830 s830 S830 => ?_; clear S821; refine test_link ?_; refine r_loc S830 rfl ?_; refine le_int ?_; refine wpAny_truthy_bool ?_; refine t_neg (by simp only [beq_iff_eq, decide_eq_true_eq]; lia) ?_; refine t_ff ?_; (with_reducible refine q_if g0 S830 fun τ841 α841 s841 S841 => ?_; clear S830); refine t_neg (by simp only [beq_iff_eq, decide_eq_true_eq]; lia) ?_; (with_reducible refine q_if g0 S841 fun τ849 α849 s849 S849 => ?_; clear S841); refine t_neg (by simp only [beq_iff_eq, decide_eq_true_eq]; lia) ?_; (with_reducible refine k_if ?_); refine isTrue_chain ?_; refine r_int S849 fun t856 s856 S856 => ?_; clear S849; refine test_link ?_; refine r_loc S856 rfl ?_; refine le_int ?_; refine wpAny_truthy_bool ?_; refine t_neg (by simp only [beq_iff_eq, decide_eq_true_eq]; lia) ?_; refine t_ff ?_; (with_reducible refine k_ex ?_; refine q_meth0 C1 g0 S856 (meth_353_more w) M0 (M1 M0) (keep_294 w) ?_); refine H C1 S856 (fun v873 news873 s873 hp873 S873 => ?_) (fun x v s' R => x_on C1 R F1 (kE x _)); clear S856; (with_reducible refine k_sn ?_; refine k_sn ?_; refine k_sn ?_; refine k_sn ?_; refine k_sn ?_; refine k_sn ?_); k_unfold; refine r_leave S873 fun S873 => ?_
    rename Post _ => hp
    exact k _ _ _ hp (by assumption)
end
end Mine
end
section
open PySem PySem.W PyProof.Rows PySem.Calls PySem.Spec
set_option maxHeartbeats 1000000
namespace Mine

section
variable {w : World} {c : Shared} {me md kl fl ll rl vl bl : Addr} {e0 : Nat → Int × Tok} {fni : Int} {tfn : Tok} {kd : Nat} {at_ : Int} {ta : Tok} {keep : Led} {news rest : Led}
variable {ins : Addr} {tk : Tok} {a1 a2 : Value} {args : List Value} {ki n : Nat} {Post : Led → Prop}
theorem d_more (hR : news = (me, instObj 353 md) :: (md, dictOf (sEnt e0 (.ref kl) (.ref fl) (.int fni tfn) (.ref ll) (.ref rl) (.ref vl) (.ref bl) (.int at_ ta)) kd) :: rest) (hk : ∀ q ∈ keep, q ∈ rest) : Does w 2 294 [.ref me, .ref ins] c news Post True keep "illegal opcode" (.int fni tfn) at_ := by
  subst hR
  intro base outer env A g L m s Q E C S k kE; refine' r_def C S (binds := [("instruction", .ref ins), ("self", .ref me)]) ?ho ?hcd ?hb ?hl ?_ ?c1 ?c2 ?c3 ?c4
  case ho => k_is
  case hcd => k_is
  case hb => exact BindsTo.of_eq rfl
  case hl => exact locs rfl
  case c1 => decide
  case c2 => exact rfl
  case c3 => exact rfl
  case c4 => exact rfl
  intro g1 L1 s1 C1 S1 F1; k_fold; (with_reducible refine k_ex ?_; refine q_meth C1 g0 S1 (meth_353_fail w) M0 (M1 M0) (keep_182 w) fun τ8 α8 s8 S8 => ?_; clear S1); exact x_fail (C1.le (by decide)) S8 (fun q hq => by repeat (first | exact hk q hq | refine List.Mem.tail _ ?_)) fun v s' R => x_on C1 R F1 (kE trivial _)
theorem d_num {code : Int} (hR : news = (me, instObj 353 md) :: (md, dictOf (sEnt e0 (.ref kl) (.ref fl) (.int fni tfn) (.ref ll) (.ref rl) (.ref vl) (.ref bl) (.int at_ ta)) kd) :: rest) (hk : ∀ q ∈ keep, q ∈ rest) (hnk : ∀ p ∈ RNG, ¬ (p.1 ≤ code ∧ code ≤ p.2)) : Does w 2 301 [.ref me, .int code tk] c news Post True keep "illegal opcode" (.int fni tfn) at_ := by
  subst hR
  intro base outer env A g L m s Q E C S k kE; refine' r_def C S (binds := [("code", .int code tk), ("self", .ref me)]) ?ho ?hcd ?hb ?hl ?_ ?c1 ?c2 ?c3 ?c4
  case ho => k_is
  case hcd => k_is
  case hb => exact BindsTo.of_eq rfl
  case hl => exact locs rfl
  case c1 => decide
  case c2 => exact rfl
  case c3 => exact rfl
  case c4 => exact rfl
  intro g1 L1 s1 C1 S1 F1; k_fold; (with_reducible refine k_as ?_; refine q_call0 C1 g0 S1 (gl_number_kind w) (keep_80 w) ?_); refine c_nk_none (C1.le (by decide)) S1 hnk fun s110 S110 => ?_; clear S1; (with_reducible refine k_st S110 fun s111 S111 => ?_; clear S110; refine k_if ?_); refine wpAny_isTrue_Compare1 ?_; refine r_loc S111 rfl ?_; refine r_none ?_; refine is_none_none ?_; refine wpAny_truthy_bool ?_; refine t_tt ?_; (with_reducible refine k_ex ?_; refine q_meth C1 g0 S111 (meth_353_fail w) M0 (M1 M0) (keep_182 w) fun τ128 α128 s128 S128 => ?_; clear S111); exact x_fail (C1.le (by decide)) S128 (fun q hq => by repeat (first | exact hk q hq | refine List.Mem.tail _ ?_)) fun v s' R => x_on C1 R F1 (kE trivial _)
theorem d_loc_bad {code : Int} (hR : news = (me, instObj 353 md) :: (md, dictOf (sEnt e0 (.ref kl) (.ref fl) (.int fni tfn) (.ref ll) (.ref rl) (.ref vl) (.ref bl) (.int at_ ta)) kd) :: rest) (hk : ∀ q ∈ keep, q ∈ rest) (hi : (ins, tup [.int code tk, a1, a2] ki) ∈ rest) (hc : 29 ≤ code ∧ code ≤ 31) : Does w 2 343 [.ref me, .ref ins] c news Post True keep "illegal opcode" (.int fni tfn) at_ := by
  subst hR
  intro base outer env A g L m s Q E C S k kE
  have hc' : code = 29 ∨ code = 30 ∨ code = 31 := by lia
  rcases hc' with rfl | rfl | rfl
  · skip; refine' r_def C S (binds := [("instruction", .ref ins), ("self", .ref me)]) ?ho ?hcd ?hb ?hl ?_ ?c1 ?c2 ?c3 ?c4
    case ho => k_is
    case hcd => k_is
    case hb => exact BindsTo.of_eq rfl
    case hl => exact locs rfl
    case c1 => decide
    case c2 => exact rfl
    case c3 => exact rfl
    case c4 => exact rfl
    intro g1 L1 s1 C1 S1 F1; k_fold; (with_reducible refine k_as ?_; refine q_itT g0 S1 (M1 (M1 (hi))) (by with_unfolding_all exact fun _ _ => rfl) (by decide) (by decide) rfl rfl fun s205 S205 => ?_; clear S1; refine k_st S205 fun s207 S207 => ?_; clear S205; refine q_if g0 S207 fun τ213 α213 s213 S213 => ?_; clear S207); refine t_neg (by simp only [beq_iff_eq, decide_eq_true_eq]; lia) ?_; (with_reducible refine k_if ?_); refine wpAny_isTrue_Compare1 ?_; refine r_loc S213 rfl ?_; (with_reducible refine q_ev g0 S213 fun τ227 α227 s227 S227 => ?_; clear S213); refine r_inTupD S227 (.cons _ _ (.cons _ _ .nil)) rfl fun S228 => ?_; clear S227; refine wpAny_truthy_bool ?_; refine t_ff ?_; (with_reducible refine q_if g0 S228 fun τ235 α235 s235 S235 => ?_; clear S228); refine t_pos (by simp only [beq_iff_eq, decide_eq_true_eq]; lia) ?_; (with_reducible refine k_ex ?_; refine q_meth C1 g0 S235 (meth_353_fail w) M0 (M1 M0) (keep_182 w) fun τ246 α246 s246 S246 => ?_; clear S235); exact x_fail (C1.le (by decide)) S246 (fun q hq => by repeat (first | exact hk q hq | refine List.Mem.tail _ ?_)) fun v s' R => x_on C1 R F1 (kE trivial _)
  · skip; refine' r_def C S (binds := [("instruction", .ref ins), ("self", .ref me)]) ?ho ?hcd ?hb ?hl ?_ ?c1 ?c2 ?c3 ?c4
    case ho => k_is
    case hcd => k_is
    case hb => exact BindsTo.of_eq rfl
    case hl => exact locs rfl
    case c1 => decide
    case c2 => exact rfl
    case c3 => exact rfl
    case c4 => exact rfl
    intro g1 L1 s1 C1 S1 F1; k_fold; (with_reducible refine k_as ?_; refine q_itT g0 S1 (M1 (M1 (hi))) (by with_unfolding_all exact fun _ _ => rfl) (by decide) (by decide) rfl rfl fun s305 S305 => ?_; clear S1; refine k_st S305 fun s307 S307 => ?_; clear S305; refine q_if g0 S307 fun τ313 α313 s313 S313 => ?_; clear S307); refine t_neg (by simp only [beq_iff_eq, decide_eq_true_eq]; lia) ?_; (with_reducible refine k_if ?_); refine wpAny_isTrue_Compare1 ?_; refine r_loc S313 rfl ?_; (with_reducible refine q_ev g0 S313 fun τ327 α327 s327 S327 => ?_; clear S313); refine r_inTupD S327 (.cons _ _ (.cons _ _ .nil)) rfl fun S328 => ?_; clear S327; refine wpAny_truthy_bool ?_; refine t_ff ?_; (with_reducible refine q_if g0 S328 fun τ335 α335 s335 S335 => ?_; clear S328); refine t_pos (by simp only [beq_iff_eq, decide_eq_true_eq]; lia) ?_; (with_reducible refine k_ex ?_; refine q_meth C1 g0 S335 (meth_353_fail w) M0 (M1 M0) (keep_182 w) fun τ346 α346 s346 S346 => ?_; clear S335); exact x_fail (C1.le (by decide)) S346 (fun q hq => by repeat (first | exact hk q hq | refine List.Mem.tail _ ?_)) fun v s' R => x_on C1 R F1 (kE trivial _)
  · skip; refine' r_def C S (binds := [("instruction", .ref ins), ("self", .ref me)]) ?ho ?hcd ?hb ?hl ?_ ?c1 ?c2 ?c3 ?c4
    case ho => k_is
    case hcd => k_is
    case hb => exact BindsTo.of_eq rfl
    case hl => exact locs rfl
    case c1 => decide
    case c2 => exact rfl
    case c3 => exact rfl
    case c4 => exact rfl
    intro g1 L1 s1 C1 S1 F1; k_fold; (with_reducible refine k_as ?_; refine q_itT g0 S1 (M1 (M1 (hi))) (by with_unfolding_all exact fun _ _ => rfl) (by decide) (by decide) rfl rfl fun s405 S405 => ?_; clear S1; refine k_st S405 fun s407 S407 => ?_; clear S405; refine q_if g0 S407 fun τ413 α413 s413 S413 => ?_; clear S407); refine t_neg (by simp only [beq_iff_eq, decide_eq_true_eq]; lia) ?_; (with_reducible refine k_if ?_); refine wpAny_isTrue_Compare1 ?_; refine r_loc S413 rfl ?_; (with_reducible refine q_ev g0 S413 fun τ427 α427 s427 S427 => ?_; clear S413); refine r_inTupD S427 (.cons _ _ (.cons _ _ .nil)) rfl fun S428 => ?_; clear S427; refine wpAny_truthy_bool ?_; refine t_ff ?_; (with_reducible refine q_if g0 S428 fun τ435 α435 s435 S435 => ?_; clear S428); refine t_pos (by simp only [beq_iff_eq, decide_eq_true_eq]; lia) ?_; (with_reducible refine k_ex ?_; refine q_meth C1 g0 S435 (meth_353_fail w) M0 (M1 M0) (keep_182 w) fun τ446 α446 s446 S446 => ?_; clear S435); exact x_fail (C1.le (by decide)) S446 (fun q hq => by repeat (first | exact hk q hq | refine List.Mem.tail _ ?_)) fun v s' R => x_on C1 R F1 (kE trivial _)
theorem d_ctl_bad {code : Int} (hR : news = (me, instObj 353 md) :: (md, dictOf (sEnt e0 (.ref kl) (.ref fl) (.int fni tfn) (.ref ll) (.ref rl) (.ref vl) (.ref bl) (.int at_ ta)) kd) :: rest) (hk : ∀ q ∈ keep, q ∈ rest) (hi : (ins, tup [.int code tk, a1, a2] ki) ∈ rest) (hc : code = 6 ∨ code = 7 ∨ code = 10) : Does w 2 308 [.ref me, .ref ins] c news Post True keep "illegal opcode" (.int fni tfn) at_ := by
  subst hR
  intro base outer env A g L m s Q E C S k kE
  rcases hc with rfl | rfl | rfl
  · skip; refine' r_def C S (binds := [("instruction", .ref ins), ("self", .ref me)]) ?ho ?hcd ?hb ?hl ?_ ?c1 ?c2 ?c3 ?c4
    case ho => k_is
    case hcd => k_is
    case hb => exact BindsTo.of_eq rfl
    case hl => exact locs rfl
    case c1 => decide
    case c2 => exact rfl
    case c3 => exact rfl
    case c4 => exact rfl
    intro g1 L1 s1 C1 S1 F1; k_fold; (with_reducible refine k_as ?_; refine q_itT g0 S1 (M1 (M1 (hi))) (by with_unfolding_all exact fun _ _ => rfl) (by decide) (by decide) rfl rfl fun s505 S505 => ?_; clear S1; refine k_st S505 fun s507 S507 => ?_; clear S505; refine q_if g0 S507 fun τ513 α513 s513 S513 => ?_; clear S507); refine t_neg (by simp only [beq_iff_eq, decide_eq_true_eq]; lia) ?_; (with_reducible refine k_if ?_); refine isTrue_plain ?_; (with_reducible refine q_call0 C1 g0 S513 (gl_is_block w) (keep_87 w) ?_); refine c_is_block (C1.le (by decide)) S513 rfl fun s527 S527 => ?_; clear S513; refine wpAny_truthy_bool ?_; refine t_ff ?_; (with_reducible refine k_if ?_); refine wpAny_isTrue_Compare1 ?_; refine r_loc S527 rfl ?_; refine r_glb C1 S527 (gl_ELSE w) ?_; refine eq_int ?_; refine wpAny_truthy_bool ?_; refine t_neg (by simp only [beq_iff_eq, decide_eq_true_eq]; lia) ?_; (with_reducible refine q_if g0 S527 fun τ542 α542 s542 S542 => ?_; clear S527); refine t_neg (by simp only [beq_iff_eq, decide_eq_true_eq]; lia) ?_; (with_reducible refine k_if ?_); refine wpAny_isTrue_Compare1 ?_; refine r_loc S542 rfl ?_; (with_reducible refine q_ev g0 S542 fun τ558 α558 s558 S558 => ?_; clear S542); refine r_inTupD S558 (.cons _ _ (.cons _ _ (.cons _ _ .nil))) rfl fun S559 => ?_; clear S558; refine wpAny_truthy_bool ?_; refine t_ff ?_; (with_reducible refine q_if g0 S559 fun τ566 α566 s566 S566 => ?_; clear S559); refine t_neg (by simp only [beq_iff_eq, decide_eq_true_eq]; lia) ?_; (with_reducible refine q_if g0 S566 fun τ574 α574 s574 S574 => ?_; clear S566); refine t_neg (by simp only [beq_iff_eq, decide_eq_true_eq]; lia) ?_; (with_reducible refine q_if g0 S574 fun τ582 α582 s582 S582 => ?_; clear S574); refine t_tt ?_; (with_reducible refine k_ex ?_; refine q_meth C1 g0 S582 (meth_353_fail w) M0 (M1 M0) (keep_182 w) fun τ593 α593 s593 S593 => ?_; clear S582); exact x_fail (C1.le (by decide)) S593 (fun q hq => by repeat (first | exact hk q hq | refine List.Mem.tail _ ?_)) fun v s' R => x_on C1 R F1 (kE trivial _)
  · skip; refine' r_def C S (binds := [("instruction", .ref ins), ("self", .ref me)]) ?ho ?hcd ?hb ?hl ?_ ?c1 ?c2 ?c3 ?c4
    case ho => k_is
    case hcd => k_is
    case hb => exact BindsTo.of_eq rfl
    case hl => exact locs rfl
    case c1 => decide
    case c2 => exact rfl
    case c3 => exact rfl
    case c4 => exact rfl
    intro g1 L1 s1 C1 S1 F1; k_fold; (with_reducible refine k_as ?_; refine q_itT g0 S1 (M1 (M1 (hi))) (by with_unfolding_all exact fun _ _ => rfl) (by decide) (by decide) rfl rfl fun s605 S605 => ?_; clear S1; refine k_st S605 fun s607 S607 => ?_; clear S605; refine q_if g0 S607 fun τ613 α613 s613 S613 => ?_; clear S607); refine t_neg (by simp only [beq_iff_eq, decide_eq_true_eq]; lia) ?_; (with_reducible refine k_if ?_); refine isTrue_plain ?_; (with_reducible refine q_call0 C1 g0 S613 (gl_is_block w) (keep_87 w) ?_); refine c_is_block (C1.le (by decide)) S613 rfl fun s627 S627 => ?_; clear S613; refine wpAny_truthy_bool ?_; refine t_ff ?_; (with_reducible refine k_if ?_); refine wpAny_isTrue_Compare1 ?_; refine r_loc S627 rfl ?_; refine r_glb C1 S627 (gl_ELSE w) ?_; refine eq_int ?_; refine wpAny_truthy_bool ?_; refine t_neg (by simp only [beq_iff_eq, decide_eq_true_eq]; lia) ?_; (with_reducible refine q_if g0 S627 fun τ642 α642 s642 S642 => ?_; clear S627); refine t_neg (by simp only [beq_iff_eq, decide_eq_true_eq]; lia) ?_; (with_reducible refine k_if ?_); refine wpAny_isTrue_Compare1 ?_; refine r_loc S642 rfl ?_; (with_reducible refine q_ev g0 S642 fun τ658 α658 s658 S658 => ?_; clear S642); refine r_inTupD S658 (.cons _ _ (.cons _ _ (.cons _ _ .nil))) rfl fun S659 => ?_; clear S658; refine wpAny_truthy_bool ?_; refine t_ff ?_; (with_reducible refine q_if g0 S659 fun τ666 α666 s666 S666 => ?_; clear S659); refine t_neg (by simp only [beq_iff_eq, decide_eq_true_eq]; lia) ?_; (with_reducible refine q_if g0 S666 fun τ674 α674 s674 S674 => ?_; clear S666); refine t_neg (by simp only [beq_iff_eq, decide_eq_true_eq]; lia) ?_; (with_reducible refine q_if g0 S674 fun τ682 α682 s682 S682 => ?_; clear S674); refine t_tt ?_; (with_reducible refine k_ex ?_; refine q_meth C1 g0 S682 (meth_353_fail w) M0 (M1 M0) (keep_182 w) fun τ693 α693 s693 S693 => ?_; clear S682); exact x_fail (C1.le (by decide)) S693 (fun q hq => by repeat (first | exact hk q hq | refine List.Mem.tail _ ?_)) fun v s' R => x_on C1 R F1 (kE trivial _)
  · skip; refine' r_def C S (binds := [("instruction", .ref ins), ("self", .ref me)]) ?ho ?hcd ?hb ?hl ?_ ?c1 ?c2 ?c3 ?c4
    case ho => k_is
    case hcd => k_is
    case hb => exact BindsTo.of_eq rfl
    case hl => exact locs rfl
    case c1 => decide
    case c2 => exact rfl
    case c3 => exact rfl
    case c4 => exact rfl
    intro g1 L1 s1 C1 S1 F1; k_fold; (with_reducible refine k_as ?_; refine q_itT g0 S1 (M1 (M1 (hi))) (by with_unfolding_all exact fun _ _ => rfl) (by decide) (by decide) rfl rfl fun s705 S705 => ?_; clear S1; refine k_st S705 fun s707 S707 => ?_; clear S705; refine q_if g0 S707 fun τ713 α713 s713 S713 => ?_; clear S707); refine t_neg (by simp only [beq_iff_eq, decide_eq_true_eq]; lia) ?_; (with_reducible refine k_if ?_); refine isTrue_plain ?_; (with_reducible refine q_call0 C1 g0 S713 (gl_is_block w) (keep_87 w) ?_); refine c_is_block (C1.le (by decide)) S713 rfl fun s727 S727 => ?_; clear S713; refine wpAny_truthy_bool ?_; refine t_ff ?_; (with_reducible refine k_if ?_); refine wpAny_isTrue_Compare1 ?_; refine r_loc S727 rfl ?_; refine r_glb C1 S727 (gl_ELSE w) ?_; refine eq_int ?_; refine wpAny_truthy_bool ?_; refine t_neg (by simp only [beq_iff_eq, decide_eq_true_eq]; lia) ?_; (with_reducible refine q_if g0 S727 fun τ742 α742 s742 S742 => ?_; clear S727); refine t_neg (by simp only [beq_iff_eq, decide_eq_true_eq]; lia) ?_; (with_reducible refine k_if ?_); refine wpAny_isTrue_Compare1 ?_; refine r_loc S742 rfl ?_; (with_reducible refine q_ev g0 S742 fun τ758 α758 s758 S758 => ?_; clear S742); refine r_inTupD S758 (.cons _ _ (.cons _ _ (.cons _ _ .nil))) rfl fun S759 => ?_; clear S758; refine wpAny_truthy_bool ?_; refine t_ff ?_; (with_reducible refine q_if g0 S759 fun τ766 α766 s766 S766 => ?_; clear S759); refine t_neg (by simp only [beq_iff_eq, decide_eq_true_eq]; lia) ?_; (with_reducible refine q_if g0 S766 fun τ774 α774 s774 S774 => ?_; clear S766); refine t_neg (by simp only [beq_iff_eq, decide_eq_true_eq]; lia) ?_; (with_reducible refine q_if g0 S774 fun τ782 α782 s782 S782 => ?_; clear S774); refine t_tt ?_; (with_reducible refine k_ex ?_; refine q_meth C1 g0 S782 (meth_353_fail w) M0 (M1 M0) (keep_182 w) fun τ793 α793 s793 S793 => ?_; clear S782); exact x_fail (C1.le (by decide)) S793 (fun q hq => by repeat (first | exact hk q hq | refine List.Mem.tail _ ?_)) fun v s' R => x_on C1 R F1 (kE trivial _)
end
end Mine
end
section
open PySem PySem.W PyProof.Rows PySem.Calls PySem.Spec
set_option maxHeartbeats 1000000
namespace Mine

section
variable {w : World} {c : Shared} {me md kl fl ll rl vl bl : Addr} {e0 : Nat → Int × Tok} {fni : Int} {tfn : Tok} {kd : Nat} {at_ : Int} {ta : Tok} {keep : Led} {news rest : Led}
variable {x1 x2 x3 x4 : Addr × Obj} {tk : Tok} {kvs : List Value} {kk : Nat} {told : Int}
theorem f_bk0 {w : World} {base : Heap} {outer : List Env} {env : Env} {A : Around} {c : Shared} {g : Heap} {L : Addr} {m : Loc} {news : Led} {s : Shared} {Q E : Value → Shared → Prop} {kv : Value} (C : Cx w base outer env A g L 1) (S : St c g L m news s)
    (k : ∀ pr p r s', St c g L m ((pr, tup [.ref p, .ref r] 0) :: (r, tup [] 0) :: (p, tup [] 0) :: news) s' → Q (.ref pr) s') :
    wpAny (model PRG w) A (call (.ref 36) [kv, .int (-64) tk]) Q E s := by
  refine' r_def C S (binds := [("told", .int (-64) tk), ("kinds", kv)]) ?ho ?hcd ?hb ?hl ?_ ?c1 ?c2 ?c3 ?c4
  case ho => k_is
  case hcd => k_is
  case hb => exact BindsTo.of_eq rfl
  case hl => exact locs rfl
  case c1 => decide
  case c2 => exact rfl
  case c3 => exact rfl
  case c4 => exact rfl
  intro g1 L1 s1 C1 S1 F1; k_fold; (with_reducible refine k_if ?_); refine wpAny_isTrue_Compare1 ?_; refine r_loc S1 rfl ?_; refine r_glb C1 S1 (gl_EMPTY w) ?_; refine eq_int ?_; refine wpAny_truthy_bool ?_; refine t_tt ?_; (with_reducible refine q_rt g0 S1 fun τ21 α21 s21 S21 => ?_; clear S1); refine seq_ret ?_; k_unfold; refine r_leave S21 fun S21 => ?_; exact k _ _ _ _ (by assumption)
theorem f_bk1 {w : World} {base : Heap} {outer : List Env} {env : Env} {A : Around} {c : Shared} {g : Heap} {L : Addr} {m : Loc} {news : Led} {s : Shared} {Q E : Value → Shared → Prop} {v : Value} (C : Cx w base outer env A g L 1) (S : St c g L m news s) (hk0 : (kl, lst kvs kk) ∈ news) (h0 : 0 ≤ told) (hz : kvs.length ≤ 1000) (h1 : told < kvs.length) (hx : kvs[told.toNat]? = some v)
    (k : ∀ s', St c g L m news s' → Q v s') :
    wpAny (model PRG w) A (call (.ref 36) [.ref kl, .int told tk]) Q E s := by
  refine' r_def C S (binds := [("told", .int told tk), ("kinds", .ref kl)]) ?ho ?hcd ?hb ?hl ?_ ?c1 ?c2 ?c3 ?c4
  case ho => k_is
  case hcd => k_is
  case hb => exact BindsTo.of_eq rfl
  case hl => exact locs rfl
  case c1 => decide
  case c2 => exact rfl
  case c3 => exact rfl
  case c4 => exact rfl
  intro g1 L1 s1 C1 S1 F1; k_fold; (with_reducible refine k_if ?_); refine wpAny_isTrue_Compare1 ?_; refine r_loc S1 rfl ?_; refine r_glb C1 S1 (gl_EMPTY w) ?_; refine eq_int ?_; refine wpAny_truthy_bool ?_; refine t_neg (by simp only [beq_iff_eq, decide_eq_true_eq]; lia) ?_; refine wpAny_execs_nil ?_; refine seq_next ?_; (with_reducible refine q_if g0 S1 fun τ115 α115 s115 S115 => ?_; clear S1); refine t_neg (by simp only [beq_iff_eq, decide_eq_true_eq]; lia) ?_; refine wpAny_execs_nil ?_; refine seq_next ?_; (with_reducible refine k_rt ?_); refine wpAny_IfExp ?_; refine wpAny_isTrue_Compare1 ?_; refine r_loc S115 rfl ?_; (with_reducible refine q_callB0 C1 g0 S115 (bb_len w) .B ?_); refine r_len S115 (hk0) (by lia) fun t132 s132 S132 => ?_; clear S115; refine lt_int ?_; refine wpAny_truthy_bool ?_; refine t_pos (by simp only [beq_iff_eq, decide_eq_true_eq]; lia) ?_; refine Subscript_ ?_; refine r_loc S132 rfl ?_; refine r_loc S132 rfl ?_; refine r_item S132 hk0 (by lia) (by lia) hx ?_; refine seq_ret ?_; k_unfold; refine r_leave S132 fun S132 => ?_; exact k _ (by assumption)
theorem f_bk2 {w : World} {base : Heap} {outer : List Env} {env : Env} {A : Around} {c : Shared} {g : Heap} {L : Addr} {m : Loc} {news : Led} {s : Shared} {Q E : Value → Shared → Prop} (C : Cx w base outer env A g L 1) (S : St c g L m news s) (hk0 : (kl, lst kvs kk) ∈ news) (h0 : 0 ≤ told) (hz : kvs.length ≤ 1000) (h1 : kvs.length ≤ told)
    (k : ∀ s', St c g L m news s' → Q .none s') :
    wpAny (model PRG w) A (call (.ref 36) [.ref kl, .int told tk]) Q E s := by
  refine' r_def C S (binds := [("told", .int told tk), ("kinds", .ref kl)]) ?ho ?hcd ?hb ?hl ?_ ?c1 ?c2 ?c3 ?c4
  case ho => k_is
  case hcd => k_is
  case hb => exact BindsTo.of_eq rfl
  case hl => exact locs rfl
  case c1 => decide
  case c2 => exact rfl
  case c3 => exact rfl
  case c4 => exact rfl
  intro g1 L1 s1 C1 S1 F1; k_fold; (with_reducible refine k_if ?_); refine wpAny_isTrue_Compare1 ?_; refine r_loc S1 rfl ?_; refine r_glb C1 S1 (gl_EMPTY w) ?_; refine eq_int ?_; refine wpAny_truthy_bool ?_; refine t_neg (by simp only [beq_iff_eq, decide_eq_true_eq]; lia) ?_; refine wpAny_execs_nil ?_; refine seq_next ?_; (with_reducible refine q_if g0 S1 fun τ215 α215 s215 S215 => ?_; clear S1); refine t_neg (by simp only [beq_iff_eq, decide_eq_true_eq]; lia) ?_; refine wpAny_execs_nil ?_; refine seq_next ?_; (with_reducible refine k_rt ?_); refine wpAny_IfExp ?_; refine wpAny_isTrue_Compare1 ?_; refine r_loc S215 rfl ?_; (with_reducible refine q_callB0 C1 g0 S215 (bb_len w) .B ?_); refine r_len S215 (hk0) (by lia) fun t232 s232 S232 => ?_; clear S215; refine lt_int ?_; refine wpAny_truthy_bool ?_; refine t_neg (by simp only [beq_iff_eq, decide_eq_true_eq]; lia) ?_; refine r_none ?_; refine seq_ret ?_; k_unfold; refine r_leave S232 fun S232 => ?_; exact k _ (by assumption)
theorem c_bk0 {w : World} {base : Heap} {outer : List Env} {env : Env} {A : Around} {c : Shared} {g : Heap} {L : Addr} {m : Loc} {rest : Led} {s : Shared} {Q E : Value → Shared → Prop} (C : Cx w base outer env A g L 2) (S : St c g L m ((me, instObj 353 md) :: (md, dictOf (sEnt e0 (.ref kl) (.ref fl) (.int fni tfn) (.ref ll) (.ref rl) (.ref vl) (.ref bl) (.int at_ ta)) kd) :: rest) s)
    (k : ∀ pr p r s', St c g L m ((pr, tup [.ref p, .ref r] 0) :: (r, tup [] 0) :: (p, tup [] 0) :: (me, instObj 353 md) :: (md, dictOf (sEnt e0 (.ref kl) (.ref fl) (.int fni tfn) (.ref ll) (.ref rl) (.ref vl) (.ref bl) (.int at_ ta)) kd) :: rest) s' → Q (.ref pr) s') :
    wpAny (model PRG w) A (call (.ref 252) [.ref me, .int (-64) tk]) Q E s := by
  refine' r_def C S (binds := [("told", .int (-64) tk), ("self", .ref me)]) ?ho ?hcd ?hb ?hl ?_ ?c1 ?c2 ?c3 ?c4
  case ho => k_is
  case hcd => k_is
  case hb => exact BindsTo.of_eq rfl
  case hl => exact locs rfl
  case c1 => decide
  case c2 => exact rfl
  case c3 => exact rfl
  case c4 => exact rfl
  intro g1 L1 s1 C1 S1 F1; k_fold; (with_reducible refine k_as ?_); refine r_call ?_; refine r_glb C1 S1 (gl_block_kind_kinds w) ?_; refine r_callK (keep_36 w) ?_; refine spliced_more ?_; (with_reducible refine q_atr C1 S1 (own_353_kinds w) M0 (M1 M0) fun s309 S309 => ?_; clear S1; refine q_sp0 g0 S309 ?_); refine ⟨C1.inK S309, ?_⟩; refine f_bk0 (C1.le (by decide)) S309 fun pr314 p314 r314 s314 S314 => ?_; clear S309; (with_reducible refine k_st S314 fun s315 S315 => ?_; clear S314; refine k_if ?_); refine wpAny_isTrue_Compare1 ?_; refine r_loc S315 rfl ?_; refine r_none ?_; refine is_none_ne (by simp) ?_; refine wpAny_truthy_bool ?_; refine t_ff ?_; refine wpAny_execs_nil ?_; refine seq_next ?_; (with_reducible refine k_rt ?_); refine r_loc S315 rfl ?_; refine seq_ret ?_; k_unfold; refine r_leave S315 fun S315 => ?_; exact k _ _ _ _ (by assumption)
theorem c_bk1 {w : World} {base : Heap} {outer : List Env} {env : Env} {A : Around} {c : Shared} {g : Heap} {L : Addr} {m : Loc} {rest : Led} {s : Shared} {Q E : Value → Shared → Prop} {ka : Addr} (C : Cx w base outer env A g L 2) (S : St c g L m ((me, instObj 353 md) :: (md, dictOf (sEnt e0 (.ref kl) (.ref fl) (.int fni tfn) (.ref ll) (.ref rl) (.ref vl) (.ref bl) (.int at_ ta)) kd) :: rest) s) (hk0 : (kl, lst kvs kk) ∈ rest) (h0 : 0 ≤ told) (hz : kvs.length ≤ 1000) (h1 : told < kvs.length) (hx : kvs[told.toNat]? = some (.ref ka))
    (k : ∀ s', St c g L m ((me, instObj 353 md) :: (md, dictOf (sEnt e0 (.ref kl) (.ref fl) (.int fni tfn) (.ref ll) (.ref rl) (.ref vl) (.ref bl) (.int at_ ta)) kd) :: rest) s' → Q (.ref ka) s') :
    wpAny (model PRG w) A (call (.ref 252) [.ref me, .int told tk]) Q E s := by
  refine' r_def C S (binds := [("told", .int told tk), ("self", .ref me)]) ?ho ?hcd ?hb ?hl ?_ ?c1 ?c2 ?c3 ?c4
  case ho => k_is
  case hcd => k_is
  case hb => exact BindsTo.of_eq rfl
  case hl => exact locs rfl
  case c1 => decide
  case c2 => exact rfl
  case c3 => exact rfl
  case c4 => exact rfl
  intro g1 L1 s1 C1 S1 F1; k_fold; (with_reducible refine k_as ?_); refine r_call ?_; refine r_glb C1 S1 (gl_block_kind_kinds w) ?_; refine r_callK (keep_36 w) ?_; refine spliced_more ?_; (with_reducible refine q_atr C1 S1 (own_353_kinds w) M0 (M1 M0) fun s409 S409 => ?_; clear S1; refine q_sp0 g0 S409 ?_); refine ⟨C1.inK S409, ?_⟩; refine f_bk1 (C1.le (by decide)) S409 (.tail _ (.tail _ hk0)) h0 hz h1 hx fun s414 S414 => ?_; clear S409; (with_reducible refine k_st S414 fun s415 S415 => ?_; clear S414; refine k_if ?_); refine wpAny_isTrue_Compare1 ?_; refine r_loc S415 rfl ?_; refine r_none ?_; refine is_none_ne (by simp) ?_; refine wpAny_truthy_bool ?_; refine t_ff ?_; refine wpAny_execs_nil ?_; refine seq_next ?_; (with_reducible refine k_rt ?_); refine r_loc S415 rfl ?_; refine seq_ret ?_; k_unfold; refine r_leave S415 fun S415 => ?_; exact k _ (by assumption)
theorem c_bk2 {w : World} {base : Heap} {outer : List Env} {env : Env} {A : Around} {c : Shared} {g : Heap} {L : Addr} {m : Loc} {rest : Led} {s : Shared} {Q E : Value → Shared → Prop} (C : Cx w base outer env A g L 2) (S : St c g L m ((me, instObj 353 md) :: (md, dictOf (sEnt e0 (.ref kl) (.ref fl) (.int fni tfn) (.ref ll) (.ref rl) (.ref vl) (.ref bl) (.int at_ ta)) kd) :: rest) s) (hk0 : (kl, lst kvs kk) ∈ rest) (h0 : 0 ≤ told) (hz : kvs.length ≤ 1000) (h1 : kvs.length ≤ told) (hk : ∀ q ∈ keep, q ∈ rest)
    (kE : True → ∀ v s', RX base (env :: outer) c g L m keep "unknown type" (.int fni tfn) at_ .none v s' → E v s') :
    wpAny (model PRG w) A (call (.ref 252) [.ref me, .int told tk]) Q E s := by
  refine' r_def C S (binds := [("told", .int told tk), ("self", .ref me)]) ?ho ?hcd ?hb ?hl ?_ ?c1 ?c2 ?c3 ?c4
  case ho => k_is
  case hcd => k_is
  case hb => exact BindsTo.of_eq rfl
  case hl => exact locs rfl
  case c1 => decide
  case c2 => exact rfl
  case c3 => exact rfl
  case c4 => exact rfl
  intro g1 L1 s1 C1 S1 F1; k_fold; (with_reducible refine k_as ?_); refine r_call ?_; refine r_glb C1 S1 (gl_block_kind_kinds w) ?_; refine r_callK (keep_36 w) ?_; refine spliced_more ?_; (with_reducible refine q_atr C1 S1 (own_353_kinds w) M0 (M1 M0) fun s509 S509 => ?_; clear S1; refine q_sp0 g0 S509 ?_); refine ⟨C1.inK S509, ?_⟩; refine f_bk2 (C1.le (by decide)) S509 (.tail _ (.tail _ hk0)) h0 hz h1 fun s514 S514 => ?_; clear S509; (with_reducible refine k_st S514 fun s515 S515 => ?_; clear S514; refine k_if ?_); refine wpAny_isTrue_Compare1 ?_; refine r_loc S515 rfl ?_; refine r_none ?_; refine is_none_none ?_; refine wpAny_truthy_bool ?_; refine t_tt ?_; (with_reducible refine k_ex ?_; refine q_meth C1 g0 S515 (meth_353_fail w) M0 (M1 M0) (keep_182 w) fun τ532 α532 s532 S532 => ?_; clear S515); exact x_fail (C1.le (by decide)) S532 (fun q hq => by repeat (first | exact hk q hq | refine List.Mem.tail _ ?_)) fun v s' R => x_on C1 R F1 (kE trivial _)
end
end Mine
end
section
open PySem PySem.W PyProof.Rows PySem.Calls PySem.Spec
set_option maxHeartbeats 1000000
namespace Mine

theorem c_pop_all0 {w : World} {base : Heap} {outer : List Env} {env : Env} {A : Around} {c : Shared} {g : Heap} {L : Addr} {m : Loc} {rest : Led} {s : Shared} {Q E : Value → Shared → Prop} {me : Addr} {md : Addr} {vl : Addr} {bl : Addr} {e0 : Nat → Int × Tok} {vK : Value} {vF : Value} {vN : Value} {vL : Value} {vR : Value} {vA : Value} {kd : Nat} {kv : Nat} {kb : Nat} {vals : List Value} {bvs : List Value} {ba : Addr} {bd : Addr} {e1 : Nat → Int × Tok} {bC : Value} {bP : Value} {bR : Value} {bh : Int} {th : Tok} {dead : Bool} {kbd : Nat} {t : Addr} {kt : Nat} (C : Cx w base outer env A g L 3)
    (S : St c g L m ((me, instObj 353 md) :: (md, dictOf (sEnt e0 vK vF vN vL vR (.ref vl) (.ref bl) vA) kd) :: (vl, lst vals kv) :: (bl, lst (bvs ++ [.ref ba]) kb) :: (ba, instObj 157 bd) :: (bd, dictOf (bEnt e1 bC bP bR (.int bh th) (.bool dead) (.bool false)) kbd) :: rest) s)
    (ht : (t, tup [] kt) ∈ rest) (hz : vals.length ≤ 900) (hz2 : bvs.length ≤ 1000) (hh : bh ≤ vals.length)
    (k : ∀ fl kv' s', St c g L m ((me, instObj 353 md) :: (md, dictOf (sEnt e0 vK vF vN vL vR (.ref vl) (.ref bl) vA) kd) :: (vl, lst vals kv') :: (bl, lst (bvs ++ [.ref ba]) kb) :: (ba, instObj 157 bd) :: (bd, dictOf (bEnt e1 bC bP bR (.int bh th) (.bool dead) (.bool false)) kbd) :: rest) s' → Q (.ref fl) s') :
    wpAny (model PRG w) A (call (.ref 217) [.ref me, .ref t]) Q E s := by
  refine c_pop_all (ks := []) (pv := []) C (by rw [List.append_nil]; exact S) ht (fun _ h => nomatch h) (fun _ h => nomatch h) rfl (by decide) hz hz2 hh fun fl found fk kv' s' _ S' => k fl kv' s' S'.tail
section
variable {w : World} {c : Shared} {me md kl fl ll rl vl bl : Addr} {e0 : Nat → Int × Tok} {fni : Int} {tfn : Tok} {kd : Nat} {at_ : Int} {ta : Tok} {keep : Led} {news rest : Led}
variable {ins : Addr} {a1 a2 : Value} {tk tk2 : Tok} {kvs : List Value} {kk ki : Nat} {told code : Int} {Post : Led → Prop}
variable {ba bd : Addr} {e1 : Nat → Int × Tok} {bC bP bR : Value} {th : Tok} {kbd : Nat} {vals bvs : List Value} {kv kb : Nat} {bh : Nat}
theorem d_blk0 (hR : news = (me, instObj 353 md) :: (md, dictOf (sEnt e0 (.ref kl) (.ref fl) (.int fni tfn) (.ref ll) (.ref rl) (.ref vl) (.ref bl) (.int at_ ta)) kd) :: (vl, lst vals kv) :: (bl, lst (bvs ++ [.ref ba]) kb) :: (ba, instObj 157 bd) :: (bd, dictOf (bEnt e1 bC bP bR (.int bh th) (.bool false) (.bool false)) kbd) :: rest)
    (hi : (ins, tup [.int code tk, .int (-64) tk2] ki) ∈ rest) (hc : code = 2 ∨ code = 3) (hz : vals.length ≤ 900) (hz2 : bvs.length ≤ 1000) (hh : bh ≤ vals.length)
    (hP : ∀ kv' kb' x dx e tc th' kd' p r pr, Post ((me, instObj 353 md) :: (md, dictOf (sEnt e0 (.ref kl) (.ref fl) (.int fni tfn) (.ref ll) (.ref rl) (.ref vl) (.ref bl) (.int at_ ta)) kd) :: (vl, lst vals kv') :: (bl, lst (bvs ++ [.ref ba] ++ [.ref x]) kb') :: (x, instObj 157 dx) :: (dx, dictOf (bEnt e (.int code tc) (.ref p) (.ref r) (.int vals.length th') (.bool false) (.bool false)) kd') :: 
      (ba, instObj 157 bd) :: (bd, dictOf (bEnt e1 bC bP bR (.int bh th) (.bool false) (.bool false)) kbd) :: (pr, tup [.ref p, .ref r] 0) :: (r, tup [] 0) :: (p, tup [] 0) :: rest)) :
    Does w 6 308 [.ref me, .ref ins] c news Post False keep "" (.int fni tfn) at_ := by
  subst hR
  intro base outer env A g L m s Q E C S k kE
  rcases hc with rfl | rfl
  · skip; refine' r_def C S (binds := [("instruction", .ref ins), ("self", .ref me)]) ?ho ?hcd ?hb ?hl ?_ ?c1 ?c2 ?c3 ?c4
    case ho => k_is
    case hcd => k_is
    case hb => exact BindsTo.of_eq rfl
    case hl => exact locs rfl
    case c1 => decide
    case c2 => exact rfl
    case c3 => exact rfl
    case c4 => exact rfl
    intro g1 L1 s1 C1 S1 F1; k_fold; (with_reducible refine k_as ?_; refine q_itT g0 S1 (M1 (M1 (M1 (M1 (M1 (M1 (hi))))))) (by with_unfolding_all exact fun _ _ => rfl) (by decide) (by decide) rfl rfl fun s105 S105 => ?_; clear S1; refine k_st S105 fun s107 S107 => ?_; clear S105; refine q_if g0 S107 fun τ113 α113 s113 S113 => ?_; clear S107); refine t_neg (by simp only [beq_iff_eq, decide_eq_true_eq]; lia) ?_; (with_reducible refine k_if ?_); refine isTrue_plain ?_; (with_reducible refine q_call0 C1 g0 S113 (gl_is_block w) (keep_87 w) ?_); refine c_is_block (C1.le (by decide)) S113 rfl fun s127 S127 => ?_; clear S113; refine wpAny_truthy_bool ?_; refine t_tt ?_; (with_reducible refine k_if ?_); refine wpAny_isTrue_Compare1 ?_; refine r_loc S127 rfl ?_; refine r_glb C1 S127 (gl_IF w) ?_; refine eq_int ?_; refine wpAny_truthy_bool ?_; refine t_neg (by simp only [beq_iff_eq, decide_eq_true_eq]; lia) ?_; refine wpAny_execs_nil ?_; refine seq_next ?_; refine r_cons ?_; refine Assign_Tuple ?_; refine r_meth ?_; refine r_loc S127 rfl ?_; refine r_getm C1 S127 (meth_353_block_kind w) (.head _) (.tail _ (.head _)) rfl ?_; refine r_callK (keep_252 w) ?_; refine spliced_more ?_; (with_reducible refine q_itT g0 S127 (M1 (M1 (M1 (M1 (M1 (M1 (hi))))))) (by with_unfolding_all exact fun _ _ => rfl) (by decide) (by decide) rfl rfl fun s149 S149 => ?_; clear S127); refine spliced_none ?_; refine ⟨C1.inK S149, ?_⟩; refine c_bk0 (C1.le (by decide)) S149 fun pr153 p153 r153 s153 S'153 => ?_; have S153 := S'153.rot_3_6; clear S'153; clear S149; refine r_unpackT C1 S153 (.tail _ (.tail _ (.tail _ (.tail _ (.tail _ (.tail _ (.head _))))))) rfl rfl fun s154 S154 => ?_; clear S153; refine r_orderN ?_; refine r_asg S154 fun s156 S156 => ?_; clear S154; refine r_orderN ?_; refine r_asg S156 fun s158 S158 => ?_; clear S156; refine r_order0 ?_; refine seq_next ?_; (with_reducible refine k_ex ?_; refine q_meth0 C1 g0 S158 (meth_353_pop_all w) M0 (M1 M0) (keep_217 w) ?_); refine c_pop_all0 (C1.le (by decide)) S158 (by repeat (first | exact List.Mem.head _ | refine List.Mem.tail _ ?_ | assumption)) hz hz2 (by lia) fun fl171 kv171 s171 S171 => ?_; clear S158; refine seq_next ?_; (with_reducible refine k_ex ?_; refine q_meth0 C1 g0 S171 (meth_353_begin w) M0 (M1 M0) (keep_224 w) ?_); refine c_begin (C1.le (by decide)) S171 (by repeat (first | exact List.Mem.head _ | refine List.Mem.tail _ ?_ | assumption)) (by lia) hz2 fun x187 dx187 e187 kd187 kb187 th187 s187 S187 => ?_; clear S171; (with_reducible refine k_sn ?_; refine k_sn ?_; refine k_sn ?_); k_unfold; refine r_leave S187 fun S187 => ?_; exact k _ _ _ (hP ..) (by assumption)
  · skip; refine' r_def C S (binds := [("instruction", .ref ins), ("self", .ref me)]) ?ho ?hcd ?hb ?hl ?_ ?c1 ?c2 ?c3 ?c4
    case ho => k_is
    case hcd => k_is
    case hb => exact BindsTo.of_eq rfl
    case hl => exact locs rfl
    case c1 => decide
    case c2 => exact rfl
    case c3 => exact rfl
    case c4 => exact rfl
    intro g1 L1 s1 C1 S1 F1; k_fold; (with_reducible refine k_as ?_; refine q_itT g0 S1 (M1 (M1 (M1 (M1 (M1 (M1 (hi))))))) (by with_unfolding_all exact fun _ _ => rfl) (by decide) (by decide) rfl rfl fun s305 S305 => ?_; clear S1; refine k_st S305 fun s307 S307 => ?_; clear S305; refine q_if g0 S307 fun τ313 α313 s313 S313 => ?_; clear S307); refine t_neg (by simp only [beq_iff_eq, decide_eq_true_eq]; lia) ?_; (with_reducible refine k_if ?_); refine isTrue_plain ?_; (with_reducible refine q_call0 C1 g0 S313 (gl_is_block w) (keep_87 w) ?_); refine c_is_block (C1.le (by decide)) S313 rfl fun s327 S327 => ?_; clear S313; refine wpAny_truthy_bool ?_; refine t_tt ?_; (with_reducible refine k_if ?_); refine wpAny_isTrue_Compare1 ?_; refine r_loc S327 rfl ?_; refine r_glb C1 S327 (gl_IF w) ?_; refine eq_int ?_; refine wpAny_truthy_bool ?_; refine t_neg (by simp only [beq_iff_eq, decide_eq_true_eq]; lia) ?_; refine wpAny_execs_nil ?_; refine seq_next ?_; refine r_cons ?_; refine Assign_Tuple ?_; refine r_meth ?_; refine r_loc S327 rfl ?_; refine r_getm C1 S327 (meth_353_block_kind w) (.head _) (.tail _ (.head _)) rfl ?_; refine r_callK (keep_252 w) ?_; refine spliced_more ?_; (with_reducible refine q_itT g0 S327 (M1 (M1 (M1 (M1 (M1 (M1 (hi))))))) (by with_unfolding_all exact fun _ _ => rfl) (by decide) (by decide) rfl rfl fun s349 S349 => ?_; clear S327); refine spliced_none ?_; refine ⟨C1.inK S349, ?_⟩; refine c_bk0 (C1.le (by decide)) S349 fun pr353 p353 r353 s353 S'353 => ?_; have S353 := S'353.rot_3_6; clear S'353; clear S349; refine r_unpackT C1 S353 (.tail _ (.tail _ (.tail _ (.tail _ (.tail _ (.tail _ (.head _))))))) rfl rfl fun s354 S354 => ?_; clear S353; refine r_orderN ?_; refine r_asg S354 fun s356 S356 => ?_; clear S354; refine r_orderN ?_; refine r_asg S356 fun s358 S358 => ?_; clear S356; refine r_order0 ?_; refine seq_next ?_; (with_reducible refine k_ex ?_; refine q_meth0 C1 g0 S358 (meth_353_pop_all w) M0 (M1 M0) (keep_217 w) ?_); refine c_pop_all0 (C1.le (by decide)) S358 (by repeat (first | exact List.Mem.head _ | refine List.Mem.tail _ ?_ | assumption)) hz hz2 (by lia) fun fl371 kv371 s371 S371 => ?_; clear S358; refine seq_next ?_; (with_reducible refine k_ex ?_; refine q_meth0 C1 g0 S371 (meth_353_begin w) M0 (M1 M0) (keep_224 w) ?_); refine c_begin (C1.le (by decide)) S371 (by repeat (first | exact List.Mem.head _ | refine List.Mem.tail _ ?_ | assumption)) (by lia) hz2 fun x387 dx387 e387 kd387 kb387 th387 s387 S387 => ?_; clear S371; (with_reducible refine k_sn ?_; refine k_sn ?_; refine k_sn ?_); k_unfold; refine r_leave S387 fun S387 => ?_; exact k _ _ _ (hP ..) (by assumption)
end
end Mine
end
section
open PySem PySem.W PyProof.Rows PySem.Calls PySem.Spec
set_option maxHeartbeats 1000000
namespace Mine

section
variable {w : World} {c : Shared} {me md kl fl ll rl vl bl : Addr} {e0 : Nat → Int × Tok} {fni : Int} {tfn : Tok} {kd : Nat} {at_ : Int} {ta : Tok} {keep : Led} {news rest : Led}
variable {ins : Addr} {a1 a2 : Value} {tk tk2 : Tok} {kvs : List Value} {kk ki : Nat} {told code : Int} {Post : Led → Prop}
variable {ba bd : Addr} {e1 : Nat → Int × Tok} {bC bP bR : Value} {th : Tok} {kbd : Nat} {vals bvs : List Value} {kv kb : Nat} {bh : Nat}
theorem d_blk1 {ka p0 r0 : Addr} {k0 k1 k2 : Nat} (hR : news = (me, instObj 353 md) :: (md, dictOf (sEnt e0 (.ref kl) (.ref fl) (.int fni tfn) (.ref ll) (.ref rl) (.ref vl) (.ref bl) (.int at_ ta)) kd) :: (vl, lst vals kv) :: (bl, lst (bvs ++ [.ref ba]) kb) :: (ba, instObj 157 bd) :: (bd, dictOf (bEnt e1 bC bP bR (.int bh th) (.bool false) (.bool false)) kbd) :: rest)
    (hi : (ins, tup [.int code tk, .int told tk2] ki) ∈ rest) (hc : code = 2 ∨ code = 3) (hz : vals.length ≤ 900) (hz2 : bvs.length ≤ 1000) (hh : bh ≤ vals.length)
    (hk0 : (kl, lst kvs kk) ∈ rest) (h0 : 0 ≤ told) (hz3 : kvs.length ≤ 1000) (h1 : told < kvs.length) (hx : kvs[told.toNat]? = some (.ref ka)) (ha : (ka, tup [.ref p0, .ref r0] k0) ∈ rest) (hp : (p0, tup [] k1) ∈ rest) (hr : (r0, tup [] k2) ∈ rest)
    (hP : ∀ kv' kb' x dx e tc th' kd', Post ((me, instObj 353 md) :: (md, dictOf (sEnt e0 (.ref kl) (.ref fl) (.int fni tfn) (.ref ll) (.ref rl) (.ref vl) (.ref bl) (.int at_ ta)) kd) :: (vl, lst vals kv') :: (bl, lst (bvs ++ [.ref ba] ++ [.ref x]) kb') :: (x, instObj 157 dx) :: (dx, dictOf (bEnt e (.int code tc) (.ref p0) (.ref r0) (.int vals.length th') (.bool false) (.bool false)) kd') :: (ba, instObj 157 bd) :: (bd, dictOf (bEnt e1 bC bP bR (.int bh th) (.bool false) (.bool false)) kbd) :: rest)) :
    Does w 6 308 [.ref me, .ref ins] c news Post False keep "" (.int fni tfn) at_ := by
  subst hR
  intro base outer env A g L m s Q E C S k kE
  rcases hc with rfl | rfl
  · skip; refine' r_def C S (binds := [("instruction", .ref ins), ("self", .ref me)]) ?ho ?hcd ?hb ?hl ?_ ?c1 ?c2 ?c3 ?c4
    case ho => k_is
    case hcd => k_is
    case hb => exact BindsTo.of_eq rfl
    case hl => exact locs rfl
    case c1 => decide
    case c2 => exact rfl
    case c3 => exact rfl
    case c4 => exact rfl
    intro g1 L1 s1 C1 S1 F1; k_fold; (with_reducible refine k_as ?_; refine q_itT g0 S1 (M1 (M1 (M1 (M1 (M1 (M1 (hi))))))) (by with_unfolding_all exact fun _ _ => rfl) (by decide) (by decide) rfl rfl fun s105 S105 => ?_; clear S1; refine k_st S105 fun s107 S107 => ?_; clear S105; refine q_if g0 S107 fun τ113 α113 s113 S113 => ?_; clear S107); refine t_neg (by simp only [beq_iff_eq, decide_eq_true_eq]; lia) ?_; (with_reducible refine k_if ?_); refine isTrue_plain ?_; (with_reducible refine q_call0 C1 g0 S113 (gl_is_block w) (keep_87 w) ?_); refine c_is_block (C1.le (by decide)) S113 rfl fun s127 S127 => ?_; clear S113; refine wpAny_truthy_bool ?_; refine t_tt ?_; (with_reducible refine k_if ?_); refine wpAny_isTrue_Compare1 ?_; refine r_loc S127 rfl ?_; refine r_glb C1 S127 (gl_IF w) ?_; refine eq_int ?_; refine wpAny_truthy_bool ?_; refine t_neg (by simp only [beq_iff_eq, decide_eq_true_eq]; lia) ?_; refine wpAny_execs_nil ?_; refine seq_next ?_; refine r_cons ?_; refine Assign_Tuple ?_; refine r_meth ?_; refine r_loc S127 rfl ?_; refine r_getm C1 S127 (meth_353_block_kind w) (.head _) (.tail _ (.head _)) rfl ?_; refine r_callK (keep_252 w) ?_; refine spliced_more ?_; (with_reducible refine q_itT g0 S127 (M1 (M1 (M1 (M1 (M1 (M1 (hi))))))) (by with_unfolding_all exact fun _ _ => rfl) (by decide) (by decide) rfl rfl fun s149 S149 => ?_; clear S127); refine spliced_none ?_; refine ⟨C1.inK S149, ?_⟩; refine c_bk1 (C1.le (by decide)) S149 (.tail _ (.tail _ (.tail _ (.tail _ hk0)))) h0 hz3 h1 hx fun s153 S153 => ?_; clear S149; refine r_unpackT C1 S153 (.tail _ (.tail _ (.tail _ (.tail _ (.tail _ (.tail _ (ha))))))) rfl rfl fun s154 S154 => ?_; clear S153; refine r_orderN ?_; refine r_asg S154 fun s156 S156 => ?_; clear S154; refine r_orderN ?_; refine r_asg S156 fun s158 S158 => ?_; clear S156; refine r_order0 ?_; refine seq_next ?_; (with_reducible refine k_ex ?_; refine q_meth0 C1 g0 S158 (meth_353_pop_all w) M0 (M1 M0) (keep_217 w) ?_); refine c_pop_all0 (C1.le (by decide)) S158 (by repeat (first | exact List.Mem.head _ | refine List.Mem.tail _ ?_ | assumption)) (by lia) hz2 (by lia) fun fl171 kv171 s171 S171 => ?_; clear S158; refine seq_next ?_; (with_reducible refine k_ex ?_; refine q_meth0 C1 g0 S171 (meth_353_begin w) M0 (M1 M0) (keep_224 w) ?_); refine c_begin (C1.le (by decide)) S171 (by repeat (first | exact List.Mem.head _ | refine List.Mem.tail _ ?_ | assumption)) (by lia) hz2 fun x187 dx187 e187 kd187 kb187 th187 s187 S187 => ?_; clear S171; (with_reducible refine k_sn ?_; refine k_sn ?_; refine k_sn ?_); k_unfold; refine r_leave S187 fun S187 => ?_; exact k _ _ _ (hP ..) (by assumption)
  · skip; refine' r_def C S (binds := [("instruction", .ref ins), ("self", .ref me)]) ?ho ?hcd ?hb ?hl ?_ ?c1 ?c2 ?c3 ?c4
    case ho => k_is
    case hcd => k_is
    case hb => exact BindsTo.of_eq rfl
    case hl => exact locs rfl
    case c1 => decide
    case c2 => exact rfl
    case c3 => exact rfl
    case c4 => exact rfl
    intro g1 L1 s1 C1 S1 F1; k_fold; (with_reducible refine k_as ?_; refine q_itT g0 S1 (M1 (M1 (M1 (M1 (M1 (M1 (hi))))))) (by with_unfolding_all exact fun _ _ => rfl) (by decide) (by decide) rfl rfl fun s305 S305 => ?_; clear S1; refine k_st S305 fun s307 S307 => ?_; clear S305; refine q_if g0 S307 fun τ313 α313 s313 S313 => ?_; clear S307); refine t_neg (by simp only [beq_iff_eq, decide_eq_true_eq]; lia) ?_; (with_reducible refine k_if ?_); refine isTrue_plain ?_; (with_reducible refine q_call0 C1 g0 S313 (gl_is_block w) (keep_87 w) ?_); refine c_is_block (C1.le (by decide)) S313 rfl fun s327 S327 => ?_; clear S313; refine wpAny_truthy_bool ?_; refine t_tt ?_; (with_reducible refine k_if ?_); refine wpAny_isTrue_Compare1 ?_; refine r_loc S327 rfl ?_; refine r_glb C1 S327 (gl_IF w) ?_; refine eq_int ?_; refine wpAny_truthy_bool ?_; refine t_neg (by simp only [beq_iff_eq, decide_eq_true_eq]; lia) ?_; refine wpAny_execs_nil ?_; refine seq_next ?_; refine r_cons ?_; refine Assign_Tuple ?_; refine r_meth ?_; refine r_loc S327 rfl ?_; refine r_getm C1 S327 (meth_353_block_kind w) (.head _) (.tail _ (.head _)) rfl ?_; refine r_callK (keep_252 w) ?_; refine spliced_more ?_; (with_reducible refine q_itT g0 S327 (M1 (M1 (M1 (M1 (M1 (M1 (hi))))))) (by with_unfolding_all exact fun _ _ => rfl) (by decide) (by decide) rfl rfl fun s349 S349 => ?_; clear S327); refine spliced_none ?_; refine ⟨C1.inK S349, ?_⟩; refine c_bk1 (C1.le (by decide)) S349 (.tail _ (.tail _ (.tail _ (.tail _ hk0)))) h0 hz3 h1 hx fun s353 S353 => ?_; clear S349; refine r_unpackT C1 S353 (.tail _ (.tail _ (.tail _ (.tail _ (.tail _ (.tail _ (ha))))))) rfl rfl fun s354 S354 => ?_; clear S353; refine r_orderN ?_; refine r_asg S354 fun s356 S356 => ?_; clear S354; refine r_orderN ?_; refine r_asg S356 fun s358 S358 => ?_; clear S356; refine r_order0 ?_; refine seq_next ?_; (with_reducible refine k_ex ?_; refine q_meth0 C1 g0 S358 (meth_353_pop_all w) M0 (M1 M0) (keep_217 w) ?_); refine c_pop_all0 (C1.le (by decide)) S358 (by repeat (first | exact List.Mem.head _ | refine List.Mem.tail _ ?_ | assumption)) (by lia) hz2 (by lia) fun fl371 kv371 s371 S371 => ?_; clear S358; refine seq_next ?_; (with_reducible refine k_ex ?_; refine q_meth0 C1 g0 S371 (meth_353_begin w) M0 (M1 M0) (keep_224 w) ?_); refine c_begin (C1.le (by decide)) S371 (by repeat (first | exact List.Mem.head _ | refine List.Mem.tail _ ?_ | assumption)) (by lia) hz2 fun x387 dx387 e387 kd387 kb387 th387 s387 S387 => ?_; clear S371; (with_reducible refine k_sn ?_; refine k_sn ?_; refine k_sn ?_); k_unfold; refine r_leave S387 fun S387 => ?_; exact k _ _ _ (hP ..) (by assumption)
theorem d_blk2 (hR : news = (me, instObj 353 md) :: (md, dictOf (sEnt e0 (.ref kl) (.ref fl) (.int fni tfn) (.ref ll) (.ref rl) (.ref vl) (.ref bl) (.int at_ ta)) kd) :: (vl, lst vals kv) :: (bl, lst (bvs ++ [.ref ba]) kb) :: rest)
    (hi : (ins, tup [.int code tk, .int told tk2] ki) ∈ rest) (hc : code = 2 ∨ code = 3) (hk : ∀ q ∈ keep, q ∈ rest)
    (hk0 : (kl, lst kvs kk) ∈ rest) (h0 : 0 ≤ told) (hz3 : kvs.length ≤ 1000) (h1 : kvs.length ≤ told) :
    Does w 6 308 [.ref me, .ref ins] c news Post True keep "unknown type" (.int fni tfn) at_ := by
  subst hR
  intro base outer env A g L m s Q E C S k kE
  rcases hc with rfl | rfl
  · skip; refine' r_def C S (binds := [("instruction", .ref ins), ("self", .ref me)]) ?ho ?hcd ?hb ?hl ?_ ?c1 ?c2 ?c3 ?c4
    case ho => k_is
    case hcd => k_is
    case hb => exact BindsTo.of_eq rfl
    case hl => exact locs rfl
    case c1 => decide
    case c2 => exact rfl
    case c3 => exact rfl
    case c4 => exact rfl
    intro g1 L1 s1 C1 S1 F1; k_fold; (with_reducible refine k_as ?_; refine q_itT g0 S1 (M1 (M1 (M1 (M1 (hi))))) (by with_unfolding_all exact fun _ _ => rfl) (by decide) (by decide) rfl rfl fun s505 S505 => ?_; clear S1; refine k_st S505 fun s507 S507 => ?_; clear S505; refine q_if g0 S507 fun τ513 α513 s513 S513 => ?_; clear S507); refine t_neg (by simp only [beq_iff_eq, decide_eq_true_eq]; lia) ?_; (with_reducible refine k_if ?_); refine isTrue_plain ?_; (with_reducible refine q_call0 C1 g0 S513 (gl_is_block w) (keep_87 w) ?_); refine c_is_block (C1.le (by decide)) S513 rfl fun s527 S527 => ?_; clear S513; refine wpAny_truthy_bool ?_; refine t_tt ?_; (with_reducible refine k_if ?_); refine wpAny_isTrue_Compare1 ?_; refine r_loc S527 rfl ?_; refine r_glb C1 S527 (gl_IF w) ?_; refine eq_int ?_; refine wpAny_truthy_bool ?_; refine t_neg (by simp only [beq_iff_eq, decide_eq_true_eq]; lia) ?_; refine wpAny_execs_nil ?_; refine seq_next ?_; refine r_cons ?_; refine Assign_Tuple ?_; refine r_meth ?_; refine r_loc S527 rfl ?_; refine r_getm C1 S527 (meth_353_block_kind w) (.head _) (.tail _ (.head _)) rfl ?_; refine r_callK (keep_252 w) ?_; refine spliced_more ?_; (with_reducible refine q_itT g0 S527 (M1 (M1 (M1 (M1 (hi))))) (by with_unfolding_all exact fun _ _ => rfl) (by decide) (by decide) rfl rfl fun s549 S549 => ?_; clear S527); refine spliced_none ?_; refine ⟨C1.inK S549, ?_⟩; exact c_bk2 (C1.le (by decide)) S549 (.tail _ (.tail _ hk0)) h0 hz3 h1 (fun q hq => by repeat (first | exact hk q hq | refine List.Mem.tail _ ?_)) fun _ v s' R => x_on C1 R F1 (kE trivial _)
  · skip; refine' r_def C S (binds := [("instruction", .ref ins), ("self", .ref me)]) ?ho ?hcd ?hb ?hl ?_ ?c1 ?c2 ?c3 ?c4
    case ho => k_is
    case hcd => k_is
    case hb => exact BindsTo.of_eq rfl
    case hl => exact locs rfl
    case c1 => decide
    case c2 => exact rfl
    case c3 => exact rfl
    case c4 => exact rfl
    intro g1 L1 s1 C1 S1 F1; k_fold; (with_reducible refine k_as ?_; refine q_itT g0 S1 (M1 (M1 (M1 (M1 (hi))))) (by with_unfolding_all exact fun _ _ => rfl) (by decide) (by decide) rfl rfl fun s605 S605 => ?_; clear S1; refine k_st S605 fun s607 S607 => ?_; clear S605; refine q_if g0 S607 fun τ613 α613 s613 S613 => ?_; clear S607); refine t_neg (by simp only [beq_iff_eq, decide_eq_true_eq]; lia) ?_; (with_reducible refine k_if ?_); refine isTrue_plain ?_; (with_reducible refine q_call0 C1 g0 S613 (gl_is_block w) (keep_87 w) ?_); refine c_is_block (C1.le (by decide)) S613 rfl fun s627 S627 => ?_; clear S613; refine wpAny_truthy_bool ?_; refine t_tt ?_; (with_reducible refine k_if ?_); refine wpAny_isTrue_Compare1 ?_; refine r_loc S627 rfl ?_; refine r_glb C1 S627 (gl_IF w) ?_; refine eq_int ?_; refine wpAny_truthy_bool ?_; refine t_neg (by simp only [beq_iff_eq, decide_eq_true_eq]; lia) ?_; refine wpAny_execs_nil ?_; refine seq_next ?_; refine r_cons ?_; refine Assign_Tuple ?_; refine r_meth ?_; refine r_loc S627 rfl ?_; refine r_getm C1 S627 (meth_353_block_kind w) (.head _) (.tail _ (.head _)) rfl ?_; refine r_callK (keep_252 w) ?_; refine spliced_more ?_; (with_reducible refine q_itT g0 S627 (M1 (M1 (M1 (M1 (hi))))) (by with_unfolding_all exact fun _ _ => rfl) (by decide) (by decide) rfl rfl fun s649 S649 => ?_; clear S627); refine spliced_none ?_; refine ⟨C1.inK S649, ?_⟩; exact c_bk2 (C1.le (by decide)) S649 (.tail _ (.tail _ hk0)) h0 hz3 h1 (fun q hq => by repeat (first | exact hk q hq | refine List.Mem.tail _ ?_)) fun _ v s' R => x_on C1 R F1 (kE trivial _)
theorem d_if {t1 : Tok} (hR : news = (me, instObj 353 md) :: (md, dictOf (sEnt e0 (.ref kl) (.ref fl) (.int fni tfn) (.ref ll) (.ref rl) (.ref vl) (.ref bl) (.int at_ ta)) kd) :: (vl, lst (vals ++ [.int (-1) t1]) kv) :: (bl, lst (bvs ++ [.ref ba]) kb) :: (ba, instObj 157 bd) :: (bd, dictOf (bEnt e1 bC bP bR (.int bh th) (.bool false) (.bool false)) kbd) :: rest)
    (hi : (ins, tup [.int 4 tk, .int (-64) tk2] ki) ∈ rest) (hz : vals.length ≤ 900) (hz2 : bvs.length ≤ 1000) (hh : bh ≤ vals.length)
    (hP : ∀ kv' kb' x dx e tc th' kd' p r pr, Post ((me, instObj 353 md) :: (md, dictOf (sEnt e0 (.ref kl) (.ref fl) (.int fni tfn) (.ref ll) (.ref rl) (.ref vl) (.ref bl) (.int at_ ta)) kd) :: (vl, lst vals kv') :: (bl, lst (bvs ++ [.ref ba] ++ [.ref x]) kb') :: (x, instObj 157 dx) :: (dx, dictOf (bEnt e (.int 4 tc) (.ref p) (.ref r) (.int vals.length th') (.bool false) (.bool false)) kd') :: 
      (ba, instObj 157 bd) :: (bd, dictOf (bEnt e1 bC bP bR (.int bh th) (.bool false) (.bool false)) kbd) :: (pr, tup [.ref p, .ref r] 0) :: (r, tup [] 0) :: (p, tup [] 0) :: rest)) :
    Does w 6 308 [.ref me, .ref ins] c news Post False keep "" (.int fni tfn) at_ := by
  subst hR
  intro base outer env A g L m s Q E C S k kE; refine' r_def C S (binds := [("instruction", .ref ins), ("self", .ref me)]) ?ho ?hcd ?hb ?hl ?_ ?c1 ?c2 ?c3 ?c4
  case ho => k_is
  case hcd => k_is
  case hb => exact BindsTo.of_eq rfl
  case hl => exact locs rfl
  case c1 => decide
  case c2 => exact rfl
  case c3 => exact rfl
  case c4 => exact rfl
  intro g1 L1 s1 C1 S1 F1; k_fold; (with_reducible refine k_as ?_; refine q_itT g0 S1 (M1 (M1 (M1 (M1 (M1 (M1 (hi))))))) (by with_unfolding_all exact fun _ _ => rfl) (by decide) (by decide) rfl rfl fun s705 S705 => ?_; clear S1; refine k_st S705 fun s707 S707 => ?_; clear S705; refine q_if g0 S707 fun τ713 α713 s713 S713 => ?_; clear S707); refine t_neg (by simp only [beq_iff_eq, decide_eq_true_eq]; lia) ?_; (with_reducible refine k_if ?_); refine isTrue_plain ?_; (with_reducible refine q_call0 C1 g0 S713 (gl_is_block w) (keep_87 w) ?_); refine c_is_block (C1.le (by decide)) S713 rfl fun s727 S727 => ?_; clear S713; refine wpAny_truthy_bool ?_; refine t_tt ?_; (with_reducible refine k_if ?_); refine wpAny_isTrue_Compare1 ?_; refine r_loc S727 rfl ?_; refine r_glb C1 S727 (gl_IF w) ?_; refine eq_int ?_; refine wpAny_truthy_bool ?_; refine t_tt ?_; (with_reducible refine k_ex ?_; refine q_meth0 C1 (gk C1 (gl_I32 w) g0) S727 (meth_353_pop w) M0 (M1 M0) (keep_210 w) ?_); refine c_pop (C1.le (by decide)) S727 (by lia) hz2 (by lia) fun s748 S748 => ?_; clear S727; (with_reducible refine k_sn ?_); refine seq_next ?_; refine r_cons ?_; refine Assign_Tuple ?_; refine r_meth ?_; refine r_loc S748 rfl ?_; refine r_getm C1 S748 (meth_353_block_kind w) (.head _) (.tail _ (.head _)) rfl ?_; refine r_callK (keep_252 w) ?_; refine spliced_more ?_; (with_reducible refine q_itT g0 S748 (M1 (M1 (M1 (M1 (M1 (M1 (hi))))))) (by with_unfolding_all exact fun _ _ => rfl) (by decide) (by decide) rfl rfl fun s761 S761 => ?_; clear S748); refine spliced_none ?_; refine ⟨C1.inK S761, ?_⟩; refine c_bk0 (C1.le (by decide)) S761 fun pr765 p765 r765 s765 S'765 => ?_; have S765 := S'765.rot_3_6; clear S'765; clear S761; refine r_unpackT C1 S765 (.tail _ (.tail _ (.tail _ (.tail _ (.tail _ (.tail _ (.head _))))))) rfl rfl fun s766 S766 => ?_; clear S765; refine r_orderN ?_; refine r_asg S766 fun s768 S768 => ?_; clear S766; refine r_orderN ?_; refine r_asg S768 fun s770 S770 => ?_; clear S768; refine r_order0 ?_; refine seq_next ?_; (with_reducible refine k_ex ?_; refine q_meth0 C1 g0 S770 (meth_353_pop_all w) M0 (M1 M0) (keep_217 w) ?_); refine c_pop_all0 (C1.le (by decide)) S770 (by repeat (first | exact List.Mem.head _ | refine List.Mem.tail _ ?_ | assumption)) (by lia) hz2 (by lia) fun fl783 kv783 s783 S783 => ?_; clear S770; refine seq_next ?_; (with_reducible refine k_ex ?_; refine q_meth0 C1 g0 S783 (meth_353_begin w) M0 (M1 M0) (keep_224 w) ?_); refine c_begin (C1.le (by decide)) S783 (by repeat (first | exact List.Mem.head _ | refine List.Mem.tail _ ?_ | assumption)) (by lia) hz2 fun x799 dx799 e799 kd799 kb799 th799 s799 S799 => ?_; clear S783; (with_reducible refine k_sn ?_; refine k_sn ?_; refine k_sn ?_); k_unfold; refine r_leave S799 fun S799 => ?_; exact k _ _ _ (hP ..) (by assumption)
end
end Mine
end
section
open PySem PySem.W PyProof.Rows PySem.Calls PySem.Spec
set_option maxHeartbeats 1000000
namespace Mine

theorem r_neTup0 {w : World} {base : Heap} {outer : List Env} {env : Env} {A : Around} {c : Shared} {g : Heap} {L : Addr} {n : Nat} {m : Loc} {news : Led} {s : Shared} {E : Value → Shared → Prop} {p r : Addr} {kp kr : Nat} {Q : Value → Shared → Prop} (C : Cx w base outer env A g L n) (S : St c g L m news s) (hp : (p, tup [] kp) ∈ news) (hr : (r, tup [] kr) ∈ news) (k : Q (.bool false) s) : wpAny (model PRG w) A (compareOp .NotEq (.ref p) (.ref r)) Q E s := by
  have := C.un
  exact r_ned (da := .tuple []) (db := .tuple []) (r := true) (.tuple (S.get hp) rfl rfl .nil) (.tuple (S.get hr) rfl rfl .nil) (by decide) (by decide) (by show _ + 64 < 9900; lia) (by decide) k
section
variable {w : World} {c : Shared} {me md kl fl ll rl vl bl : Addr} {e0 : Nat → Int × Tok} {fni : Int} {tfn : Tok} {kd : Nat} {at_ : Int} {ta : Tok} {keep : Led} {news rest : Led}
variable {ins : Addr} {a1 a2 : Value} {tk tk2 : Tok} {kvs : List Value} {kk ki : Nat} {told code : Int} {Post : Led → Prop}
variable {ba bd : Addr} {e1 : Nat → Int × Tok} {bC bP bR : Value} {th tc : Tok} {kbd : Nat} {vals bvs : List Value} {kv kb : Nat} {bh : Nat} {p r : Addr} {kp kr : Nat} {dead : Bool}
theorem d_other (hR : news = (me, instObj 353 md) :: (md, dictOf (sEnt e0 (.ref kl) (.ref fl) (.int fni tfn) (.ref ll) (.ref rl) (.ref vl) (.ref bl) (.int at_ ta)) kd) :: (vl, lst vals kv) :: (bl, lst (bvs ++ [.ref ba]) kb) :: (ba, instObj 157 bd) :: (bd, dictOf (bEnt e1 (.int 4 tc) (.ref p) (.ref r) (.int vals.length th) (.bool dead) (.bool false)) kbd) :: rest)
    (hz : vals.length ≤ 900) (hz2 : bvs.length ≤ 1000) (hp : (p, tup [] kp) ∈ rest) (hr : (r, tup [] kr) ∈ rest)
    (hP : ∀ kv' kb' x dx e tc th' kd', Post ((me, instObj 353 md) :: (md, dictOf (sEnt e0 (.ref kl) (.ref fl) (.int fni tfn) (.ref ll) (.ref rl) (.ref vl) (.ref bl) (.int at_ ta)) kd) :: (vl, lst vals kv') :: (bl, lst (bvs ++ [.ref x]) kb') :: (x, instObj 157 dx) :: (dx, dictOf (bEnt e (.int 5 tc) (.ref p) (.ref r) (.int vals.length th') (.bool false) (.bool false)) kd') :: rest)) :
    Does w 6 315 [.ref me] c news Post False keep "" (.int fni tfn) at_ := by
  subst hR
  intro base outer env A g L m s Q E C S k kE; refine' r_def C S (binds := [("self", .ref me)]) ?ho ?hcd ?hb ?hl ?_ ?c1 ?c2 ?c3 ?c4
  case ho => k_is
  case hcd => k_is
  case hb => exact BindsTo.of_eq rfl
  case hl => exact locs rfl
  case c1 => decide
  case c2 => exact rfl
  case c3 => exact rfl
  case c4 => exact rfl
  intro g1 L1 s1 C1 S1 F1; k_fold; (with_reducible refine k_as ?_); refine r_attr ?_; refine Subscript_ ?_; (with_reducible refine q_atr C1 S1 (own_353_blocks w) M0 (M1 M0) fun s107 S107 => ?_; clear S1; refine q_ev g0 S107 fun τ110 α110 s110 S110 => ?_; clear S107); refine r_last S110 (.tail _ (.tail _ (.tail _ (.head _)))) (by lia) ?_; refine r_get C1 S110 (own_157_is_buried w) (.tail _ (.tail _ (.tail _ (.tail _ (.head _))))) (.tail _ (.tail _ (.tail _ (.tail _ (.tail _ (.head _)))))) rfl rfl fun s112 S112 => ?_; clear S110; (with_reducible refine k_st S112 fun s113 S113 => ?_; clear S112; refine k_if ?_); refine wpAny_isTrue_Compare1 ?_; refine r_attr ?_; refine Subscript_ ?_; (with_reducible refine q_atr C1 S113 (own_353_blocks w) M0 (M1 M0) fun s122 S122 => ?_; clear S113; refine q_ev g0 S122 fun τ125 α125 s125 S125 => ?_; clear S122); refine r_last S125 (.tail _ (.tail _ (.tail _ (.head _)))) (by lia) ?_; refine r_get C1 S125 (own_157_code w) (.tail _ (.tail _ (.tail _ (.tail _ (.head _))))) (.tail _ (.tail _ (.tail _ (.tail _ (.tail _ (.head _)))))) rfl rfl fun s127 S127 => ?_; clear S125; refine r_glb C1 S127 (gl_IF w) ?_; refine ne_int ?_; refine wpAny_truthy_bool ?_; refine t_ff ?_; refine wpAny_execs_nil ?_; refine seq_next ?_; (with_reducible refine k_as ?_; refine q_meth0 C1 g0 S127 (meth_353_close w) M0 (M1 M0) (keep_231 w) ?_); refine c_close (C1.le (by decide)) S127 (by repeat (first | exact List.Mem.head _ | refine List.Mem.tail _ ?_ | assumption)) (by lia) hz2 fun kv140 s140 S140 => ?_; clear S127; (with_reducible refine k_st S140 fun s141 S141 => ?_; clear S140; refine k_ex ?_); refine r_meth (pl := pure false) ?_; (with_reducible refine q_atr C1 S141 (own_353_blocks w) M0 (M1 M0) fun s148 S148 => ?_; clear S141); refine r_getml S148 (.tail _ (.tail _ (.tail _ (.head _)))) PySem.F.slot_list_append PySem.F.type_list_append ?_; refine r_callB ?_; refine spliced_more ?_; refine r_call ?_; refine r_glb C1 S148 (gl_Block w) ?_; refine r_callK (keep_157 w) ?_; refine spliced_more ?_; refine r_glb C1 S148 (gl_ELSE w) ?_; refine spliced_more ?_; (with_reducible refine q_atr C1 S148 (own_157_params w) (M1 (M1 (M1 (M1 M0)))) (M1 (M1 (M1 (M1 (M1 M0))))) fun s160 S160 => ?_; clear S148); refine spliced_more ?_; (with_reducible refine q_atr C1 S160 (own_157_results w) (M1 (M1 (M1 (M1 M0)))) (M1 (M1 (M1 (M1 (M1 M0))))) fun s164 S164 => ?_; clear S160); refine spliced_more ?_; refine r_call ?_; refine r_bui C1 S164 (gb_len w) (by boot_by_name) (by decide) ?_; refine r_callB ?_; refine spliced_more ?_; (with_reducible refine q_atr C1 S164 (own_353_values w) M0 (M1 M0) fun s172 S172 => ?_; clear S164); refine spliced_none ?_; refine r_len S172 (.tail _ (.tail _ (.head _))) (by lia) fun t174 s174 S174 => ?_; clear S172; (with_reducible refine q_sp0 g0 S174 ?_); refine ⟨C1.inK S174, ?_⟩; refine c_Block (C1.le (by decide)) S174 fun x179 dx179 e179 kd179 s179 S'179 => ?_; have S179 := S'179.rot_2_4; clear S'179; clear S174; refine spliced_none ?_; refine r_append S179 (.tl (.tl (.tl .hd))) (by (rw [PySem.sizeLine_eq]; lia)) fun s181 S181 => ?_; clear S179; refine seq_next ?_; (with_reducible refine k_ex ?_); refine r_meth ?_; refine r_loc S181 rfl ?_; refine r_getm C1 S181 (meth_353_push_all w) (.head _) (.tail _ (.head _)) rfl ?_; refine r_callK (keep_196 w) ?_; refine spliced_more ?_; (with_reducible refine q_atr C1 S181 (own_157_params w) (M1 (M1 (M1 (M1 (M1 (M1 M0)))))) (M1 (M1 (M1 (M1 (M1 (M1 (M1 M0))))))) fun s192 S192 => ?_; clear S181); refine spliced_none ?_; refine ⟨C1.inK S192, ?_⟩; refine c_push_all0 (C1.le (by decide)) S192 (by repeat (first | exact List.Mem.head _ | refine List.Mem.tail _ ?_ | assumption)) fun s195 S195 => ?_; clear S192; (with_reducible refine k_sn ?_); k_unfold; refine r_leave S195 fun S195 => ?_; rename St _ _ _ _ _ _ => S190; exact k _ _ _ (hP ..) ((S190.drop (.tl (.tl (.tl (.tl (.tl (.tl .hd))))))).drop (.tl (.tl (.tl (.tl (.tl (.tl .hd)))))))
theorem d_otherX (hR : news = (me, instObj 353 md) :: (md, dictOf (sEnt e0 (.ref kl) (.ref fl) (.int fni tfn) (.ref ll) (.ref rl) (.ref vl) (.ref bl) (.int at_ ta)) kd) :: (vl, lst vals kv) :: (bl, lst (bvs ++ [.ref ba]) kb) :: (ba, instObj 157 bd) :: (bd, dictOf (bEnt e1 (.int code tc) bP bR (.int bh th) (.bool dead) (.bool false)) kbd) :: rest)
    (hz2 : bvs.length ≤ 1000) (hc : code ≠ 4) (hk : ∀ q ∈ keep, q ∈ rest) :
    Does w 6 315 [.ref me] c news Post True keep "else without if" (.int fni tfn) at_ := by
  subst hR
  intro base outer env A g L m s Q E C S k kE; refine' r_def C S (binds := [("self", .ref me)]) ?ho ?hcd ?hb ?hl ?_ ?c1 ?c2 ?c3 ?c4
  case ho => k_is
  case hcd => k_is
  case hb => exact BindsTo.of_eq rfl
  case hl => exact locs rfl
  case c1 => decide
  case c2 => exact rfl
  case c3 => exact rfl
  case c4 => exact rfl
  intro g1 L1 s1 C1 S1 F1; k_fold; (with_reducible refine k_as ?_); refine r_attr ?_; refine Subscript_ ?_; (with_reducible refine q_atr C1 S1 (own_353_blocks w) M0 (M1 M0) fun s207 S207 => ?_; clear S1; refine q_ev g0 S207 fun τ210 α210 s210 S210 => ?_; clear S207); refine r_last S210 (.tail _ (.tail _ (.tail _ (.head _)))) (by lia) ?_; refine r_get C1 S210 (own_157_is_buried w) (.tail _ (.tail _ (.tail _ (.tail _ (.head _))))) (.tail _ (.tail _ (.tail _ (.tail _ (.tail _ (.head _)))))) rfl rfl fun s212 S212 => ?_; clear S210; (with_reducible refine k_st S212 fun s213 S213 => ?_; clear S212; refine k_if ?_); refine wpAny_isTrue_Compare1 ?_; refine r_attr ?_; refine Subscript_ ?_; (with_reducible refine q_atr C1 S213 (own_353_blocks w) M0 (M1 M0) fun s222 S222 => ?_; clear S213; refine q_ev g0 S222 fun τ225 α225 s225 S225 => ?_; clear S222); refine r_last S225 (.tail _ (.tail _ (.tail _ (.head _)))) (by lia) ?_; refine r_get C1 S225 (own_157_code w) (.tail _ (.tail _ (.tail _ (.tail _ (.head _))))) (.tail _ (.tail _ (.tail _ (.tail _ (.tail _ (.head _)))))) rfl rfl fun s227 S227 => ?_; clear S225; refine r_glb C1 S227 (gl_IF w) ?_; refine ne_int ?_; refine wpAny_truthy_bool ?_; refine t_pos (by simp_all) ?_; (with_reducible refine k_ex ?_; refine q_meth C1 g0 S227 (meth_353_fail w) M0 (M1 M0) (keep_182 w) fun τ239 α239 s239 S239 => ?_; clear S227); exact x_fail (C1.le (by decide)) S239 (fun q hq => by repeat (first | exact hk q hq | refine List.Mem.tail _ ?_)) fun v s' R => x_on C1 R F1 (kE trivial _)
theorem d_end1 {vs : List Value} (hR : news = (me, instObj 353 md) :: (md, dictOf (sEnt e0 (.ref kl) (.ref fl) (.int fni tfn) (.ref ll) (.ref rl) (.ref vl) (.ref bl) (.int at_ ta)) kd) :: (vl, lst vals kv) :: (bl, lst (bvs ++ [.ref ba]) kb) :: (ba, instObj 157 bd) :: (bd, dictOf (bEnt e1 (.int code tc) (.ref p) (.ref r) (.int vals.length th) (.bool dead) (.bool false)) kbd) :: rest)
    (hz : vals.length ≤ 900) (hz2 : bvs.length ≤ 1000) (hp : (p, tup [] kp) ∈ rest) (hr : (r, tup [] kr) ∈ rest)
    (hP : ∀ kv' kb', Post ((me, instObj 353 md) :: (md, dictOf (sEnt e0 (.ref kl) (.ref fl) (.int fni tfn) (.ref ll) (.ref rl) (.ref vl) (.ref bl) (.int at_ ta)) kd) :: (vl, lst vals kv') :: (bl, lst bvs kb') :: rest)) :
    Does w 6 322 [.ref me] c news Post False keep "" (.int fni tfn) at_ := by
  subst hR
  intro base outer env A g L m s Q E C S k kE; refine' r_def C S (binds := [("self", .ref me)]) ?ho ?hcd ?hb ?hl ?_ ?c1 ?c2 ?c3 ?c4
  case ho => k_is
  case hcd => k_is
  case hb => exact BindsTo.of_eq rfl
  case hl => exact locs rfl
  case c1 => decide
  case c2 => exact rfl
  case c3 => exact rfl
  case c4 => exact rfl
  intro g1 L1 s1 C1 S1 F1; k_fold
  by_cases h4 : code = 4
  · by_cases hb : bvs.length = 0
    · skip; (with_reducible refine k_as ?_; refine q_meth0 C1 g0 S1 (meth_353_close w) M0 (M1 M0) (keep_231 w) ?_); refine c_close (C1.le (by decide)) S1 (by repeat (first | exact List.Mem.head _ | refine List.Mem.tail _ ?_ | assumption)) (by lia) hz2 fun kv307 s307 S307 => ?_; clear S1; (with_reducible refine k_st S307 fun s308 S308 => ?_; clear S307; refine k_if ?_); refine isTrue_and ?_; refine wpAny_isTrue_Compare1 ?_; (with_reducible refine q_atr C1 S308 (own_157_code w) (M1 (M1 (M1 (M1 M0)))) (M1 (M1 (M1 (M1 (M1 M0))))) fun s316 S316 => ?_; clear S308); refine r_glb C1 S316 (gl_IF w) ?_; refine eq_int ?_; refine wpAny_truthy_bool ?_; refine t_pos (by simp only [beq_iff_eq, decide_eq_true_eq]; lia) ?_; refine isTrue_and ?_; refine wpAny_isTrue_Compare1 ?_; (with_reducible refine q_atr C1 S316 (own_157_params w) (M1 (M1 (M1 (M1 M0)))) (M1 (M1 (M1 (M1 (M1 M0))))) fun s325 S325 => ?_; clear S316; refine q_atr C1 S325 (own_157_results w) (M1 (M1 (M1 (M1 M0)))) (M1 (M1 (M1 (M1 (M1 M0))))) fun s328 S328 => ?_; clear S325); refine r_neTup0 C1 S328 (by repeat (first | exact List.Mem.head _ | refine List.Mem.tail _ ?_ | assumption)) (by repeat (first | exact List.Mem.head _ | refine List.Mem.tail _ ?_ | assumption)) ?_; refine wpAny_truthy_bool ?_; refine t_ff ?_; refine t_ff ?_; refine wpAny_execs_nil ?_; refine seq_next ?_; (with_reducible refine k_if ?_); refine wpAny_isTrue_Compare1 ?_; refine r_call ?_; refine r_bui C1 S328 (gb_len w) (by boot_by_name) (by decide) ?_; refine r_callB ?_; refine spliced_more ?_; (with_reducible refine q_atr C1 S328 (own_353_blocks w) M0 (M1 M0) fun s344 S344 => ?_; clear S328); refine spliced_none ?_; refine r_len S344 (.tail _ (.tail _ (.tail _ (.head _)))) (by lia) fun t346 s346 S346 => ?_; clear S344; refine r_int S346 fun t347 s347 S347 => ?_; clear S346; refine gt_int ?_; refine wpAny_truthy_bool ?_; refine t_neg (by simp only [beq_iff_eq, decide_eq_true_eq]; lia) ?_; refine wpAny_execs_nil ?_; (with_reducible refine k_sn ?_); k_unfold; refine r_leave S347 fun S347 => ?_; rename St _ _ _ _ _ _ => S390; exact k _ _ _ (hP ..) ((S390.drop (.tl (.tl (.tl (.tl .hd))))).drop (.tl (.tl (.tl (.tl .hd)))))
    · skip; (with_reducible refine k_as ?_; refine q_meth0 C1 g0 S1 (meth_353_close w) M0 (M1 M0) (keep_231 w) ?_); refine c_close (C1.le (by decide)) S1 (by repeat (first | exact List.Mem.head _ | refine List.Mem.tail _ ?_ | assumption)) (by lia) hz2 fun kv407 s407 S407 => ?_; clear S1; (with_reducible refine k_st S407 fun s408 S408 => ?_; clear S407; refine k_if ?_); refine isTrue_and ?_; refine wpAny_isTrue_Compare1 ?_; (with_reducible refine q_atr C1 S408 (own_157_code w) (M1 (M1 (M1 (M1 M0)))) (M1 (M1 (M1 (M1 (M1 M0))))) fun s416 S416 => ?_; clear S408); refine r_glb C1 S416 (gl_IF w) ?_; refine eq_int ?_; refine wpAny_truthy_bool ?_; refine t_pos (by simp only [beq_iff_eq, decide_eq_true_eq]; lia) ?_; refine isTrue_and ?_; refine wpAny_isTrue_Compare1 ?_; (with_reducible refine q_atr C1 S416 (own_157_params w) (M1 (M1 (M1 (M1 M0)))) (M1 (M1 (M1 (M1 (M1 M0))))) fun s425 S425 => ?_; clear S416; refine q_atr C1 S425 (own_157_results w) (M1 (M1 (M1 (M1 M0)))) (M1 (M1 (M1 (M1 (M1 M0))))) fun s428 S428 => ?_; clear S425); refine r_neTup0 C1 S428 (by repeat (first | exact List.Mem.head _ | refine List.Mem.tail _ ?_ | assumption)) (by repeat (first | exact List.Mem.head _ | refine List.Mem.tail _ ?_ | assumption)) ?_; refine wpAny_truthy_bool ?_; refine t_ff ?_; refine t_ff ?_; refine wpAny_execs_nil ?_; refine seq_next ?_; (with_reducible refine k_if ?_); refine wpAny_isTrue_Compare1 ?_; refine r_call ?_; refine r_bui C1 S428 (gb_len w) (by boot_by_name) (by decide) ?_; refine r_callB ?_; refine spliced_more ?_; (with_reducible refine q_atr C1 S428 (own_353_blocks w) M0 (M1 M0) fun s444 S444 => ?_; clear S428); refine spliced_none ?_; refine r_len S444 (.tail _ (.tail _ (.tail _ (.head _)))) (by lia) fun t446 s446 S446 => ?_; clear S444; refine r_int S446 fun t447 s447 S447 => ?_; clear S446; refine gt_int ?_; refine wpAny_truthy_bool ?_; refine t_pos (by simp only [beq_iff_eq, decide_eq_true_eq]; lia) ?_; (with_reducible refine k_ex ?_); refine r_meth ?_; refine r_loc S447 rfl ?_; refine r_getm C1 S447 (meth_353_push_all w) (.head _) (.tail _ (.head _)) rfl ?_; refine r_callK (keep_196 w) ?_; refine spliced_more ?_; (with_reducible refine q_atr C1 S447 (own_157_results w) (M1 (M1 (M1 (M1 M0)))) (M1 (M1 (M1 (M1 (M1 M0))))) fun s460 S460 => ?_; clear S447); refine spliced_none ?_; refine ⟨C1.inK S460, ?_⟩; refine c_push_all0 (C1.le (by decide)) S460 (by repeat (first | exact List.Mem.head _ | refine List.Mem.tail _ ?_ | assumption)) fun s463 S463 => ?_; clear S460; (with_reducible refine k_sn ?_; refine k_sn ?_); k_unfold; refine r_leave S463 fun S463 => ?_; rename St _ _ _ _ _ _ => S490; exact k _ _ _ (hP ..) ((S490.drop (.tl (.tl (.tl (.tl .hd))))).drop (.tl (.tl (.tl (.tl .hd)))))
  · by_cases hb : bvs.length = 0
    · skip; (with_reducible refine k_as ?_; refine q_meth0 C1 g0 S1 (meth_353_close w) M0 (M1 M0) (keep_231 w) ?_); refine c_close (C1.le (by decide)) S1 (by repeat (first | exact List.Mem.head _ | refine List.Mem.tail _ ?_ | assumption)) (by lia) hz2 fun kv507 s507 S507 => ?_; clear S1; (with_reducible refine k_st S507 fun s508 S508 => ?_; clear S507; refine k_if ?_); refine isTrue_and ?_; refine wpAny_isTrue_Compare1 ?_; (with_reducible refine q_atr C1 S508 (own_157_code w) (M1 (M1 (M1 (M1 M0)))) (M1 (M1 (M1 (M1 (M1 M0))))) fun s516 S516 => ?_; clear S508); refine r_glb C1 S516 (gl_IF w) ?_; refine eq_int ?_; refine wpAny_truthy_bool ?_; refine t_neg (by simp only [beq_iff_eq, decide_eq_true_eq]; lia) ?_; refine t_ff ?_; refine wpAny_execs_nil ?_; refine seq_next ?_; (with_reducible refine k_if ?_); refine wpAny_isTrue_Compare1 ?_; refine r_call ?_; refine r_bui C1 S516 (gb_len w) (by boot_by_name) (by decide) ?_; refine r_callB ?_; refine spliced_more ?_; (with_reducible refine q_atr C1 S516 (own_353_blocks w) M0 (M1 M0) fun s533 S533 => ?_; clear S516); refine spliced_none ?_; refine r_len S533 (.tail _ (.tail _ (.tail _ (.head _)))) (by lia) fun t535 s535 S535 => ?_; clear S533; refine r_int S535 fun t536 s536 S536 => ?_; clear S535; refine gt_int ?_; refine wpAny_truthy_bool ?_; refine t_neg (by simp only [beq_iff_eq, decide_eq_true_eq]; lia) ?_; refine wpAny_execs_nil ?_; (with_reducible refine k_sn ?_); k_unfold; refine r_leave S536 fun S536 => ?_; rename St _ _ _ _ _ _ => S590; exact k _ _ _ (hP ..) ((S590.drop (.tl (.tl (.tl (.tl .hd))))).drop (.tl (.tl (.tl (.tl .hd)))))
    · skip; (with_reducible refine k_as ?_; refine q_meth0 C1 g0 S1 (meth_353_close w) M0 (M1 M0) (keep_231 w) ?_); refine c_close (C1.le (by decide)) S1 (by repeat (first | exact List.Mem.head _ | refine List.Mem.tail _ ?_ | assumption)) (by lia) hz2 fun kv607 s607 S607 => ?_; clear S1; (with_reducible refine k_st S607 fun s608 S608 => ?_; clear S607; refine k_if ?_); refine isTrue_and ?_; refine wpAny_isTrue_Compare1 ?_; (with_reducible refine q_atr C1 S608 (own_157_code w) (M1 (M1 (M1 (M1 M0)))) (M1 (M1 (M1 (M1 (M1 M0))))) fun s616 S616 => ?_; clear S608); refine r_glb C1 S616 (gl_IF w) ?_; refine eq_int ?_; refine wpAny_truthy_bool ?_; refine t_neg (by simp only [beq_iff_eq, decide_eq_true_eq]; lia) ?_; refine t_ff ?_; refine wpAny_execs_nil ?_; refine seq_next ?_; (with_reducible refine k_if ?_); refine wpAny_isTrue_Compare1 ?_; refine r_call ?_; refine r_bui C1 S616 (gb_len w) (by boot_by_name) (by decide) ?_; refine r_callB ?_; refine spliced_more ?_; (with_reducible refine q_atr C1 S616 (own_353_blocks w) M0 (M1 M0) fun s633 S633 => ?_; clear S616); refine spliced_none ?_; refine r_len S633 (.tail _ (.tail _ (.tail _ (.head _)))) (by lia) fun t635 s635 S635 => ?_; clear S633; refine r_int S635 fun t636 s636 S636 => ?_; clear S635; refine gt_int ?_; refine wpAny_truthy_bool ?_; refine t_pos (by simp only [beq_iff_eq, decide_eq_true_eq]; lia) ?_; (with_reducible refine k_ex ?_); refine r_meth ?_; refine r_loc S636 rfl ?_; refine r_getm C1 S636 (meth_353_push_all w) (.head _) (.tail _ (.head _)) rfl ?_; refine r_callK (keep_196 w) ?_; refine spliced_more ?_; (with_reducible refine q_atr C1 S636 (own_157_results w) (M1 (M1 (M1 (M1 M0)))) (M1 (M1 (M1 (M1 (M1 M0))))) fun s649 S649 => ?_; clear S636); refine spliced_none ?_; refine ⟨C1.inK S649, ?_⟩; refine c_push_all0 (C1.le (by decide)) S649 (by repeat (first | exact List.Mem.head _ | refine List.Mem.tail _ ?_ | assumption)) fun s652 S652 => ?_; clear S649; (with_reducible refine k_sn ?_; refine k_sn ?_); k_unfold; refine r_leave S652 fun S652 => ?_; rename St _ _ _ _ _ _ => S690; exact k _ _ _ (hP ..) ((S690.drop (.tl (.tl (.tl (.tl .hd))))).drop (.tl (.tl (.tl (.tl .hd)))))
end
end Mine
end
section
open PySem PySem.W PyProof.Rows PySem.Calls PySem.Spec
set_option maxHeartbeats 1000000
namespace Mine

theorem tgt_mem {t p r : Addr} {kp kr : Nat} {rest : Led} (h : t = p ∨ t = r) (hp : (p, tup [] kp) ∈ rest) (hr : (r, tup [] kr) ∈ rest) : ∃ k, (t, tup [] k) ∈ rest := by
  rcases h with rfl | rfl
  · exact ⟨_, hp⟩
  · exact ⟨_, hr⟩
theorem c_targetX {w : World} {base : Heap} {outer : List Env} {env : Env} {A : Around} {c : Shared} {g : Heap} {L : Addr} {m : Loc} {rest : Led} {s : Shared} {Q E : Value → Shared → Prop} {me : Addr} {md : Addr} {vl : Addr} {bl : Addr} {e0 : Nat → Int × Tok} {vK : Value} {vF : Value} {vL : Value} {vR : Value} {kd : Nat} {kv : Nat} {kb : Nat} {vals : List Value} {keep : Led} {at_ : Int} {ta : Tok} {fni : Int} {tfn : Tok} {i : Int} {ti : Tok} {bs : List Value} (C : Cx w base outer env A g L 2)
    (S : St c g L m ((me, instObj 353 md) :: (md, dictOf (sEnt e0 vK vF (.int fni tfn) vL vR (.ref vl) (.ref bl) (.int at_ ta)) kd) :: (vl, lst vals kv) :: (bl, lst bs kb) :: rest) s) (hz2 : bs.length ≤ 1001)
    (h0 : 0 ≤ i) (hi : bs.length ≤ i) (hk : ∀ q ∈ keep, q ∈ rest) (kE : True → ∀ v s', RX base (env :: outer) c g L m keep "unknown label" (.int fni tfn) at_ .none v s' → E v s') :
    wpAny (model PRG w) A (call (.ref 245) [.ref me, .int i ti]) Q E s := by
  refine' r_def C S (binds := [("label", .int i ti), ("self", .ref me)]) ?ho ?hcd ?hb ?hl ?_ ?c1 ?c2 ?c3 ?c4
  case ho => k_is
  case hcd => k_is
  case hb => exact BindsTo.of_eq rfl
  case hl => exact locs rfl
  case c1 => decide
  case c2 => exact rfl
  case c3 => exact rfl
  case c4 => exact rfl
  intro g1 L1 s1 C1 S1 F1; k_fold; (with_reducible refine k_if ?_); refine isTrue_not ?_; refine isTrue_chain ?_; refine r_int S1 fun t5 s5 S5 => ?_; clear S1; refine test_link ?_; refine r_loc S5 rfl ?_; refine le_int ?_; refine wpAny_truthy_bool ?_; refine t_pos (by simp only [beq_iff_eq, decide_eq_true_eq]; lia) ?_; refine test_last ?_; refine r_call ?_; refine r_bui C1 S5 (gb_len w) (by boot_by_name) (by decide) ?_; refine r_callB ?_; refine spliced_more ?_; (with_reducible refine q_atr C1 S5 (own_353_blocks w) M0 (M1 M0) fun s18 S18 => ?_; clear S5); refine spliced_none ?_; refine r_len S18 (.tail _ (.tail _ (.tail _ (.head _)))) (by lia) fun t20 s20 S20 => ?_; clear S18; refine lt_int ?_; refine wpAny_truthy_bool ?_; refine t_pos (by simp_all) ?_; (with_reducible refine k_ex ?_; refine q_meth C1 g0 S20 (meth_353_fail w) M0 (M1 M0) (keep_182 w) fun τ31 α31 s31 S31 => ?_; clear S20); exact x_fail (C1.le (by decide)) S31 (fun q hq => by repeat (first | exact hk q hq | refine List.Mem.tail _ ?_)) fun v s' R => x_on C1 R F1 (kE trivial _)
section
variable {w : World} {c : Shared} {me md kl fl ll rl vl bl : Addr} {e0 : Nat → Int × Tok} {fni : Int} {tfn : Tok} {kd : Nat} {at_ : Int} {ta : Tok} {keep : Led} {news rest : Led}
variable {ins : Addr} {a1 a2 : Value} {tk tk2 tk3 t1 : Tok} {kvs : List Value} {kk ki n : Nat} {told code : Int} {Post : Led → Prop} {X : Prop} {why : Str}
variable {ba bd : Addr} {e1 e2 : Nat → Int × Tok} {bC bP bR : Value} {th tc : Tok} {kbd kxd : Nat} {vals hv bvs : List Value} {kv kb : Nat} {bh : Nat} {p r xa xd : Addr} {kp kr : Nat} {dead : Bool} {i j : Int} {vH vD vB : Value}
theorem d_br12 (hR : news = (me, instObj 353 md) :: (md, dictOf (sEnt e0 (.ref kl) (.ref fl) (.int fni tfn) (.ref ll) (.ref rl) (.ref vl) (.ref bl) (.int at_ ta)) kd) :: (vl, lst (vals ++ hv) kv) :: (bl, lst (bvs ++ [.ref ba]) kb) :: (ba, instObj 157 bd) :: (bd, dictOf (bEnt e1 bC bP bR (.int vals.length th) (.bool dead) (.bool false)) kbd) :: rest)
    (hi : (ins, tup [.int 12 tk, .int i tk2] ki) ∈ rest) (hz : vals.length + hv.length ≤ 900) (hz2 : bvs.length ≤ 900) (hp : (p, tup [] kp) ∈ rest) (hr : (r, tup [] kr) ∈ rest)
    (hl0 : 0 ≤ i) (hl1 : i < (bvs ++ [Value.ref ba]).length) (hlx : (bvs ++ [Value.ref ba])[(((bvs ++ [Value.ref ba]).length : Int) - 1 - i).toNat]? = some (.ref xa)) 
    (hx1 : (xa, instObj 157 xd) ∈ (ba, instObj 157 bd) :: (bd, dictOf (bEnt e1 bC bP bR (.int vals.length th) (.bool dead) (.bool false)) kbd) :: rest)
    (hx2 : (xd, dictOf (bEnt e2 (.int code tc) (.ref p) (.ref r) vH vD vB) kxd) ∈ (ba, instObj 157 bd) :: (bd, dictOf (bEnt e1 bC bP bR (.int vals.length th) (.bool dead) (.bool false)) kbd) :: rest)
    (hP : ∀ kv', Post ((me, instObj 353 md) :: (md, dictOf (sEnt e0 (.ref kl) (.ref fl) (.int fni tfn) (.ref ll) (.ref rl) (.ref vl) (.ref bl) (.int at_ ta)) kd) :: (vl, lst vals kv') :: (bl, lst (bvs ++ [.ref ba]) kb) :: (ba, instObj 157 bd) :: (bd, dictOf (bEnt e1 bC bP bR (.int vals.length th) (.bool true) (.bool false)) kbd) :: rest)) :
    Does w 5 329 [.ref me, .ref ins] c news Post False keep "" (.int fni tfn) at_ := by
  subst hR
  intro base outer env A g L m s Q E C S k kE; refine' r_def C S (binds := [("instruction", .ref ins), ("self", .ref me)]) ?ho ?hcd ?hb ?hl ?_ ?c1 ?c2 ?c3 ?c4
  case ho => k_is
  case hcd => k_is
  case hb => exact BindsTo.of_eq rfl
  case hl => exact locs rfl
  case c1 => decide
  case c2 => exact rfl
  case c3 => exact rfl
  case c4 => exact rfl
  intro g1 L1 s1 C1 S1 F1; k_fold
  have hz2 : bvs.length ≤ 1000 := Nat.le_trans hz2 (by decide)
  (with_reducible refine k_as ?_; refine q_itT g0 S1 (M1 (M1 (M1 (M1 (M1 (M1 (hi))))))) (by with_unfolding_all exact fun _ _ => rfl) (by decide) (by decide) rfl rfl fun s105 S105 => ?_; clear S1; refine k_st S105 fun s107 S107 => ?_; clear S105; refine q_if g0 S107 fun τ113 α113 s113 S113 => ?_; clear S107); refine t_tt ?_; (with_reducible refine k_ex ?_); refine r_meth ?_; refine r_loc S113 rfl ?_; refine r_getm C1 S113 (meth_353_pop_all w) (.head _) (.tail _ (.head _)) rfl ?_; refine r_callK (keep_217 w) ?_; refine spliced_more ?_; refine r_meth ?_; refine r_loc S113 rfl ?_; refine r_getm C1 S113 (meth_353_target w) (.head _) (.tail _ (.head _)) rfl ?_; refine r_callK (keep_245 w) ?_; refine spliced_more ?_; (with_reducible refine q_itT g0 S113 (M1 (M1 (M1 (M1 (M1 (M1 (hi))))))) (by with_unfolding_all exact fun _ _ => rfl) (by decide) (by decide) rfl rfl fun s131 S131 => ?_; clear S113); refine spliced_none ?_; refine ⟨C1.inK S131, ?_⟩; refine c_target (C1.le (by decide)) S131 (by first | lia | (simp only [List.length_append, List.length_cons, List.length_nil]; lia)) hl0 hl1 hlx hx1 hx2 fun t135 s135 ht135 S135 => ?_; obtain ⟨kt135, hm135⟩ := tgt_mem ht135 hp hr; clear ht135; clear S131; refine spliced_none ?_; refine ⟨C1.inK S135, ?_⟩; refine c_pop_all0 (C1.le (by decide)) S135 (by repeat (first | exact List.Mem.head _ | refine List.Mem.tail _ ?_ | assumption)) (by first | lia | (simp only [List.length_append, List.length_cons, List.length_nil]; lia)) hz2 (by first | lia | (simp only [List.length_append, List.length_cons, List.length_nil]; lia)) fun fl138 kv138 s138 S138 => ?_; clear S135; refine seq_next ?_; (with_reducible refine k_ex ?_; refine q_meth0 C1 g0 S138 (meth_353_kill w) M0 (M1 M0) (keep_238 w) ?_); refine c_kill (C1.le (by decide)) S138 (by first | lia | (simp only [List.length_append, List.length_cons, List.length_nil]; lia)) hz2 fun kv146 s146 S146 => ?_; clear S138; (with_reducible refine k_sn ?_; refine k_sn ?_); k_unfold; refine r_leave S146 fun S146 => ?_; exact k _ _ _ (hP ..) (by assumption)
theorem d_br12X (hR : news = (me, instObj 353 md) :: (md, dictOf (sEnt e0 (.ref kl) (.ref fl) (.int fni tfn) (.ref ll) (.ref rl) (.ref vl) (.ref bl) (.int at_ ta)) kd) :: (vl, lst vals kv) :: (bl, lst bvs kb) :: rest)
    (hi : (ins, tup [.int 12 tk, .int i tk2] ki) ∈ rest) (hz2 : bvs.length ≤ 900) (hl0 : 0 ≤ i) (hl1 : bvs.length ≤ i) (hk : ∀ q ∈ keep, q ∈ rest) :
    Does w 5 329 [.ref me, .ref ins] c news Post True keep "unknown label" (.int fni tfn) at_ := by
  subst hR
  intro base outer env A g L m s Q E C S k kE; refine' r_def C S (binds := [("instruction", .ref ins), ("self", .ref me)]) ?ho ?hcd ?hb ?hl ?_ ?c1 ?c2 ?c3 ?c4
  case ho => k_is
  case hcd => k_is
  case hb => exact BindsTo.of_eq rfl
  case hl => exact locs rfl
  case c1 => decide
  case c2 => exact rfl
  case c3 => exact rfl
  case c4 => exact rfl
  intro g1 L1 s1 C1 S1 F1; k_fold; (with_reducible refine k_as ?_; refine q_itT g0 S1 (M1 (M1 (M1 (M1 (hi))))) (by with_unfolding_all exact fun _ _ => rfl) (by decide) (by decide) rfl rfl fun s205 S205 => ?_; clear S1; refine k_st S205 fun s207 S207 => ?_; clear S205; refine q_if g0 S207 fun τ213 α213 s213 S213 => ?_; clear S207); refine t_tt ?_; (with_reducible refine k_ex ?_); refine r_meth ?_; refine r_loc S213 rfl ?_; refine r_getm C1 S213 (meth_353_pop_all w) (.head _) (.tail _ (.head _)) rfl ?_; refine r_callK (keep_217 w) ?_; refine spliced_more ?_; refine r_meth ?_; refine r_loc S213 rfl ?_; refine r_getm C1 S213 (meth_353_target w) (.head _) (.tail _ (.head _)) rfl ?_; refine r_callK (keep_245 w) ?_; refine spliced_more ?_; (with_reducible refine q_itT g0 S213 (M1 (M1 (M1 (M1 (hi))))) (by with_unfolding_all exact fun _ _ => rfl) (by decide) (by decide) rfl rfl fun s231 S231 => ?_; clear S213); refine spliced_none ?_; refine ⟨C1.inK S231, ?_⟩; exact c_targetX (C1.le (by decide)) S231 (by first | lia | (simp only [List.length_append, List.length_cons, List.length_nil]; lia)) hl0 hl1 (fun q hq => by repeat (first | exact hk q hq | refine List.Mem.tail _ ?_)) fun _ v s' R => x_on C1 R F1 (kE trivial _)
theorem d_br13 (hR : news = (me, instObj 353 md) :: (md, dictOf (sEnt e0 (.ref kl) (.ref fl) (.int fni tfn) (.ref ll) (.ref rl) (.ref vl) (.ref bl) (.int at_ ta)) kd) :: (vl, lst (vals ++ [.int (-1) t1]) kv) :: (bl, lst (bvs ++ [.ref ba]) kb) :: (ba, instObj 157 bd) :: (bd, dictOf (bEnt e1 bC bP bR (.int bh th) (.bool false) (.bool false)) kbd) :: rest)
    (hi : (ins, tup [.int 13 tk, .int i tk2] ki) ∈ rest) (hz : vals.length ≤ 900) (hz2 : bvs.length ≤ 900) (hh : bh ≤ vals.length) (hp : (p, tup [] kp) ∈ rest) (hr : (r, tup [] kr) ∈ rest)
    (hl0 : 0 ≤ i) (hl1 : i < (bvs ++ [Value.ref ba]).length) (hlx : (bvs ++ [Value.ref ba])[(((bvs ++ [Value.ref ba]).length : Int) - 1 - i).toNat]? = some (.ref xa)) 
    (hx1 : (xa, instObj 157 xd) ∈ (ba, instObj 157 bd) :: (bd, dictOf (bEnt e1 bC bP bR (.int bh th) (.bool false) (.bool false)) kbd) :: rest)
    (hx2 : (xd, dictOf (bEnt e2 (.int code tc) (.ref p) (.ref r) vH vD vB) kxd) ∈ (ba, instObj 157 bd) :: (bd, dictOf (bEnt e1 bC bP bR (.int bh th) (.bool false) (.bool false)) kbd) :: rest)
    (hP : ∀ kv', Post ((me, instObj 353 md) :: (md, dictOf (sEnt e0 (.ref kl) (.ref fl) (.int fni tfn) (.ref ll) (.ref rl) (.ref vl) (.ref bl) (.int at_ ta)) kd) :: (vl, lst vals kv') :: (bl, lst (bvs ++ [.ref ba]) kb) :: (ba, instObj 157 bd) :: (bd, dictOf (bEnt e1 bC bP bR (.int bh th) (.bool false) (.bool false)) kbd) :: rest)) :
    Does w 5 329 [.ref me, .ref ins] c news Post False keep "" (.int fni tfn) at_ := by
  subst hR
  intro base outer env A g L m s Q E C S k kE; refine' r_def C S (binds := [("instruction", .ref ins), ("self", .ref me)]) ?ho ?hcd ?hb ?hl ?_ ?c1 ?c2 ?c3 ?c4
  case ho => k_is
  case hcd => k_is
  case hb => exact BindsTo.of_eq rfl
  case hl => exact locs rfl
  case c1 => decide
  case c2 => exact rfl
  case c3 => exact rfl
  case c4 => exact rfl
  intro g1 L1 s1 C1 S1 F1; k_fold
  have hz2 : bvs.length ≤ 1000 := Nat.le_trans hz2 (by decide)
  (with_reducible refine k_as ?_; refine q_itT g0 S1 (M1 (M1 (M1 (M1 (M1 (M1 (hi))))))) (by with_unfolding_all exact fun _ _ => rfl) (by decide) (by decide) rfl rfl fun s305 S305 => ?_; clear S1; refine k_st S305 fun s307 S307 => ?_; clear S305; refine q_if g0 S307 fun τ313 α313 s313 S313 => ?_; clear S307); refine t_neg (by simp only [beq_iff_eq, decide_eq_true_eq]; lia) ?_; (with_reducible refine q_if g0 S313 fun τ321 α321 s321 S321 => ?_; clear S313); refine t_tt ?_; (with_reducible refine k_ex ?_; refine q_meth0 C1 (gk C1 (gl_I32 w) g0) S321 (meth_353_pop w) M0 (M1 M0) (keep_210 w) ?_); refine c_pop (C1.le (by decide)) S321 (by first | lia | (simp only [List.length_append, List.length_cons, List.length_nil]; lia)) hz2 (by first | lia | (simp only [List.length_append, List.length_cons, List.length_nil]; lia)) fun s335 S335 => ?_; clear S321; refine seq_next ?_; (with_reducible refine k_as ?_); refine r_meth ?_; refine r_loc S335 rfl ?_; refine r_getm C1 S335 (meth_353_target w) (.head _) (.tail _ (.head _)) rfl ?_; refine r_callK (keep_245 w) ?_; refine spliced_more ?_; (with_reducible refine q_itT g0 S335 (M1 (M1 (M1 (M1 (M1 (M1 (hi))))))) (by with_unfolding_all exact fun _ _ => rfl) (by decide) (by decide) rfl rfl fun s346 S346 => ?_; clear S335); refine spliced_none ?_; refine ⟨C1.inK S346, ?_⟩; refine c_target (C1.le (by decide)) S346 (by first | lia | (simp only [List.length_append, List.length_cons, List.length_nil]; lia)) hl0 hl1 hlx hx1 hx2 fun t350 s350 ht350 S350 => ?_; obtain ⟨kt350, hm350⟩ := tgt_mem ht350 hp hr; clear ht350; clear S346; (with_reducible refine k_st S350 fun s351 S351 => ?_; clear S350; refine k_ex ?_; refine q_meth0 C1 g0 S351 (meth_353_pop_all w) M0 (M1 M0) (keep_217 w) ?_); refine c_pop_all0 (C1.le (by decide)) S351 (by repeat (first | exact List.Mem.head _ | refine List.Mem.tail _ ?_ | assumption)) (by first | lia | (simp only [List.length_append, List.length_cons, List.length_nil]; lia)) hz2 (by first | lia | (simp only [List.length_append, List.length_cons, List.length_nil]; lia)) fun fl363 kv363 s363 S363 => ?_; clear S351; refine seq_next ?_; (with_reducible refine k_ex ?_; refine q_meth0 C1 g0 S363 (meth_353_push_all w) M0 (M1 M0) (keep_196 w) ?_); refine c_push_all0 (C1.le (by decide)) S363 (by repeat (first | exact List.Mem.head _ | refine List.Mem.tail _ ?_ | assumption)) fun s375 S375 => ?_; clear S363; (with_reducible refine k_sn ?_; refine k_sn ?_; refine k_sn ?_); k_unfold; refine r_leave S375 fun S375 => ?_; exact k _ _ _ (hP ..) (by assumption)
theorem d_br13X (hR : news = (me, instObj 353 md) :: (md, dictOf (sEnt e0 (.ref kl) (.ref fl) (.int fni tfn) (.ref ll) (.ref rl) (.ref vl) (.ref bl) (.int at_ ta)) kd) :: (vl, lst (vals ++ [.int (-1) t1]) kv) :: (bl, lst (bvs ++ [.ref ba]) kb) :: (ba, instObj 157 bd) :: (bd, dictOf (bEnt e1 bC bP bR (.int bh th) (.bool false) (.bool false)) kbd) :: rest)
    (hi : (ins, tup [.int 13 tk, .int i tk2] ki) ∈ rest) (hz : vals.length ≤ 900) (hz2 : bvs.length ≤ 900) (hh : bh ≤ vals.length)
    (hl0 : 0 ≤ i) (hl1 : (bvs ++ [Value.ref ba]).length ≤ i) (hk : ∀ q ∈ keep, q ∈ rest) :
    Does w 5 329 [.ref me, .ref ins] c news Post True keep "unknown label" (.int fni tfn) at_ := by
  subst hR
  intro base outer env A g L m s Q E C S k kE; refine' r_def C S (binds := [("instruction", .ref ins), ("self", .ref me)]) ?ho ?hcd ?hb ?hl ?_ ?c1 ?c2 ?c3 ?c4
  case ho => k_is
  case hcd => k_is
  case hb => exact BindsTo.of_eq rfl
  case hl => exact locs rfl
  case c1 => decide
  case c2 => exact rfl
  case c3 => exact rfl
  case c4 => exact rfl
  intro g1 L1 s1 C1 S1 F1; k_fold
  have hz2 : bvs.length ≤ 1000 := Nat.le_trans hz2 (by decide)
  (with_reducible refine k_as ?_; refine q_itT g0 S1 (M1 (M1 (M1 (M1 (M1 (M1 (hi))))))) (by with_unfolding_all exact fun _ _ => rfl) (by decide) (by decide) rfl rfl fun s405 S405 => ?_; clear S1; refine k_st S405 fun s407 S407 => ?_; clear S405; refine q_if g0 S407 fun τ413 α413 s413 S413 => ?_; clear S407); refine t_neg (by simp only [beq_iff_eq, decide_eq_true_eq]; lia) ?_; (with_reducible refine q_if g0 S413 fun τ421 α421 s421 S421 => ?_; clear S413); refine t_tt ?_; (with_reducible refine k_ex ?_; refine q_meth0 C1 (gk C1 (gl_I32 w) g0) S421 (meth_353_pop w) M0 (M1 M0) (keep_210 w) ?_); refine c_pop (C1.le (by decide)) S421 (by first | lia | (simp only [List.length_append, List.length_cons, List.length_nil]; lia)) hz2 (by first | lia | (simp only [List.length_append, List.length_cons, List.length_nil]; lia)) fun s435 S435 => ?_; clear S421; refine seq_next ?_; (with_reducible refine k_as ?_); refine r_meth ?_; refine r_loc S435 rfl ?_; refine r_getm C1 S435 (meth_353_target w) (.head _) (.tail _ (.head _)) rfl ?_; refine r_callK (keep_245 w) ?_; refine spliced_more ?_; (with_reducible refine q_itT g0 S435 (M1 (M1 (M1 (M1 (M1 (M1 (hi))))))) (by with_unfolding_all exact fun _ _ => rfl) (by decide) (by decide) rfl rfl fun s446 S446 => ?_; clear S435); refine spliced_none ?_; refine ⟨C1.inK S446, ?_⟩; exact c_targetX (C1.le (by decide)) S446 (by first | lia | (simp only [List.length_append, List.length_cons, List.length_nil]; lia)) hl0 hl1 (fun q hq => by repeat (first | exact hk q hq | refine List.Mem.tail _ ?_)) fun _ v s' R => x_on C1 R F1 (kE trivial _)
end
end Mine
end
section
open PySem PySem.W PyProof.Rows PySem.Calls PySem.Spec
set_option maxHeartbeats 1000000
namespace Mine

theorem c_pop_allL {w : World} {base : Heap} {outer : List Env} {env : Env} {A : Around} {c : Shared} {g : Heap} {L : Addr} {m : Loc} {rest : Led} {s : Shared} {Q E : Value → Shared → Prop} {me : Addr} {md : Addr} {vl : Addr} {bl : Addr} {e0 : Nat → Int × Tok} {vK : Value} {vF : Value} {vN : Value} {vL : Value} {vR : Value} {vA : Value} {kd : Nat} {kv : Nat} {kb : Nat} {vals : List Value} {bvs : List Value} {ba : Addr} {bd : Addr} {e1 : Nat → Int × Tok} {bC : Value} {bP : Value} {bR : Value} {bh : Int} {th : Tok} {dead : Bool} {kbd : Nat} {t : Addr} {kt : Nat} (C : Cx w base outer env A g L 3)
    (S : St c g L m ((me, instObj 353 md) :: (md, dictOf (sEnt e0 vK vF vN vL vR (.ref vl) (.ref bl) vA) kd) :: (vl, lst vals kv) :: (bl, lst (bvs ++ [.ref ba]) kb) :: (ba, instObj 157 bd) :: (bd, dictOf (bEnt e1 bC bP bR (.int bh th) (.bool dead) (.bool false)) kbd) :: rest) s)
    (ht : (t, tup [] kt) ∈ rest) (hz : vals.length ≤ 900) (hz2 : bvs.length ≤ 1000) (hh : bh ≤ vals.length)
    (k : ∀ fl fk kv' s', St c g L m ((me, instObj 353 md) :: (md, dictOf (sEnt e0 vK vF vN vL vR (.ref vl) (.ref bl) vA) kd) :: (fl, lst [] fk) :: (vl, lst vals kv') :: (bl, lst (bvs ++ [.ref ba]) kb) :: (ba, instObj 157 bd) :: (bd, dictOf (bEnt e1 bC bP bR (.int bh th) (.bool dead) (.bool false)) kbd) :: rest) s' → Q (.ref fl) s') :
    wpAny (model PRG w) A (call (.ref 217) [.ref me, .ref t]) Q E s := by
  refine c_pop_all (ks := []) (pv := []) C (by rw [List.append_nil]; exact S) ht (fun _ h => nomatch h) (fun _ h => nomatch h) rfl (by decide) hz hz2 hh fun fl found fk kv' s' hf S' => ?_
  have : found = [] := List.eq_nil_of_length_eq_zero hf
  subst this
  exact k fl fk kv' s' S'.rot_1_2
theorem c_push_allL {w : World} {base : Heap} {outer : List Env} {env : Env} {A : Around} {c : Shared} {g : Heap} {L : Addr} {m : Loc} {rest : Led} {s : Shared} {Q E : Value → Shared → Prop} {me md vl bl : Addr} {e0 : Nat → Int × Tok} {vK vF vN vL vR vA : Value} {kd : Nat} {t : Addr} {kt : Nat} (C : Cx w base outer env A g L 1)
    (S : St c g L m ((me, instObj 353 md) :: (md, dictOf (sEnt e0 vK vF vN vL vR (.ref vl) (.ref bl) vA) kd) :: (t, lst [] kt) :: rest) s)
    (k : ∀ s', St c g L m ((me, instObj 353 md) :: (md, dictOf (sEnt e0 vK vF vN vL vR (.ref vl) (.ref bl) vA) kd) :: rest) s' → Q .none s') :
    wpAny (model PRG w) A (call (.ref 196) [.ref me, .ref t]) Q E s := by
  refine' r_def C S (binds := [("kinds", .ref t), ("self", .ref me)]) ?ho ?hcd ?hb ?hl ?_ ?c1 ?c2 ?c3 ?c4
  case ho => k_is
  case hcd => k_is
  case hb => exact BindsTo.of_eq rfl
  case hl => exact locs rfl
  case c1 => decide
  case c2 => exact rfl
  case c3 => exact rfl
  case c4 => exact rfl
  intro g1 L1 s1 C1 S1 F1; k_fold; refine r_cons ?_; refine wpAny_For ?_; refine r_loc S1 rfl ?_; refine r_iterLst S1 (.tail _ (.tail _ (.head _))) fun it4 s4 S4 => ?_; clear S1; rename St _ _ _ _ _ _ => S49; refine r_forLst0 C1 S49 (.tail _ (.tail _ (.head _))) fun s2 S2 => ?_; (with_reducible refine k_sn ?_); k_unfold; refine r_leave S2 fun S2 => ?_; rename St _ _ _ _ _ _ => S90; exact k _ (S90.drop (.tl (.tl .hd)))
theorem mem_ins2 {α : Type} {x a b y : α} {l : List α} (h : x ∈ a :: b :: l) : x ∈ a :: b :: y :: l := by
  rcases List.mem_cons.mp h with rfl | h
  · exact .head _
  · rcases List.mem_cons.mp h with rfl | h
    · exact .tail _ (.head _)
    · exact .tail _ (.tail _ (.tail _ h))
section
variable {w : World} {c : Shared} {me md kl fl ll rl vl bl : Addr} {e0 : Nat → Int × Tok} {fni : Int} {tfn : Tok} {kd : Nat} {at_ : Int} {ta : Tok} {keep : Led} {news rest : Led}
variable {ins : Addr} {a1 a2 : Value} {tk tk2 tk3 t1 : Tok} {kvs : List Value} {kk ki n : Nat} {told code : Int} {Post : Led → Prop} {X : Prop} {why : Str}
variable {ba bd : Addr} {e1 e2 : Nat → Int × Tok} {bC bP bR : Value} {th tc : Tok} {kbd kxd : Nat} {vals hv bvs : List Value} {kv kb : Nat} {bh : Nat} {p r xa xd : Addr} {kp kr : Nat} {dead : Bool} {i j : Int} {vH vD vB : Value}
theorem d_br14 {ya yd p2 r2 : Addr} {e3 : Nat → Int × Tok} {code2 : Int} {tc2 : Tok} {vH2 vD2 vB2 : Value} {kyd kp2 kr2 : Nat} (hR : news = (me, instObj 353 md) :: (md, dictOf (sEnt e0 (.ref kl) (.ref fl) (.int fni tfn) (.ref ll) (.ref rl) (.ref vl) (.ref bl) (.int at_ ta)) kd) :: (vl, lst (vals ++ hv ++ [.int (-1) t1]) kv) :: (bl, lst (bvs ++ [.ref ba]) kb) :: (ba, instObj 157 bd) :: (bd, dictOf (bEnt e1 bC bP bR (.int vals.length th) (.bool dead) (.bool false)) kbd) :: rest)
    (hi : (ins, tup [.int 14 tk, .int i tk2, .int j tk3] ki) ∈ rest) (hz : vals.length + hv.length ≤ 900) (hz2 : bvs.length ≤ 900) (hp : (p, tup [] kp) ∈ rest) (hr : (r, tup [] kr) ∈ rest) (hp2 : (p2, tup [] kp2) ∈ rest) (hr2 : (r2, tup [] kr2) ∈ rest)
    (hl0 : 0 ≤ i) (hl1 : i < (bvs ++ [Value.ref ba]).length) (hlx : (bvs ++ [Value.ref ba])[(((bvs ++ [Value.ref ba]).length : Int) - 1 - i).toNat]? = some (.ref xa)) 
    (hx1 : (xa, instObj 157 xd) ∈ (ba, instObj 157 bd) :: (bd, dictOf (bEnt e1 bC bP bR (.int vals.length th) (.bool dead) (.bool false)) kbd) :: rest)
    (hx2 : (xd, dictOf (bEnt e2 (.int code tc) (.ref p) (.ref r) vH vD vB) kxd) ∈ (ba, instObj 157 bd) :: (bd, dictOf (bEnt e1 bC bP bR (.int vals.length th) (.bool dead) (.bool false)) kbd) :: rest)
    (hj0 : 0 ≤ j) (hj1 : j < (bvs ++ [Value.ref ba]).length) (hjx : (bvs ++ [Value.ref ba])[(((bvs ++ [Value.ref ba]).length : Int) - 1 - j).toNat]? = some (.ref ya)) 
    (hy1 : (ya, instObj 157 yd) ∈ (ba, instObj 157 bd) :: (bd, dictOf (bEnt e1 bC bP bR (.int vals.length th) (.bool dead) (.bool false)) kbd) :: rest)
    (hy2 : (yd, dictOf (bEnt e3 (.int code2 tc2) (.ref p2) (.ref r2) vH2 vD2 vB2) kyd) ∈ (ba, instObj 157 bd) :: (bd, dictOf (bEnt e1 bC bP bR (.int vals.length th) (.bool dead) (.bool false)) kbd) :: rest)
    (hP : ∀ kv', Post ((me, instObj 353 md) :: (md, dictOf (sEnt e0 (.ref kl) (.ref fl) (.int fni tfn) (.ref ll) (.ref rl) (.ref vl) (.ref bl) (.int at_ ta)) kd) :: (vl, lst vals kv') :: (bl, lst (bvs ++ [.ref ba]) kb) :: (ba, instObj 157 bd) :: (bd, dictOf (bEnt e1 bC bP bR (.int vals.length th) (.bool true) (.bool false)) kbd) :: rest)) :
    Does w 5 329 [.ref me, .ref ins] c news Post False keep "" (.int fni tfn) at_ := by
  subst hR
  intro base outer env A g L m s Q E C S k kE; refine' r_def C S (binds := [("instruction", .ref ins), ("self", .ref me)]) ?ho ?hcd ?hb ?hl ?_ ?c1 ?c2 ?c3 ?c4
  case ho => k_is
  case hcd => k_is
  case hb => exact BindsTo.of_eq rfl
  case hl => exact locs rfl
  case c1 => decide
  case c2 => exact rfl
  case c3 => exact rfl
  case c4 => exact rfl
  intro g1 L1 s1 C1 S1 F1; k_fold
  have hz2 : bvs.length ≤ 1000 := Nat.le_trans hz2 (by decide)
  (with_reducible refine k_as ?_; refine q_itT g0 S1 (M1 (M1 (M1 (M1 (M1 (M1 (hi))))))) (by with_unfolding_all exact fun _ _ => rfl) (by decide) (by decide) rfl rfl fun s105 S105 => ?_; clear S1; refine k_st S105 fun s107 S107 => ?_; clear S105; refine q_if g0 S107 fun τ113 α113 s113 S113 => ?_; clear S107); refine t_neg (by simp only [beq_iff_eq, decide_eq_true_eq]; lia) ?_; (with_reducible refine q_if g0 S113 fun τ121 α121 s121 S121 => ?_; clear S113); refine t_neg (by simp only [beq_iff_eq, decide_eq_true_eq]; lia) ?_; (with_reducible refine k_ex ?_; refine q_meth0 C1 (gk C1 (gl_I32 w) g0) S121 (meth_353_pop w) M0 (M1 M0) (keep_210 w) ?_); refine c_pop (C1.le (by decide)) S121 (by first | lia | (simp only [List.length_append, List.length_cons, List.length_nil]; lia)) hz2 (by first | lia | (simp only [List.length_append, List.length_cons, List.length_nil]; lia)) fun s135 S135 => ?_; clear S121; refine seq_next ?_; (with_reducible refine k_as ?_); refine r_meth ?_; refine r_loc S135 rfl ?_; refine r_getm C1 S135 (meth_353_target w) (.head _) (.tail _ (.head _)) rfl ?_; refine r_callK (keep_245 w) ?_; refine spliced_more ?_; (with_reducible refine q_itT g0 S135 (M1 (M1 (M1 (M1 (M1 (M1 (hi))))))) (by with_unfolding_all exact fun _ _ => rfl) (by decide) (by decide) rfl rfl fun s148 S148 => ?_; clear S135); refine spliced_none ?_; refine ⟨C1.inK S148, ?_⟩; rename St _ _ _ _ _ _ => S190; refine c_target (C1.le (by decide)) S190 (by simp only [List.length_append, List.length_cons, List.length_nil]; lia) hj0 hj1 hjx hy1 hy2 fun t2 s191 ht2 S191 => ?_
  obtain ⟨kt2, hmt2⟩ := tgt_mem ht2 hp2 hr2
  (with_reducible refine k_st S191 fun s201 S201 => ?_; clear S191); refine r_cons ?_; refine wpAny_For ?_; refine r_call ?_; refine r_bui C1 S201 (gb_range w) (by boot_by_name) (by decide) ?_; refine r_callT ?_; refine spliced_more ?_; refine r_int S201 fun t209 s209 S209 => ?_; clear S201; refine spliced_more ?_; refine wpAny_BinOp ?_; (with_reducible refine q_callB0 C1 g0 S209 (bb_len w) .B ?_); refine r_lenT S209 (.tail _ (.tail _ (.tail _ (.tail _ (.tail _ (.tail _ (hi))))))) (by (simp only [decide_eq_true_eq, List.length_append, List.length_cons, List.length_nil, List.length_reverse, List.length_replicate]; lia)) fun t218 s218 S218 => ?_; clear S209; refine r_int S218 fun t219 s219 S219 => ?_; clear S218; refine r_sub S219 fun t220 s220 S220 => ?_; clear S219; refine spliced_none ?_; refine r_range2 S220 fun r222 t222 u222 v222 s222 S222 => ?_; clear S220; rename St _ _ _ _ _ _ => S290; refine r_iterRange S290 .hd (small_up (k := 1) (by decide) (by simp only [List.length_cons, List.length_nil]; decide) (by simp only [List.length_cons, List.length_nil]; decide)).1 (small_up (k := 1) (by decide) (by simp only [List.length_cons, List.length_nil]; decide) (by simp only [List.length_cons, List.length_nil]; decide)).2 fun it s300 S300 => ?_
  refine r_forRange (I := fun _ m' news' => (m'.lookup ("self" : Str) = some (Value.ref me) ∧ m'.lookup ("last" : Str) = some (Value.ref t2) ∧ m'.lookup ("instruction" : Str) = some (Value.ref ins)) ∧ ∃ kv', news' = (me, instObj 353 md) :: (md, dictOf (sEnt e0 (.ref kl) (.ref fl) (.int fni tfn) (.ref ll) (.ref rl) (.ref vl) (.ref bl) (.int at_ ta)) kd) :: (vl, lst (vals ++ hv) kv') :: (bl, lst (bvs ++ [.ref ba]) kb) :: (ba, instObj 157 bd) :: (bd, dictOf (bEnt e1 bC bP bR (.int vals.length th) (.bool dead) (.bool false)) kbd) :: rest)
    C1 S300 ⟨⟨rfl, rfl, rfl⟩, _, rfl⟩ (fun _ _ _ _ _ _ S k => r_asg S k) (fun i' m₁ news₁ t50 s301 hi' hI S301 => ?_) (fun m₁ news₁ s302 hI S302 => ?_)
  · try k_fold
    obtain ⟨⟨hm1, hm2, hm3⟩, kv', rfl⟩ := hI
    have hi0 : i' = 0 := by lia
    subst hi0
    try k_fold
    (with_reducible refine k_as ?_); refine r_meth ?_; refine r_loc S301 hm1 ?_; refine r_getm C1 S301 (meth_353_target w) (.tail _ (.head _)) (.tail _ (.tail _ (.head _))) rfl ?_; refine r_callK (keep_245 w) ?_; refine spliced_more ?_; refine Subscript_ ?_; refine r_loc S301 hm3 ?_; refine r_loc S301 rfl ?_; refine r_itemT S301 (by repeat (first | exact List.Mem.head _ | refine List.Mem.tail _ ?_ | assumption)) (by decide) (by decide) rfl rfl ?_; refine spliced_none ?_; refine ⟨C1.inK S301, ?_⟩; rename St _ _ _ _ _ _ => S490; refine c_target (C1.le (by decide)) S490.rot_1_6 (by simp only [List.length_append, List.length_cons, List.length_nil]; lia) hl0 hl1 hlx (mem_ins2 hx1) (mem_ins2 hx2) fun t1' s491 ht1 S491 => ?_
    obtain ⟨kt1, hmt1⟩ := tgt_mem ht1 hp hr
    (with_reducible refine k_st S491 fun s501 S501 => ?_; clear S491; refine k_if ?_); refine wpAny_isTrue_Compare1 ?_; (with_reducible refine q_callB0 C1 g0 S501 (bb_len w) .B ?_); refine r_lenT S501 (.tail _ (.tail _ (.tail _ (.tail _ (.tail _ (.tail _ (.tail _ (hmt1)))))))) (by decide) fun t512 s512 S512 => ?_; clear S501; refine r_call ?_; refine r_bui C1 S512 (gb_len w) (by boot_by_name) (by decide) ?_; refine r_callB ?_; refine spliced_more ?_; refine r_loc S512 hm2 ?_; refine spliced_none ?_; refine r_lenT S512 (.tail _ (.tail _ (.tail _ (.tail _ (.tail _ (.tail _ (.tail _ (hmt2)))))))) (by decide) fun t519 s519 S519 => ?_; clear S512; refine ne_int ?_; refine wpAny_truthy_bool ?_; refine t_ff ?_; refine wpAny_execs_nil ?_; refine seq_next ?_; (with_reducible refine k_ex ?_); refine r_meth ?_; refine r_loc S519 hm1 ?_; refine r_getm C1 S519 (meth_353_push_all w) (.head _) (.tail _ (.head _)) rfl ?_; refine r_callK (keep_196 w) ?_; refine spliced_more ?_; refine r_meth ?_; refine r_loc S519 hm1 ?_; refine r_getm C1 S519 (meth_353_pop_all w) (.head _) (.tail _ (.head _)) rfl ?_; refine r_callK (keep_217 w) ?_; (with_reducible refine q_sp0 g0 S519 ?_); refine ⟨C1.inK S519, ?_⟩; refine c_pop_allL (C1.le (by decide)) S519 (by repeat (first | exact List.Mem.head _ | refine List.Mem.tail _ ?_ | assumption)) (by first | lia | (simp only [List.length_append, List.length_cons, List.length_nil]; lia)) hz2 (by first | lia | (simp only [List.length_append, List.length_cons, List.length_nil]; lia)) fun fl540 fk540 kv540 s540 S540 => ?_; clear S519; refine spliced_none ?_; refine ⟨C1.inK S540, ?_⟩; refine c_push_allL (C1.le (by decide)) S540 fun s543 S543 => ?_; clear S540; (with_reducible refine k_sn ?_); rename St _ _ _ _ _ _ => S590; refine ⟨_, _, ?_, S590.rot_6_1⟩; exact ⟨⟨hm1, hm2, hm3⟩, _, rfl⟩
  · try k_fold
    obtain ⟨⟨hm1, hm2, hm3⟩, kv', rfl⟩ := hI
    refine seq_next ?_
    try k_fold
    (with_reducible refine k_ex ?_); refine r_meth ?_; refine r_loc S302 hm1 ?_; refine r_getm C1 S302 (meth_353_pop_all w) (.head _) (.tail _ (.head _)) rfl ?_; refine r_callK (keep_217 w) ?_; refine spliced_more ?_; refine r_loc S302 hm2 ?_; refine spliced_none ?_; refine ⟨C1.inK S302, ?_⟩; refine c_pop_allL (C1.le (by decide)) S302 (by repeat (first | exact List.Mem.head _ | refine List.Mem.tail _ ?_ | assumption)) (by first | lia | (simp only [List.length_append, List.length_cons, List.length_nil]; lia)) hz2 (by first | lia | (simp only [List.length_append, List.length_cons, List.length_nil]; lia)) fun fl612 fk612 kv612 s612 S612 => ?_; clear S302; refine seq_next ?_; (with_reducible refine k_ex ?_); refine r_meth ?_; refine r_loc S612 hm1 ?_; refine r_getm C1 S612 (meth_353_kill w) (.head _) (.tail _ (.head _)) rfl ?_; refine r_callK0 C1 S612 (keep_238 w) ?_; rename St _ _ _ _ _ _ => S690; refine c_kill (C1.le (by decide)) (S690.drop (.tl (.tl .hd))) hz hz2 fun kv'' s691 S691 => ?_; (with_reducible refine k_sn ?_; refine k_sn ?_; refine k_sn ?_); k_unfold; refine r_leave S691 fun S691 => ?_; exact k _ _ _ (hP ..) (by assumption)
theorem d_br14Xa (hR : news = (me, instObj 353 md) :: (md, dictOf (sEnt e0 (.ref kl) (.ref fl) (.int fni tfn) (.ref ll) (.ref rl) (.ref vl) (.ref bl) (.int at_ ta)) kd) :: (vl, lst (vals ++ [.int (-1) t1]) kv) :: (bl, lst (bvs ++ [.ref ba]) kb) :: (ba, instObj 157 bd) :: (bd, dictOf (bEnt e1 bC bP bR (.int bh th) (.bool false) (.bool false)) kbd) :: rest)
    (hi : (ins, tup [.int 14 tk, .int i tk2, .int j tk3] ki) ∈ rest) (hz : vals.length ≤ 900) (hz2 : bvs.length ≤ 900) (hh : bh ≤ vals.length)
    (hl0 : 0 ≤ j) (hl1 : (bvs ++ [Value.ref ba]).length ≤ j) (hk : ∀ q ∈ keep, q ∈ rest) :
    Does w 5 329 [.ref me, .ref ins] c news Post True keep "unknown label" (.int fni tfn) at_ := by
  subst hR
  intro base outer env A g L m s Q E C S k kE; refine' r_def C S (binds := [("instruction", .ref ins), ("self", .ref me)]) ?ho ?hcd ?hb ?hl ?_ ?c1 ?c2 ?c3 ?c4
  case ho => k_is
  case hcd => k_is
  case hb => exact BindsTo.of_eq rfl
  case hl => exact locs rfl
  case c1 => decide
  case c2 => exact rfl
  case c3 => exact rfl
  case c4 => exact rfl
  intro g1 L1 s1 C1 S1 F1; k_fold
  have hz2 : bvs.length ≤ 1000 := Nat.le_trans hz2 (by decide)
  (with_reducible refine k_as ?_; refine q_itT g0 S1 (M1 (M1 (M1 (M1 (M1 (M1 (hi))))))) (by with_unfolding_all exact fun _ _ => rfl) (by decide) (by decide) rfl rfl fun s805 S805 => ?_; clear S1; refine k_st S805 fun s807 S807 => ?_; clear S805; refine q_if g0 S807 fun τ813 α813 s813 S813 => ?_; clear S807); refine t_neg (by simp only [beq_iff_eq, decide_eq_true_eq]; lia) ?_; (with_reducible refine q_if g0 S813 fun τ821 α821 s821 S821 => ?_; clear S813); refine t_neg (by simp only [beq_iff_eq, decide_eq_true_eq]; lia) ?_; (with_reducible refine k_ex ?_; refine q_meth0 C1 (gk C1 (gl_I32 w) g0) S821 (meth_353_pop w) M0 (M1 M0) (keep_210 w) ?_); refine c_pop (C1.le (by decide)) S821 (by first | lia | (simp only [List.length_append, List.length_cons, List.length_nil]; lia)) hz2 (by first | lia | (simp only [List.length_append, List.length_cons, List.length_nil]; lia)) fun s835 S835 => ?_; clear S821; refine seq_next ?_; (with_reducible refine k_as ?_); refine r_meth ?_; refine r_loc S835 rfl ?_; refine r_getm C1 S835 (meth_353_target w) (.head _) (.tail _ (.head _)) rfl ?_; refine r_callK (keep_245 w) ?_; refine spliced_more ?_; (with_reducible refine q_itT g0 S835 (M1 (M1 (M1 (M1 (M1 (M1 (hi))))))) (by with_unfolding_all exact fun _ _ => rfl) (by decide) (by decide) rfl rfl fun s848 S848 => ?_; clear S835); refine spliced_none ?_; refine ⟨C1.inK S848, ?_⟩; exact c_targetX (C1.le (by decide)) S848 (by first | lia | (simp only [List.length_append, List.length_cons, List.length_nil]; lia)) hl0 hl1 (fun q hq => by repeat (first | exact hk q hq | refine List.Mem.tail _ ?_)) fun _ v s' R => x_on C1 R F1 (kE trivial _)
theorem d_br14Xb {ya yd p2 r2 : Addr} {e3 : Nat → Int × Tok} {code2 : Int} {tc2 : Tok} {vH2 vD2 vB2 : Value} {kyd kp2 kr2 : Nat} (hR : news = (me, instObj 353 md) :: (md, dictOf (sEnt e0 (.ref kl) (.ref fl) (.int fni tfn) (.ref ll) (.ref rl) (.ref vl) (.ref bl) (.int at_ ta)) kd) :: (vl, lst (vals ++ [.int (-1) t1]) kv) :: (bl, lst (bvs ++ [.ref ba]) kb) :: (ba, instObj 157 bd) :: (bd, dictOf (bEnt e1 bC bP bR (.int bh th) (.bool false) (.bool false)) kbd) :: rest)
    (hi : (ins, tup [.int 14 tk, .int i tk2, .int j tk3] ki) ∈ rest) (hz : vals.length ≤ 900) (hz2 : bvs.length ≤ 900) (hh : bh ≤ vals.length) (hp2 : (p2, tup [] kp2) ∈ rest) (hr2 : (r2, tup [] kr2) ∈ rest)
    (hl0 : 0 ≤ i) (hl1 : (bvs ++ [Value.ref ba]).length ≤ i) (hk : ∀ q ∈ keep, q ∈ rest)
    (hj0 : 0 ≤ j) (hj1 : j < (bvs ++ [Value.ref ba]).length) (hjx : (bvs ++ [Value.ref ba])[(((bvs ++ [Value.ref ba]).length : Int) - 1 - j).toNat]? = some (.ref ya)) 
    (hy1 : (ya, instObj 157 yd) ∈ (ba, instObj 157 bd) :: (bd, dictOf (bEnt e1 bC bP bR (.int bh th) (.bool false) (.bool false)) kbd) :: rest) (hy2 : (yd, dictOf (bEnt e3 (.int code2 tc2) (.ref p2) (.ref r2) vH2 vD2 vB2) kyd) ∈ (ba, instObj 157 bd) :: (bd, dictOf (bEnt e1 bC bP bR (.int bh th) (.bool false) (.bool false)) kbd) :: rest) :
    Does w 5 329 [.ref me, .ref ins] c news Post True keep "unknown label" (.int fni tfn) at_ := by
  subst hR
  intro base outer env A g L m s Q E C S k kE; refine' r_def C S (binds := [("instruction", .ref ins), ("self", .ref me)]) ?ho ?hcd ?hb ?hl ?_ ?c1 ?c2 ?c3 ?c4
  case ho => k_is
  case hcd => k_is
  case hb => exact BindsTo.of_eq rfl
  case hl => exact locs rfl
  case c1 => decide
  case c2 => exact rfl
  case c3 => exact rfl
  case c4 => exact rfl
  intro g1 L1 s1 C1 S1 F1; k_fold
  have hz2 : bvs.length ≤ 1000 := Nat.le_trans hz2 (by decide)
  have hxx := hl1
  clear hl1; (with_reducible refine k_as ?_; refine q_itT g0 S1 (M1 (M1 (M1 (M1 (M1 (M1 (hi))))))) (by with_unfolding_all exact fun _ _ => rfl) (by decide) (by decide) rfl rfl fun s905 S905 => ?_; clear S1; refine k_st S905 fun s907 S907 => ?_; clear S905; refine q_if g0 S907 fun τ913 α913 s913 S913 => ?_; clear S907); refine t_neg (by simp only [beq_iff_eq, decide_eq_true_eq]; lia) ?_; (with_reducible refine q_if g0 S913 fun τ921 α921 s921 S921 => ?_; clear S913); refine t_neg (by simp only [beq_iff_eq, decide_eq_true_eq]; lia) ?_; (with_reducible refine k_ex ?_; refine q_meth0 C1 (gk C1 (gl_I32 w) g0) S921 (meth_353_pop w) M0 (M1 M0) (keep_210 w) ?_); refine c_pop (C1.le (by decide)) S921 (by first | lia | (simp only [List.length_append, List.length_cons, List.length_nil]; lia)) hz2 (by first | lia | (simp only [List.length_append, List.length_cons, List.length_nil]; lia)) fun s935 S935 => ?_; clear S921; refine seq_next ?_; (with_reducible refine k_as ?_); refine r_meth ?_; refine r_loc S935 rfl ?_; refine r_getm C1 S935 (meth_353_target w) (.head _) (.tail _ (.head _)) rfl ?_; refine r_callK (keep_245 w) ?_; refine spliced_more ?_; (with_reducible refine q_itT g0 S935 (M1 (M1 (M1 (M1 (M1 (M1 (hi))))))) (by with_unfolding_all exact fun _ _ => rfl) (by decide) (by decide) rfl rfl fun s948 S948 => ?_; clear S935); refine spliced_none ?_; refine ⟨C1.inK S948, ?_⟩; rename St _ _ _ _ _ _ => S990; refine c_target (C1.le (by decide)) S990 (by simp only [List.length_append, List.length_cons, List.length_nil]; lia) hj0 hj1 hjx hy1 hy2 fun t2 s991 ht2 S991 => ?_
  obtain ⟨kt2, hmt2⟩ := tgt_mem ht2 hp2 hr2
  (with_reducible refine k_st S991 fun s1001 S1001 => ?_; clear S991); refine r_cons ?_; refine wpAny_For ?_; refine r_call ?_; refine r_bui C1 S1001 (gb_range w) (by boot_by_name) (by decide) ?_; refine r_callT ?_; refine spliced_more ?_; refine r_int S1001 fun t1009 s1009 S1009 => ?_; clear S1001; refine spliced_more ?_; refine wpAny_BinOp ?_; (with_reducible refine q_callB0 C1 g0 S1009 (bb_len w) .B ?_); refine r_lenT S1009 (.tail _ (.tail _ (.tail _ (.tail _ (.tail _ (.tail _ (hi))))))) (by (simp only [decide_eq_true_eq, List.length_append, List.length_cons, List.length_nil, List.length_reverse, List.length_replicate]; lia)) fun t1018 s1018 S1018 => ?_; clear S1009; refine r_int S1018 fun t1019 s1019 S1019 => ?_; clear S1018; refine r_sub S1019 fun t1020 s1020 S1020 => ?_; clear S1019; refine spliced_none ?_; refine r_range2 S1020 fun r1022 t1022 u1022 v1022 s1022 S1022 => ?_; clear S1020; rename St _ _ _ _ _ _ => S1090; refine r_iterRange S1090 .hd (small_up (k := 1) (by decide) (by simp only [List.length_cons, List.length_nil]; decide) (by simp only [List.length_cons, List.length_nil]; decide)).1 (small_up (k := 1) (by decide) (by simp only [List.length_cons, List.length_nil]; decide) (by simp only [List.length_cons, List.length_nil]; decide)).2 fun it s1100 S1100 => ?_
  refine r_forRange (I := fun i' m' news' => i' = 0 ∧ (m'.lookup ("self" : Str) = some (Value.ref me) ∧ m'.lookup ("last" : Str) = some (Value.ref t2) ∧ m'.lookup ("instruction" : Str) = some (Value.ref ins)) ∧ ∃ kv', news' = (me, instObj 353 md) :: (md, dictOf (sEnt e0 (.ref kl) (.ref fl) (.int fni tfn) (.ref ll) (.ref rl) (.ref vl) (.ref bl) (.int at_ ta)) kd) :: (vl, lst vals kv') :: (bl, lst (bvs ++ [.ref ba]) kb) :: (ba, instObj 157 bd) :: (bd, dictOf (bEnt e1 bC bP bR (.int bh th) (.bool false) (.bool false)) kbd) :: rest)
    C1 S1100 ⟨rfl, ⟨rfl, rfl, rfl⟩, _, rfl⟩ (fun _ _ _ _ _ _ S k => r_asg S k) (fun i' m₁ news₁ t50 s1101 hi' hI S1101 => ?_) (fun m₁ news₁ s1102 hI S1102 => ?_)
  · try k_fold
    obtain ⟨hi0, ⟨hm1, hm2, hm3⟩, kv', rfl⟩ := hI
    subst hi0
    try k_fold
    (with_reducible refine k_as ?_); refine r_meth ?_; refine r_loc S1101 hm1 ?_; refine r_getm C1 S1101 (meth_353_target w) (.tail _ (.head _)) (.tail _ (.tail _ (.head _))) rfl ?_; refine r_callK (keep_245 w) ?_; refine spliced_more ?_; refine Subscript_ ?_; refine r_loc S1101 hm3 ?_; refine r_loc S1101 rfl ?_; refine r_itemT S1101 (by repeat (first | exact List.Mem.head _ | refine List.Mem.tail _ ?_ | assumption)) (by decide) (by decide) rfl rfl ?_; refine spliced_none ?_; refine ⟨C1.inK S1101, ?_⟩; rename St _ _ _ _ _ _ => S1290; exact c_targetX (C1.le (by decide)) S1290.rot_1_6 (by simp only [List.length_append, List.length_cons, List.length_nil]; lia) hl0 hxx (fun q hq => .tail _ (.tail _ (.tail _ (hk q hq)))) fun _ v s' R => x_loop C1 R fun s'' R' => x_held C1 R' F1 (kE trivial _)
  · exact absurd hI.1 (by decide)
end
end Mine
end
section
open PySem PySem.W PyProof.Rows PySem.Calls PySem.Spec
set_option maxHeartbeats 1000000
namespace Mine

section
variable {w : World} {c : Shared} {me md kl fl ll rl vl bl : Addr} {e0 : Nat → Int × Tok} {fni : Int} {tfn : Tok} {kd : Nat} {at_ : Int} {ta : Tok} {keep : Led} {news rest : Led}
variable {ins : Addr} {a1 a2 : Value} {args : List Value} {tk tk2 tk3 t1 : Tok} {kvs fvs : List Value} {kk ki fk n : Nat} {told code : Int} {Post : Led → Prop} {X : Prop} {why : Str}
variable {ba bd : Addr} {e1 e2 : Nat → Int × Tok} {bC bP bR : Value} {th tc : Tok} {kbd kxd : Nat} {vals hv bvs : List Value} {kv kb : Nat} {bh : Nat} {p r xa xd ka p0 r0 : Addr} {kp kr k0 k1 k2 k3 : Nat} {dead : Bool} {i j : Int} {vH vD vB : Value}
theorem d_ctl_els (hR : news = (me, instObj 353 md) :: (md, dictOf (sEnt e0 (.ref kl) (.ref fl) (.int fni tfn) (.ref ll) (.ref rl) (.ref vl) (.ref bl) (.int at_ ta)) kd) :: rest) (hi : (ins, tup [.int 5 tk] ki) ∈ rest) (H : Does w n 315 [.ref me] c news Post X keep why (.int fni tfn) at_) (hn : 1 ≤ n) :
    Does w (n + 1) 308 [.ref me, .ref ins] c news Post X keep why (.int fni tfn) at_ := by
  subst hR
  intro base outer env A g L m s Q E C S k kE; refine' r_def C S (binds := [("instruction", .ref ins), ("self", .ref me)]) ?ho ?hcd ?hb ?hl ?_ ?c1 ?c2 ?c3 ?c4
  case ho => k_is
  case hcd => k_is
  case hb => exact BindsTo.of_eq rfl
  case hl => exact locs rfl
  case c1 => decide
  case c2 => exact rfl
  case c3 => exact rfl
  case c4 => exact rfl
  intro g1 L1 s1 C1 S1 F1; k_fold; (with_reducible refine k_as ?_; refine q_itT g0 S1 (M1 (M1 (hi))) (by with_unfolding_all exact fun _ _ => rfl) (by decide) (by decide) rfl rfl fun s5 S5 => ?_; clear S1; refine k_st S5 fun s7 S7 => ?_; clear S5; refine q_if g0 S7 fun τ13 α13 s13 S13 => ?_; clear S7); refine t_neg (by simp only [beq_iff_eq, decide_eq_true_eq]; lia) ?_; (with_reducible refine k_if ?_); refine isTrue_plain ?_; (with_reducible refine q_call0 C1 g0 S13 (gl_is_block w) (keep_87 w) ?_); rename St _ _ _ _ _ _ => S90; refine c_is_block (C1.le hn) S90 rfl fun s91 S91 => ?_; refine wpAny_truthy_bool ?_; refine t_ff ?_; (with_reducible refine k_if ?_); refine wpAny_isTrue_Compare1 ?_; refine r_loc S91 rfl ?_; refine r_glb C1 S91 (gl_ELSE w) ?_; refine eq_int ?_; refine wpAny_truthy_bool ?_; refine t_tt ?_; (with_reducible refine k_ex ?_; refine q_meth0 C1 g0 S91 (meth_353_other w) M0 (M1 M0) (keep_315 w) ?_); refine H C1 S91 (fun v67 news67 s67 hp67 S67 => ?_) (fun x v s' R => x_on C1 R F1 (kE x _)); clear S91; (with_reducible refine k_sn ?_; refine k_sn ?_; refine k_sn ?_; refine k_sn ?_); k_unfold; refine r_leave S67 fun S67 => ?_
  rename Post _ => hp
  exact k _ _ _ hp (by assumption)
theorem d_ctl_end (hR : news = (me, instObj 353 md) :: (md, dictOf (sEnt e0 (.ref kl) (.ref fl) (.int fni tfn) (.ref ll) (.ref rl) (.ref vl) (.ref bl) (.int at_ ta)) kd) :: rest) (hi : (ins, tup [.int 11 tk] ki) ∈ rest) (H : Does w n 322 [.ref me] c news Post X keep why (.int fni tfn) at_) (hn : 1 ≤ n) :
    Does w (n + 1) 308 [.ref me, .ref ins] c news Post X keep why (.int fni tfn) at_ := by
  subst hR
  intro base outer env A g L m s Q E C S k kE; refine' r_def C S (binds := [("instruction", .ref ins), ("self", .ref me)]) ?ho ?hcd ?hb ?hl ?_ ?c1 ?c2 ?c3 ?c4
  case ho => k_is
  case hcd => k_is
  case hb => exact BindsTo.of_eq rfl
  case hl => exact locs rfl
  case c1 => decide
  case c2 => exact rfl
  case c3 => exact rfl
  case c4 => exact rfl
  intro g1 L1 s1 C1 S1 F1; k_fold; (with_reducible refine k_as ?_; refine q_itT g0 S1 (M1 (M1 (hi))) (by with_unfolding_all exact fun _ _ => rfl) (by decide) (by decide) rfl rfl fun s105 S105 => ?_; clear S1; refine k_st S105 fun s107 S107 => ?_; clear S105; refine q_if g0 S107 fun τ113 α113 s113 S113 => ?_; clear S107); refine t_neg (by simp only [beq_iff_eq, decide_eq_true_eq]; lia) ?_; (with_reducible refine k_if ?_); refine isTrue_plain ?_; (with_reducible refine q_call0 C1 g0 S113 (gl_is_block w) (keep_87 w) ?_); rename St _ _ _ _ _ _ => S190; refine c_is_block (C1.le hn) S190 rfl fun s191 S191 => ?_; refine wpAny_truthy_bool ?_; refine t_ff ?_; (with_reducible refine k_if ?_); refine wpAny_isTrue_Compare1 ?_; refine r_loc S191 rfl ?_; refine r_glb C1 S191 (gl_ELSE w) ?_; refine eq_int ?_; refine wpAny_truthy_bool ?_; refine t_neg (by simp only [beq_iff_eq, decide_eq_true_eq]; lia) ?_; (with_reducible refine q_if g0 S191 fun τ165 α165 s165 S165 => ?_; clear S191); refine t_tt ?_; (with_reducible refine k_ex ?_; refine q_meth0 C1 g0 S165 (meth_353_end w) M0 (M1 M0) (keep_322 w) ?_); refine H C1 S165 (fun v175 news175 s175 hp175 S175 => ?_) (fun x v s' R => x_on C1 R F1 (kE x _)); clear S165; (with_reducible refine k_sn ?_; refine k_sn ?_; refine k_sn ?_; refine k_sn ?_; refine k_sn ?_); k_unfold; refine r_leave S175 fun S175 => ?_
  rename Post _ => hp
  exact k _ _ _ hp (by assumption)
theorem d_ctl_br (hR : news = (me, instObj 353 md) :: (md, dictOf (sEnt e0 (.ref kl) (.ref fl) (.int fni tfn) (.ref ll) (.ref rl) (.ref vl) (.ref bl) (.int at_ ta)) kd) :: rest) (hi : (ins, tup (.int code tk :: args) ki) ∈ rest) (hz : args.length ≤ 10) (hc : code = 12 ∨ code = 13 ∨ code = 14) (H : Does w n 329 [.ref me, .ref ins] c news Post X keep why (.int fni tfn) at_) (hn : 1 ≤ n) :
    Does w (n + 1) 308 [.ref me, .ref ins] c news Post X keep why (.int fni tfn) at_ := by
  subst hR
  intro base outer env A g L m s Q E C S k kE; refine' r_def C S (binds := [("instruction", .ref ins), ("self", .ref me)]) ?ho ?hcd ?hb ?hl ?_ ?c1 ?c2 ?c3 ?c4
  case ho => k_is
  case hcd => k_is
  case hb => exact BindsTo.of_eq rfl
  case hl => exact locs rfl
  case c1 => decide
  case c2 => exact rfl
  case c3 => exact rfl
  case c4 => exact rfl
  intro g1 L1 s1 C1 S1 F1; k_fold; (with_reducible refine k_as ?_); refine Subscript_ ?_; refine r_loc S1 rfl ?_; refine r_int S1 fun t205 s205 S205 => ?_; clear S1; rename St _ _ _ _ _ _ => S290; refine r_itemTn S290 (.tail _ (.tail _ hi)) (by decide) (by simp only [List.length_cons]; lia) (by simp only [List.length_cons]; lia) rfl ?_
  rcases hc with rfl | rfl | rfl
  · (with_reducible refine k_st S290 fun s301 S301 => ?_; clear S290; refine q_if g0 S301 fun τ307 α307 s307 S307 => ?_; clear S301); refine t_neg (by simp only [beq_iff_eq, decide_eq_true_eq]; lia) ?_; (with_reducible refine k_if ?_); refine isTrue_plain ?_; (with_reducible refine q_call0 C1 g0 S307 (gl_is_block w) (keep_87 w) ?_); rename St _ _ _ _ _ _ => S390; refine c_is_block (C1.le hn) S390 rfl fun s391 S391 => ?_; refine wpAny_truthy_bool ?_; refine t_ff ?_; (with_reducible refine k_if ?_); refine wpAny_isTrue_Compare1 ?_; refine r_loc S391 rfl ?_; refine r_glb C1 S391 (gl_ELSE w) ?_; refine eq_int ?_; refine wpAny_truthy_bool ?_; refine t_neg (by simp only [beq_iff_eq, decide_eq_true_eq]; lia) ?_; (with_reducible refine q_if g0 S391 fun τ365 α365 s365 S365 => ?_; clear S391); refine t_neg (by simp only [beq_iff_eq, decide_eq_true_eq]; lia) ?_; (with_reducible refine k_if ?_); refine wpAny_isTrue_Compare1 ?_; refine r_loc S365 rfl ?_; (with_reducible refine q_ev g0 S365 fun τ381 α381 s381 S381 => ?_; clear S365); refine r_inTupD S381 (.cons _ _ (.cons _ _ (.cons _ _ .nil))) rfl fun S382 => ?_; clear S381; refine wpAny_truthy_bool ?_; refine t_tt ?_; (with_reducible refine k_ex ?_; refine q_meth0 C1 g0 S382 (meth_353_branch w) M0 (M1 M0) (keep_329 w) ?_); refine H C1 S382 (fun v395 news395 s395 hp395 S395 => ?_) (fun x v s' R => x_on C1 R F1 (kE x _)); clear S382; (with_reducible refine k_sn ?_; refine k_sn ?_; refine k_sn ?_; refine k_sn ?_; refine k_sn ?_; refine k_sn ?_); k_unfold; refine r_leave S395 fun S395 => ?_
    rename Post _ => hp
    exact k _ _ _ hp (by assumption)
  · (with_reducible refine k_st S290 fun s401 S401 => ?_; clear S290; refine q_if g0 S401 fun τ407 α407 s407 S407 => ?_; clear S401); refine t_neg (by simp only [beq_iff_eq, decide_eq_true_eq]; lia) ?_; (with_reducible refine k_if ?_); refine isTrue_plain ?_; (with_reducible refine q_call0 C1 g0 S407 (gl_is_block w) (keep_87 w) ?_); rename St _ _ _ _ _ _ => S490; refine c_is_block (C1.le hn) S490 rfl fun s491 S491 => ?_; refine wpAny_truthy_bool ?_; refine t_ff ?_; (with_reducible refine k_if ?_); refine wpAny_isTrue_Compare1 ?_; refine r_loc S491 rfl ?_; refine r_glb C1 S491 (gl_ELSE w) ?_; refine eq_int ?_; refine wpAny_truthy_bool ?_; refine t_neg (by simp only [beq_iff_eq, decide_eq_true_eq]; lia) ?_; (with_reducible refine q_if g0 S491 fun τ465 α465 s465 S465 => ?_; clear S491); refine t_neg (by simp only [beq_iff_eq, decide_eq_true_eq]; lia) ?_; (with_reducible refine k_if ?_); refine wpAny_isTrue_Compare1 ?_; refine r_loc S465 rfl ?_; (with_reducible refine q_ev g0 S465 fun τ481 α481 s481 S481 => ?_; clear S465); refine r_inTupD S481 (.cons _ _ (.cons _ _ (.cons _ _ .nil))) rfl fun S482 => ?_; clear S481; refine wpAny_truthy_bool ?_; refine t_tt ?_; (with_reducible refine k_ex ?_; refine q_meth0 C1 g0 S482 (meth_353_branch w) M0 (M1 M0) (keep_329 w) ?_); refine H C1 S482 (fun v495 news495 s495 hp495 S495 => ?_) (fun x v s' R => x_on C1 R F1 (kE x _)); clear S482; (with_reducible refine k_sn ?_; refine k_sn ?_; refine k_sn ?_; refine k_sn ?_; refine k_sn ?_; refine k_sn ?_); k_unfold; refine r_leave S495 fun S495 => ?_
    rename Post _ => hp
    exact k _ _ _ hp (by assumption)
  · (with_reducible refine k_st S290 fun s501 S501 => ?_; clear S290; refine q_if g0 S501 fun τ507 α507 s507 S507 => ?_; clear S501); refine t_neg (by simp only [beq_iff_eq, decide_eq_true_eq]; lia) ?_; (with_reducible refine k_if ?_); refine isTrue_plain ?_; (with_reducible refine q_call0 C1 g0 S507 (gl_is_block w) (keep_87 w) ?_); rename St _ _ _ _ _ _ => S590; refine c_is_block (C1.le hn) S590 rfl fun s591 S591 => ?_; refine wpAny_truthy_bool ?_; refine t_ff ?_; (with_reducible refine k_if ?_); refine wpAny_isTrue_Compare1 ?_; refine r_loc S591 rfl ?_; refine r_glb C1 S591 (gl_ELSE w) ?_; refine eq_int ?_; refine wpAny_truthy_bool ?_; refine t_neg (by simp only [beq_iff_eq, decide_eq_true_eq]; lia) ?_; (with_reducible refine q_if g0 S591 fun τ565 α565 s565 S565 => ?_; clear S591); refine t_neg (by simp only [beq_iff_eq, decide_eq_true_eq]; lia) ?_; (with_reducible refine k_if ?_); refine wpAny_isTrue_Compare1 ?_; refine r_loc S565 rfl ?_; (with_reducible refine q_ev g0 S565 fun τ581 α581 s581 S581 => ?_; clear S565); refine r_inTupD S581 (.cons _ _ (.cons _ _ (.cons _ _ .nil))) rfl fun S582 => ?_; clear S581; refine wpAny_truthy_bool ?_; refine t_tt ?_; (with_reducible refine k_ex ?_; refine q_meth0 C1 g0 S582 (meth_353_branch w) M0 (M1 M0) (keep_329 w) ?_); refine H C1 S582 (fun v595 news595 s595 hp595 S595 => ?_) (fun x v s' R => x_on C1 R F1 (kE x _)); clear S582; (with_reducible refine k_sn ?_; refine k_sn ?_; refine k_sn ?_; refine k_sn ?_; refine k_sn ?_; refine k_sn ?_); k_unfold; refine r_leave S595 fun S595 => ?_
    rename Post _ => hp
    exact k _ _ _ hp (by assumption)
theorem d_call0 (hR : news = (me, instObj 353 md) :: (md, dictOf (sEnt e0 (.ref kl) (.ref fl) (.int fni tfn) (.ref ll) (.ref rl) (.ref vl) (.ref bl) (.int at_ ta)) kd) :: (vl, lst vals kv) :: (bl, lst (bvs ++ [.ref ba]) kb) :: (ba, instObj 157 bd) :: (bd, dictOf (bEnt e1 bC bP bR (.int bh th) (.bool false) (.bool false)) kbd) :: rest)
    (hz : vals.length ≤ 900) (hz2 : bvs.length ≤ 1000) (hh : bh ≤ vals.length) (ha : (ka, tup [.ref p0, .ref r0] k0) ∈ rest) (hp : (p0, tup [] k1) ∈ rest) (hr : (r0, tup [] k2) ∈ rest)
    (hP : ∀ kv', Post ((me, instObj 353 md) :: (md, dictOf (sEnt e0 (.ref kl) (.ref fl) (.int fni tfn) (.ref ll) (.ref rl) (.ref vl) (.ref bl) (.int at_ ta)) kd) :: (vl, lst vals kv') :: (bl, lst (bvs ++ [.ref ba]) kb) :: (ba, instObj 157 bd) :: (bd, dictOf (bEnt e1 bC bP bR (.int bh th) (.bool false) (.bool false)) kbd) :: rest)) :
    Does w 5 336 [.ref me, .ref ka, .bool false] c news Post False keep "" (.int fni tfn) at_ := by
  subst hR
  intro base outer env A g L m s Q E C S k kE; refine' r_def C S (binds := [("is_tail", .bool false), ("kind", .ref ka), ("self", .ref me)]) ?ho ?hcd ?hb ?hl ?_ ?c1 ?c2 ?c3 ?c4
  case ho => k_is
  case hcd => k_is
  case hb => exact BindsTo.of_eq rfl
  case hl => exact locs rfl
  case c1 => decide
  case c2 => exact rfl
  case c3 => exact rfl
  case c4 => exact rfl
  intro g1 L1 s1 C1 S1 F1; k_fold; refine r_cons ?_; refine Assign_Tuple ?_; refine r_loc S1 rfl ?_; refine r_unpackT C1 S1 (.tail _ (.tail _ (.tail _ (.tail _ (.tail _ (.tail _ (ha))))))) rfl rfl fun s604 S604 => ?_; clear S1; refine r_orderN ?_; refine r_asg S604 fun s606 S606 => ?_; clear S604; refine r_orderN ?_; refine r_asg S606 fun s608 S608 => ?_; clear S606; refine r_order0 ?_; refine seq_next ?_; (with_reducible refine k_if ?_); refine isTrue_and ?_; refine isTrue_plain ?_; refine r_loc S608 rfl ?_; refine wpAny_truthy_bool ?_; refine t_ff ?_; refine t_ff ?_; refine wpAny_execs_nil ?_; refine seq_next ?_; (with_reducible refine k_ex ?_; refine q_meth0 C1 g0 S608 (meth_353_pop_all w) M0 (M1 M0) (keep_217 w) ?_); refine c_pop_all0 (C1.le (by decide)) S608 (by repeat (first | exact List.Mem.head _ | refine List.Mem.tail _ ?_ | assumption)) (by first | lia | (simp only [List.length_append, List.length_cons, List.length_nil]; lia)) hz2 (by first | lia | (simp only [List.length_append, List.length_cons, List.length_nil]; lia)) fun fl631 kv631 s631 S631 => ?_; clear S608; refine seq_next ?_; (with_reducible refine k_if ?_); refine isTrue_plain ?_; refine r_loc S631 rfl ?_; refine wpAny_truthy_bool ?_; refine t_ff ?_; (with_reducible refine k_ex ?_; refine q_meth0 C1 g0 S631 (meth_353_push_all w) M0 (M1 M0) (keep_196 w) ?_); refine c_push_all0 (C1.le (by decide)) S631 (by repeat (first | exact List.Mem.head _ | refine List.Mem.tail _ ?_ | assumption)) fun s649 S649 => ?_; clear S631; (with_reducible refine k_sn ?_; refine k_sn ?_); k_unfold; refine r_leave S649 fun S649 => ?_; exact k _ _ _ (hP ..) (by assumption)
theorem d_call1 (hR : news = (me, instObj 353 md) :: (md, dictOf (sEnt e0 (.ref kl) (.ref fl) (.int fni tfn) (.ref ll) (.ref rl) (.ref vl) (.ref bl) (.int at_ ta)) kd) :: (vl, lst (vals ++ hv) kv) :: (bl, lst (bvs ++ [.ref ba]) kb) :: (ba, instObj 157 bd) :: (bd, dictOf (bEnt e1 bC bP bR (.int vals.length th) (.bool dead) (.bool false)) kbd) :: rest)
    (hz : vals.length + hv.length ≤ 900) (hz2 : bvs.length ≤ 1000) (ha : (ka, tup [.ref p0, .ref r0] k0) ∈ rest) (hp : (p0, tup [] k1) ∈ rest) (hr : (r0, tup [] k2) ∈ rest) (hrl : (rl, tup [] k3) ∈ rest)
    (hP : ∀ kv', Post ((me, instObj 353 md) :: (md, dictOf (sEnt e0 (.ref kl) (.ref fl) (.int fni tfn) (.ref ll) (.ref rl) (.ref vl) (.ref bl) (.int at_ ta)) kd) :: (vl, lst vals kv') :: (bl, lst (bvs ++ [.ref ba]) kb) :: (ba, instObj 157 bd) :: (bd, dictOf (bEnt e1 bC bP bR (.int vals.length th) (.bool true) (.bool false)) kbd) :: rest)) :
    Does w 5 336 [.ref me, .ref ka, .bool true] c news Post False keep "" (.int fni tfn) at_ := by
  subst hR
  intro base outer env A g L m s Q E C S k kE; refine' r_def C S (binds := [("is_tail", .bool true), ("kind", .ref ka), ("self", .ref me)]) ?ho ?hcd ?hb ?hl ?_ ?c1 ?c2 ?c3 ?c4
  case ho => k_is
  case hcd => k_is
  case hb => exact BindsTo.of_eq rfl
  case hl => exact locs rfl
  case c1 => decide
  case c2 => exact rfl
  case c3 => exact rfl
  case c4 => exact rfl
  intro g1 L1 s1 C1 S1 F1; k_fold; refine r_cons ?_; refine Assign_Tuple ?_; refine r_loc S1 rfl ?_; refine r_unpackT C1 S1 (.tail _ (.tail _ (.tail _ (.tail _ (.tail _ (.tail _ (ha))))))) rfl rfl fun s704 S704 => ?_; clear S1; refine r_orderN ?_; refine r_asg S704 fun s706 S706 => ?_; clear S704; refine r_orderN ?_; refine r_asg S706 fun s708 S708 => ?_; clear S706; refine r_order0 ?_; refine seq_next ?_; (with_reducible refine k_if ?_); refine isTrue_and ?_; refine isTrue_plain ?_; refine r_loc S708 rfl ?_; refine wpAny_truthy_bool ?_; refine t_tt ?_; refine isTrue_and ?_; refine wpAny_isTrue_Compare1 ?_; refine r_loc S708 rfl ?_; (with_reducible refine q_atr C1 S708 (own_353_results w) M0 (M1 M0) fun s723 S723 => ?_; clear S708); refine r_neTup0 C1 S723 (by repeat (first | exact List.Mem.head _ | refine List.Mem.tail _ ?_ | assumption)) (by repeat (first | exact List.Mem.head _ | refine List.Mem.tail _ ?_ | assumption)) ?_; refine wpAny_truthy_bool ?_; refine t_ff ?_; refine t_ff ?_; refine wpAny_execs_nil ?_; refine seq_next ?_; (with_reducible refine k_ex ?_; refine q_meth0 C1 g0 S723 (meth_353_pop_all w) M0 (M1 M0) (keep_217 w) ?_); refine c_pop_all0 (C1.le (by decide)) S723 (by repeat (first | exact List.Mem.head _ | refine List.Mem.tail _ ?_ | assumption)) (by first | lia | (simp only [List.length_append, List.length_cons, List.length_nil]; lia)) hz2 (by first | lia | (simp only [List.length_append, List.length_cons, List.length_nil]; lia)) fun fl740 kv740 s740 S740 => ?_; clear S723; refine seq_next ?_; (with_reducible refine k_if ?_); refine isTrue_plain ?_; refine r_loc S740 rfl ?_; refine wpAny_truthy_bool ?_; refine t_tt ?_; (with_reducible refine k_ex ?_; refine q_meth0 C1 g0 S740 (meth_353_kill w) M0 (M1 M0) (keep_238 w) ?_); refine c_kill (C1.le (by decide)) S740 (by first | lia | (simp only [List.length_append, List.length_cons, List.length_nil]; lia)) hz2 fun kv754 s754 S754 => ?_; clear S740; (with_reducible refine k_sn ?_; refine k_sn ?_); k_unfold; refine r_leave S754 fun S754 => ?_; exact k _ _ _ (hP ..) (by assumption)
theorem c_func_atX {w : World} {base : Heap} {outer : List Env} {env : Env} {A : Around} {c : Shared} {g : Heap} {L : Addr} {m : Loc} {rest : Led} {s : Shared} {Q E : Value → Shared → Prop} {vals bvs : List Value} {kv kb : Nat} (C : Cx w base outer env A g L 2)
    (S : St c g L m ((me, instObj 353 md) :: (md, dictOf (sEnt e0 (.ref kl) (.ref fl) (.int fni tfn) (.ref ll) (.ref rl) (.ref vl) (.ref bl) (.int at_ ta)) kd) :: (vl, lst vals kv) :: (bl, lst bvs kb) :: rest) s) (hf : (fl, lst fvs fk) ∈ rest) (hz3 : fvs.length ≤ 1000)
    (h1 : fvs.length ≤ i) (hk : ∀ q ∈ keep, q ∈ rest) (kE : True → ∀ v s', RX base (env :: outer) c g L m keep "unknown function" (.int fni tfn) at_ .none v s' → E v s') :
    wpAny (model PRG w) A (call (.ref 266) [.ref me, .int i tk]) Q E s := by
  refine' r_def C S (binds := [("index", .int i tk), ("self", .ref me)]) ?ho ?hcd ?hb ?hl ?_ ?c1 ?c2 ?c3 ?c4
  case ho => k_is
  case hcd => k_is
  case hb => exact BindsTo.of_eq rfl
  case hl => exact locs rfl
  case c1 => decide
  case c2 => exact rfl
  case c3 => exact rfl
  case c4 => exact rfl
  intro g1 L1 s1 C1 S1 F1; k_fold
  by_cases h0 : 0 ≤ i
  · (with_reducible refine k_if ?_); refine isTrue_not ?_; refine isTrue_chain ?_; refine r_int S1 fun t805 s805 S805 => ?_; clear S1; refine test_link ?_; refine r_loc S805 rfl ?_; refine le_int ?_; refine wpAny_truthy_bool ?_; refine t_pos (by simp only [beq_iff_eq, decide_eq_true_eq]; lia) ?_; refine test_last ?_; refine r_call ?_; refine r_bui C1 S805 (gb_len w) (by boot_by_name) (by decide) ?_; refine r_callB ?_; refine spliced_more ?_; (with_reducible refine q_atr C1 S805 (own_353_funcs w) M0 (M1 M0) fun s818 S818 => ?_; clear S805); refine spliced_none ?_; refine r_len S818 (.tail _ (.tail _ (.tail _ (.tail _ (hf))))) (by lia) fun t820 s820 S820 => ?_; clear S818; refine lt_int ?_; refine wpAny_truthy_bool ?_; refine t_pos (by simp_all) ?_; (with_reducible refine k_ex ?_; refine q_meth C1 g0 S820 (meth_353_fail w) M0 (M1 M0) (keep_182 w) fun τ831 α831 s831 S831 => ?_; clear S820); exact x_fail (C1.le (by decide)) S831 (fun q hq => by repeat (first | exact hk q hq | refine List.Mem.tail _ ?_)) fun v s' R => x_on C1 R F1 (kE trivial _)
  · exfalso; lia
theorem d_ctl_call (hR : news = (me, instObj 353 md) :: (md, dictOf (sEnt e0 (.ref kl) (.ref fl) (.int fni tfn) (.ref ll) (.ref rl) (.ref vl) (.ref bl) (.int at_ ta)) kd) :: (vl, lst vals kv) :: (bl, lst bvs kb) :: rest) (hi : (ins, tup [.int code tk, .int i tk2] ki) ∈ rest) (hc : code = 16 ∨ code = 18)
    (hk0 : (kl, lst kvs kk) ∈ rest) (hf : (fl, lst fvs fk) ∈ rest) (hz3 : kvs.length ≤ 1000) (hz4 : fvs.length ≤ 1000) (h0 : 0 ≤ i) (hi1 : i < fvs.length) (hxf : fvs[i.toNat]? = some (.int j t1)) (h0' : 0 ≤ j) (h1 : j < kvs.length) (hx : kvs[j.toNat]? = some (.ref ka))
    (H : Does w 5 336 [.ref me, .ref ka, .bool (decide (code = 18))] c news Post X keep why (.int fni tfn) at_) :
    Does w 6 308 [.ref me, .ref ins] c news Post X keep why (.int fni tfn) at_ := by
  subst hR
  intro base outer env A g L m s Q E C S k kE; refine' r_def C S (binds := [("instruction", .ref ins), ("self", .ref me)]) ?ho ?hcd ?hb ?hl ?_ ?c1 ?c2 ?c3 ?c4
  case ho => k_is
  case hcd => k_is
  case hb => exact BindsTo.of_eq rfl
  case hl => exact locs rfl
  case c1 => decide
  case c2 => exact rfl
  case c3 => exact rfl
  case c4 => exact rfl
  intro g1 L1 s1 C1 S1 F1; k_fold
  rcases hc with rfl | rfl
  · (with_reducible refine k_as ?_; refine q_itT g0 S1 (M1 (M1 (M1 (M1 (hi))))) (by with_unfolding_all exact fun _ _ => rfl) (by decide) (by decide) rfl rfl fun s905 S905 => ?_; clear S1; refine k_st S905 fun s907 S907 => ?_; clear S905; refine q_if g0 S907 fun τ913 α913 s913 S913 => ?_; clear S907); refine t_neg (by simp only [beq_iff_eq, decide_eq_true_eq]; lia) ?_; (with_reducible refine k_if ?_); refine isTrue_plain ?_; (with_reducible refine q_call0 C1 g0 S913 (gl_is_block w) (keep_87 w) ?_); refine c_is_block (C1.le (by decide)) S913 rfl fun s927 S927 => ?_; clear S913; refine wpAny_truthy_bool ?_; refine t_ff ?_; (with_reducible refine k_if ?_); refine wpAny_isTrue_Compare1 ?_; refine r_loc S927 rfl ?_; refine r_glb C1 S927 (gl_ELSE w) ?_; refine eq_int ?_; refine wpAny_truthy_bool ?_; refine t_neg (by simp only [beq_iff_eq, decide_eq_true_eq]; lia) ?_; (with_reducible refine q_if g0 S927 fun τ942 α942 s942 S942 => ?_; clear S927); refine t_neg (by simp only [beq_iff_eq, decide_eq_true_eq]; lia) ?_; (with_reducible refine k_if ?_); refine wpAny_isTrue_Compare1 ?_; refine r_loc S942 rfl ?_; (with_reducible refine q_ev g0 S942 fun τ958 α958 s958 S958 => ?_; clear S942); refine r_inTupD S958 (.cons _ _ (.cons _ _ (.cons _ _ .nil))) rfl fun S959 => ?_; clear S958; refine wpAny_truthy_bool ?_; refine t_ff ?_; (with_reducible refine q_if g0 S959 fun τ966 α966 s966 S966 => ?_; clear S959); refine t_neg (by simp only [beq_iff_eq, decide_eq_true_eq]; lia) ?_; (with_reducible refine q_if g0 S966 fun τ974 α974 s974 S974 => ?_; clear S966); refine t_pos (by simp only [beq_iff_eq, decide_eq_true_eq]; lia) ?_; (with_reducible refine k_ex ?_); refine r_meth ?_; refine r_loc S974 rfl ?_; refine r_getm C1 S974 (meth_353_call w) (.head _) (.tail _ (.head _)) rfl ?_; refine r_callK (keep_336 w) ?_; refine spliced_more ?_; refine r_meth ?_; refine r_loc S974 rfl ?_; refine r_getm C1 S974 (meth_353_func_at w) (.head _) (.tail _ (.head _)) rfl ?_; refine r_callK (keep_266 w) ?_; refine spliced_more ?_; (with_reducible refine q_itT g0 S974 (M1 (M1 (M1 (M1 (hi))))) (by with_unfolding_all exact fun _ _ => rfl) (by decide) (by decide) rfl rfl fun s992 S992 => ?_; clear S974); refine spliced_none ?_; refine ⟨C1.inK S992, ?_⟩; refine c_func_at (C1.le (by decide)) S992 hk0 hf hz3 hz4 h0 hi1 hxf h0' h1 hx fun s996 S996 => ?_; clear S992; (with_reducible refine q_sp g0 S996 fun τ1000 α1000 s1000 S1000 => ?_; clear S996); refine ⟨C1.inK S1000, ?_⟩; refine H C1 S1000 (fun v1004 news1004 s1004 hp1004 S1004 => ?_) (fun x v s' R => x_on C1 R F1 (kE x _)); clear S1000; (with_reducible refine k_sn ?_; refine k_sn ?_; refine k_sn ?_; refine k_sn ?_; refine k_sn ?_; refine k_sn ?_; refine k_sn ?_; refine k_sn ?_); k_unfold; refine r_leave S1004 fun S1004 => ?_
    rename Post _ => hp
    exact k _ _ _ hp (by assumption)
  · (with_reducible refine k_as ?_; refine q_itT g0 S1 (M1 (M1 (M1 (M1 (hi))))) (by with_unfolding_all exact fun _ _ => rfl) (by decide) (by decide) rfl rfl fun s1005 S1005 => ?_; clear S1; refine k_st S1005 fun s1007 S1007 => ?_; clear S1005; refine q_if g0 S1007 fun τ1013 α1013 s1013 S1013 => ?_; clear S1007); refine t_neg (by simp only [beq_iff_eq, decide_eq_true_eq]; lia) ?_; (with_reducible refine k_if ?_); refine isTrue_plain ?_; (with_reducible refine q_call0 C1 g0 S1013 (gl_is_block w) (keep_87 w) ?_); refine c_is_block (C1.le (by decide)) S1013 rfl fun s1027 S1027 => ?_; clear S1013; refine wpAny_truthy_bool ?_; refine t_ff ?_; (with_reducible refine k_if ?_); refine wpAny_isTrue_Compare1 ?_; refine r_loc S1027 rfl ?_; refine r_glb C1 S1027 (gl_ELSE w) ?_; refine eq_int ?_; refine wpAny_truthy_bool ?_; refine t_neg (by simp only [beq_iff_eq, decide_eq_true_eq]; lia) ?_; (with_reducible refine q_if g0 S1027 fun τ1042 α1042 s1042 S1042 => ?_; clear S1027); refine t_neg (by simp only [beq_iff_eq, decide_eq_true_eq]; lia) ?_; (with_reducible refine k_if ?_); refine wpAny_isTrue_Compare1 ?_; refine r_loc S1042 rfl ?_; (with_reducible refine q_ev g0 S1042 fun τ1058 α1058 s1058 S1058 => ?_; clear S1042); refine r_inTupD S1058 (.cons _ _ (.cons _ _ (.cons _ _ .nil))) rfl fun S1059 => ?_; clear S1058; refine wpAny_truthy_bool ?_; refine t_ff ?_; (with_reducible refine q_if g0 S1059 fun τ1066 α1066 s1066 S1066 => ?_; clear S1059); refine t_neg (by simp only [beq_iff_eq, decide_eq_true_eq]; lia) ?_; (with_reducible refine q_if g0 S1066 fun τ1074 α1074 s1074 S1074 => ?_; clear S1066); refine t_pos (by simp only [beq_iff_eq, decide_eq_true_eq]; lia) ?_; (with_reducible refine k_ex ?_); refine r_meth ?_; refine r_loc S1074 rfl ?_; refine r_getm C1 S1074 (meth_353_call w) (.head _) (.tail _ (.head _)) rfl ?_; refine r_callK (keep_336 w) ?_; refine spliced_more ?_; refine r_meth ?_; refine r_loc S1074 rfl ?_; refine r_getm C1 S1074 (meth_353_func_at w) (.head _) (.tail _ (.head _)) rfl ?_; refine r_callK (keep_266 w) ?_; refine spliced_more ?_; (with_reducible refine q_itT g0 S1074 (M1 (M1 (M1 (M1 (hi))))) (by with_unfolding_all exact fun _ _ => rfl) (by decide) (by decide) rfl rfl fun s1092 S1092 => ?_; clear S1074); refine spliced_none ?_; refine ⟨C1.inK S1092, ?_⟩; refine c_func_at (C1.le (by decide)) S1092 hk0 hf hz3 hz4 h0 hi1 hxf h0' h1 hx fun s1096 S1096 => ?_; clear S1092; (with_reducible refine q_sp g0 S1096 fun τ1100 α1100 s1100 S1100 => ?_; clear S1096); refine ⟨C1.inK S1100, ?_⟩; refine H C1 S1100 (fun v1104 news1104 s1104 hp1104 S1104 => ?_) (fun x v s' R => x_on C1 R F1 (kE x _)); clear S1100; (with_reducible refine k_sn ?_; refine k_sn ?_; refine k_sn ?_; refine k_sn ?_; refine k_sn ?_; refine k_sn ?_; refine k_sn ?_; refine k_sn ?_); k_unfold; refine r_leave S1104 fun S1104 => ?_
    rename Post _ => hp
    exact k _ _ _ hp (by assumption)
theorem d_ctl_callX (hR : news = (me, instObj 353 md) :: (md, dictOf (sEnt e0 (.ref kl) (.ref fl) (.int fni tfn) (.ref ll) (.ref rl) (.ref vl) (.ref bl) (.int at_ ta)) kd) :: (vl, lst vals kv) :: (bl, lst bvs kb) :: rest) (hi : (ins, tup [.int code tk, .int i tk2] ki) ∈ rest) (hc : code = 16 ∨ code = 18)
    (hf : (fl, lst fvs fk) ∈ rest) (hz4 : fvs.length ≤ 1000) (hi1 : fvs.length ≤ i) (hk : ∀ q ∈ keep, q ∈ rest) :
    Does w 6 308 [.ref me, .ref ins] c news Post True keep "unknown function" (.int fni tfn) at_ := by
  subst hR
  intro base outer env A g L m s Q E C S k kE; refine' r_def C S (binds := [("instruction", .ref ins), ("self", .ref me)]) ?ho ?hcd ?hb ?hl ?_ ?c1 ?c2 ?c3 ?c4
  case ho => k_is
  case hcd => k_is
  case hb => exact BindsTo.of_eq rfl
  case hl => exact locs rfl
  case c1 => decide
  case c2 => exact rfl
  case c3 => exact rfl
  case c4 => exact rfl
  intro g1 L1 s1 C1 S1 F1; k_fold
  rcases hc with rfl | rfl
  · (with_reducible refine k_as ?_; refine q_itT g0 S1 (M1 (M1 (M1 (M1 (hi))))) (by with_unfolding_all exact fun _ _ => rfl) (by decide) (by decide) rfl rfl fun s1105 S1105 => ?_; clear S1; refine k_st S1105 fun s1107 S1107 => ?_; clear S1105; refine q_if g0 S1107 fun τ1113 α1113 s1113 S1113 => ?_; clear S1107); refine t_neg (by simp only [beq_iff_eq, decide_eq_true_eq]; lia) ?_; (with_reducible refine k_if ?_); refine isTrue_plain ?_; (with_reducible refine q_call0 C1 g0 S1113 (gl_is_block w) (keep_87 w) ?_); refine c_is_block (C1.le (by decide)) S1113 rfl fun s1127 S1127 => ?_; clear S1113; refine wpAny_truthy_bool ?_; refine t_ff ?_; (with_reducible refine k_if ?_); refine wpAny_isTrue_Compare1 ?_; refine r_loc S1127 rfl ?_; refine r_glb C1 S1127 (gl_ELSE w) ?_; refine eq_int ?_; refine wpAny_truthy_bool ?_; refine t_neg (by simp only [beq_iff_eq, decide_eq_true_eq]; lia) ?_; (with_reducible refine q_if g0 S1127 fun τ1142 α1142 s1142 S1142 => ?_; clear S1127); refine t_neg (by simp only [beq_iff_eq, decide_eq_true_eq]; lia) ?_; (with_reducible refine k_if ?_); refine wpAny_isTrue_Compare1 ?_; refine r_loc S1142 rfl ?_; (with_reducible refine q_ev g0 S1142 fun τ1158 α1158 s1158 S1158 => ?_; clear S1142); refine r_inTupD S1158 (.cons _ _ (.cons _ _ (.cons _ _ .nil))) rfl fun S1159 => ?_; clear S1158; refine wpAny_truthy_bool ?_; refine t_ff ?_; (with_reducible refine q_if g0 S1159 fun τ1166 α1166 s1166 S1166 => ?_; clear S1159); refine t_neg (by simp only [beq_iff_eq, decide_eq_true_eq]; lia) ?_; (with_reducible refine q_if g0 S1166 fun τ1174 α1174 s1174 S1174 => ?_; clear S1166); refine t_pos (by simp only [beq_iff_eq, decide_eq_true_eq]; lia) ?_; (with_reducible refine k_ex ?_); refine r_meth ?_; refine r_loc S1174 rfl ?_; refine r_getm C1 S1174 (meth_353_call w) (.head _) (.tail _ (.head _)) rfl ?_; refine r_callK (keep_336 w) ?_; refine spliced_more ?_; refine r_meth ?_; refine r_loc S1174 rfl ?_; refine r_getm C1 S1174 (meth_353_func_at w) (.head _) (.tail _ (.head _)) rfl ?_; refine r_callK (keep_266 w) ?_; refine spliced_more ?_; (with_reducible refine q_itT g0 S1174 (M1 (M1 (M1 (M1 (hi))))) (by with_unfolding_all exact fun _ _ => rfl) (by decide) (by decide) rfl rfl fun s1192 S1192 => ?_; clear S1174); refine spliced_none ?_; refine ⟨C1.inK S1192, ?_⟩; exact c_func_atX (C1.le (by decide)) S1192 hf hz4 hi1 (fun q hq => by repeat (first | exact hk q hq | refine List.Mem.tail _ ?_)) fun _ v s' R => x_on C1 R F1 (kE trivial _)
  · (with_reducible refine k_as ?_; refine q_itT g0 S1 (M1 (M1 (M1 (M1 (hi))))) (by with_unfolding_all exact fun _ _ => rfl) (by decide) (by decide) rfl rfl fun s1205 S1205 => ?_; clear S1; refine k_st S1205 fun s1207 S1207 => ?_; clear S1205; refine q_if g0 S1207 fun τ1213 α1213 s1213 S1213 => ?_; clear S1207); refine t_neg (by simp only [beq_iff_eq, decide_eq_true_eq]; lia) ?_; (with_reducible refine k_if ?_); refine isTrue_plain ?_; (with_reducible refine q_call0 C1 g0 S1213 (gl_is_block w) (keep_87 w) ?_); refine c_is_block (C1.le (by decide)) S1213 rfl fun s1227 S1227 => ?_; clear S1213; refine wpAny_truthy_bool ?_; refine t_ff ?_; (with_reducible refine k_if ?_); refine wpAny_isTrue_Compare1 ?_; refine r_loc S1227 rfl ?_; refine r_glb C1 S1227 (gl_ELSE w) ?_; refine eq_int ?_; refine wpAny_truthy_bool ?_; refine t_neg (by simp only [beq_iff_eq, decide_eq_true_eq]; lia) ?_; (with_reducible refine q_if g0 S1227 fun τ1242 α1242 s1242 S1242 => ?_; clear S1227); refine t_neg (by simp only [beq_iff_eq, decide_eq_true_eq]; lia) ?_; (with_reducible refine k_if ?_); refine wpAny_isTrue_Compare1 ?_; refine r_loc S1242 rfl ?_; (with_reducible refine q_ev g0 S1242 fun τ1258 α1258 s1258 S1258 => ?_; clear S1242); refine r_inTupD S1258 (.cons _ _ (.cons _ _ (.cons _ _ .nil))) rfl fun S1259 => ?_; clear S1258; refine wpAny_truthy_bool ?_; refine t_ff ?_; (with_reducible refine q_if g0 S1259 fun τ1266 α1266 s1266 S1266 => ?_; clear S1259); refine t_neg (by simp only [beq_iff_eq, decide_eq_true_eq]; lia) ?_; (with_reducible refine q_if g0 S1266 fun τ1274 α1274 s1274 S1274 => ?_; clear S1266); refine t_pos (by simp only [beq_iff_eq, decide_eq_true_eq]; lia) ?_; (with_reducible refine k_ex ?_); refine r_meth ?_; refine r_loc S1274 rfl ?_; refine r_getm C1 S1274 (meth_353_call w) (.head _) (.tail _ (.head _)) rfl ?_; refine r_callK (keep_336 w) ?_; refine spliced_more ?_; refine r_meth ?_; refine r_loc S1274 rfl ?_; refine r_getm C1 S1274 (meth_353_func_at w) (.head _) (.tail _ (.head _)) rfl ?_; refine r_callK (keep_266 w) ?_; refine spliced_more ?_; (with_reducible refine q_itT g0 S1274 (M1 (M1 (M1 (M1 (hi))))) (by with_unfolding_all exact fun _ _ => rfl) (by decide) (by decide) rfl rfl fun s1292 S1292 => ?_; clear S1274); refine spliced_none ?_; refine ⟨C1.inK S1292, ?_⟩; exact c_func_atX (C1.le (by decide)) S1292 hf hz4 hi1 (fun q hq => by repeat (first | exact hk q hq | refine List.Mem.tail _ ?_)) fun _ v s' R => x_on C1 R F1 (kE trivial _)
end
end Mine
end
section
open PySem PySem.W PyProof.Rows PySem.Calls PySem.Spec
set_option maxHeartbeats 1000000
namespace Mine

section
variable {w : World} {c : Shared} {me md kl fl ll rl vl bl : Addr} {e0 : Nat → Int × Tok} {fni : Int} {tfn : Tok} {kd : Nat} {at_ : Int} {ta : Tok} {keep : Led} {news rest : Led}
variable {ins : Addr} {a1 a2 : Value} {args : List Value} {tk tk2 tk3 t1 t2 t3 : Tok} {lvs : List Value} {lk ki n : Nat} {code i : Int} {Post : Led → Prop} {X : Prop} {why : Str}
variable {ba bd : Addr} {e1 e2 : Nat → Int × Tok} {bC bP bR : Value} {th tc : Tok} {kbd : Nat} {vals hv bvs : List Value} {kv kb : Nat} {bh : Nat} {dead : Bool}
theorem d_drop {v : Value} (hR : news = (me, instObj 353 md) :: (md, dictOf (sEnt e0 (.ref kl) (.ref fl) (.int fni tfn) (.ref ll) (.ref rl) (.ref vl) (.ref bl) (.int at_ ta)) kd) :: (vl, lst (vals ++ [v]) kv) :: (bl, lst (bvs ++ [.ref ba]) kb) :: (ba, instObj 157 bd) :: (bd, dictOf (bEnt e1 bC bP bR (.int bh th) (.bool false) (.bool false)) kbd) :: rest) (hi : (ins, tup [.int 26 tk] ki) ∈ rest)
    (hz : vals.length ≤ 900) (hz2 : bvs.length ≤ 1000) (hh : bh ≤ vals.length)
    (hP : ∀ kv', Post ((me, instObj 353 md) :: (md, dictOf (sEnt e0 (.ref kl) (.ref fl) (.int fni tfn) (.ref ll) (.ref rl) (.ref vl) (.ref bl) (.int at_ ta)) kd) :: (vl, lst vals kv') :: (bl, lst (bvs ++ [.ref ba]) kb) :: (ba, instObj 157 bd) :: (bd, dictOf (bEnt e1 bC bP bR (.int bh th) (.bool false) (.bool false)) kbd) :: rest)) :
    Does w 5 343 [.ref me, .ref ins] c news Post False keep "" (.int fni tfn) at_ := by
  subst hR
  intro base outer env A g L m s Q E C S k kE; refine' r_def C S (binds := [("instruction", .ref ins), ("self", .ref me)]) ?ho ?hcd ?hb ?hl ?_ ?c1 ?c2 ?c3 ?c4
  case ho => k_is
  case hcd => k_is
  case hb => exact BindsTo.of_eq rfl
  case hl => exact locs rfl
  case c1 => decide
  case c2 => exact rfl
  case c3 => exact rfl
  case c4 => exact rfl
  intro g1 L1 s1 C1 S1 F1; k_fold; (with_reducible refine k_as ?_; refine q_itT g0 S1 (M1 (M1 (M1 (M1 (M1 (M1 (hi))))))) (by with_unfolding_all exact fun _ _ => rfl) (by decide) (by decide) rfl rfl fun s5 S5 => ?_; clear S1; refine k_st S5 fun s7 S7 => ?_; clear S5; refine q_if g0 S7 fun τ13 α13 s13 S13 => ?_; clear S7); refine t_tt ?_; (with_reducible refine k_ex ?_; refine q_meth0 C1 g0 S13 (meth_353_pop_any w) M0 (M1 M0) (keep_203 w) ?_); refine c_pop_any (C1.le (by decide)) S13 (by first | lia | (simp only [List.length_append, List.length_cons, List.length_nil]; lia)) hz2 (by first | lia | (simp only [List.length_append, List.length_cons, List.length_nil]; lia)) fun s23 S23 => ?_; clear S13; (with_reducible refine k_sn ?_; refine k_sn ?_); k_unfold; refine r_leave S23 fun S23 => ?_; exact k _ _ _ (hP ..) (by assumption)
theorem d_lget (hR : news = (me, instObj 353 md) :: (md, dictOf (sEnt e0 (.ref kl) (.ref fl) (.int fni tfn) (.ref ll) (.ref rl) (.ref vl) (.ref bl) (.int at_ ta)) kd) :: (vl, lst vals kv) :: (bl, lst (bvs ++ [.ref ba]) kb) :: (ba, instObj 157 bd) :: (bd, dictOf (bEnt e1 bC bP bR (.int bh th) (.bool false) (.bool false)) kbd) :: rest) (hi : (ins, tup [.int 32 tk, .int i tk2] ki) ∈ rest)
    (hz : vals.length ≤ 900) (hlv : (ll, tup lvs lk) ∈ rest) (hz5 : lvs.length ≤ 1000) (h0 : 0 ≤ i) (h1 : i < lvs.length) (hx : lvs[i.toNat]? = some (.int (-1) t2))
    (hP : ∀ kv', Post ((me, instObj 353 md) :: (md, dictOf (sEnt e0 (.ref kl) (.ref fl) (.int fni tfn) (.ref ll) (.ref rl) (.ref vl) (.ref bl) (.int at_ ta)) kd) :: (vl, lst (vals ++ [.int (-1) t2]) kv') :: (bl, lst (bvs ++ [.ref ba]) kb) :: (ba, instObj 157 bd) :: (bd, dictOf (bEnt e1 bC bP bR (.int bh th) (.bool false) (.bool false)) kbd) :: rest)) :
    Does w 5 343 [.ref me, .ref ins] c news Post False keep "" (.int fni tfn) at_ := by
  subst hR
  intro base outer env A g L m s Q E C S k kE; refine' r_def C S (binds := [("instruction", .ref ins), ("self", .ref me)]) ?ho ?hcd ?hb ?hl ?_ ?c1 ?c2 ?c3 ?c4
  case ho => k_is
  case hcd => k_is
  case hb => exact BindsTo.of_eq rfl
  case hl => exact locs rfl
  case c1 => decide
  case c2 => exact rfl
  case c3 => exact rfl
  case c4 => exact rfl
  intro g1 L1 s1 C1 S1 F1; k_fold; (with_reducible refine k_as ?_; refine q_itT g0 S1 (M1 (M1 (M1 (M1 (M1 (M1 (hi))))))) (by with_unfolding_all exact fun _ _ => rfl) (by decide) (by decide) rfl rfl fun s105 S105 => ?_; clear S1; refine k_st S105 fun s107 S107 => ?_; clear S105; refine q_if g0 S107 fun τ113 α113 s113 S113 => ?_; clear S107); refine t_neg (by simp only [beq_iff_eq, decide_eq_true_eq]; lia) ?_; (with_reducible refine k_if ?_); refine wpAny_isTrue_Compare1 ?_; refine r_loc S113 rfl ?_; (with_reducible refine q_ev g0 S113 fun τ127 α127 s127 S127 => ?_; clear S113); refine r_inTupD S127 (.cons _ _ (.cons _ _ .nil)) rfl fun S128 => ?_; clear S127; refine wpAny_truthy_bool ?_; refine t_ff ?_; (with_reducible refine q_if g0 S128 fun τ135 α135 s135 S135 => ?_; clear S128); refine t_neg (by simp only [beq_iff_eq, decide_eq_true_eq]; lia) ?_; (with_reducible refine k_as ?_); refine r_meth ?_; refine r_loc S135 rfl ?_; refine r_getm C1 S135 (meth_353_local_at w) (.head _) (.tail _ (.head _)) rfl ?_; refine r_callK (keep_273 w) ?_; refine spliced_more ?_; (with_reducible refine q_itT g0 S135 (M1 (M1 (M1 (M1 (M1 (M1 (hi))))))) (by with_unfolding_all exact fun _ _ => rfl) (by decide) (by decide) rfl rfl fun s148 S148 => ?_; clear S135); refine spliced_none ?_; refine ⟨C1.inK S148, ?_⟩; refine c_local_at (C1.le (by decide)) S148 (by repeat (first | exact List.Mem.head _ | refine List.Mem.tail _ ?_ | assumption)) hz5 h0 h1 hx fun s152 S152 => ?_; clear S148; (with_reducible refine k_st S152 fun s153 S153 => ?_; clear S152; refine q_if g0 S153 fun τ159 α159 s159 S159 => ?_; clear S153); refine t_ff ?_; refine wpAny_execs_nil ?_; refine seq_next ?_; (with_reducible refine q_if g0 S159 fun τ169 α169 s169 S169 => ?_; clear S159); refine t_tt ?_; (with_reducible refine k_ex ?_; refine q_meth0 C1 g0 S169 (meth_353_push w) M0 (M1 M0) (keep_189 w) ?_); refine c_push (C1.le (by decide)) S169 (by first | lia | (simp only [List.length_append, List.length_cons, List.length_nil]; lia)) fun s183 S183 => ?_; clear S169; (with_reducible refine k_sn ?_; refine k_sn ?_; refine k_sn ?_; refine k_sn ?_; refine k_sn ?_); k_unfold; refine r_leave S183 fun S183 => ?_; exact k _ _ _ (hP ..) (by assumption)
theorem d_lset (hR : news = (me, instObj 353 md) :: (md, dictOf (sEnt e0 (.ref kl) (.ref fl) (.int fni tfn) (.ref ll) (.ref rl) (.ref vl) (.ref bl) (.int at_ ta)) kd) :: (vl, lst (vals ++ [.int (-1) t1]) kv) :: (bl, lst (bvs ++ [.ref ba]) kb) :: (ba, instObj 157 bd) :: (bd, dictOf (bEnt e1 bC bP bR (.int bh th) (.bool false) (.bool false)) kbd) :: rest) (hi : (ins, tup [.int 33 tk, .int i tk2] ki) ∈ rest)
    (hz : vals.length ≤ 900) (hz2 : bvs.length ≤ 1000) (hh : bh ≤ vals.length) (hlv : (ll, tup lvs lk) ∈ rest) (hz5 : lvs.length ≤ 1000) (h0 : 0 ≤ i) (h1 : i < lvs.length) (hx : lvs[i.toNat]? = some (.int (-1) t2))
    (hP : ∀ kv', Post ((me, instObj 353 md) :: (md, dictOf (sEnt e0 (.ref kl) (.ref fl) (.int fni tfn) (.ref ll) (.ref rl) (.ref vl) (.ref bl) (.int at_ ta)) kd) :: (vl, lst vals kv') :: (bl, lst (bvs ++ [.ref ba]) kb) :: (ba, instObj 157 bd) :: (bd, dictOf (bEnt e1 bC bP bR (.int bh th) (.bool false) (.bool false)) kbd) :: rest)) :
    Does w 5 343 [.ref me, .ref ins] c news Post False keep "" (.int fni tfn) at_ := by
  subst hR
  intro base outer env A g L m s Q E C S k kE; refine' r_def C S (binds := [("instruction", .ref ins), ("self", .ref me)]) ?ho ?hcd ?hb ?hl ?_ ?c1 ?c2 ?c3 ?c4
  case ho => k_is
  case hcd => k_is
  case hb => exact BindsTo.of_eq rfl
  case hl => exact locs rfl
  case c1 => decide
  case c2 => exact rfl
  case c3 => exact rfl
  case c4 => exact rfl
  intro g1 L1 s1 C1 S1 F1; k_fold; (with_reducible refine k_as ?_; refine q_itT g0 S1 (M1 (M1 (M1 (M1 (M1 (M1 (hi))))))) (by with_unfolding_all exact fun _ _ => rfl) (by decide) (by decide) rfl rfl fun s205 S205 => ?_; clear S1; refine k_st S205 fun s207 S207 => ?_; clear S205; refine q_if g0 S207 fun τ213 α213 s213 S213 => ?_; clear S207); refine t_neg (by simp only [beq_iff_eq, decide_eq_true_eq]; lia) ?_; (with_reducible refine k_if ?_); refine wpAny_isTrue_Compare1 ?_; refine r_loc S213 rfl ?_; (with_reducible refine q_ev g0 S213 fun τ227 α227 s227 S227 => ?_; clear S213); refine r_inTupD S227 (.cons _ _ (.cons _ _ .nil)) rfl fun S228 => ?_; clear S227; refine wpAny_truthy_bool ?_; refine t_ff ?_; (with_reducible refine q_if g0 S228 fun τ235 α235 s235 S235 => ?_; clear S228); refine t_neg (by simp only [beq_iff_eq, decide_eq_true_eq]; lia) ?_; (with_reducible refine k_as ?_); refine r_meth ?_; refine r_loc S235 rfl ?_; refine r_getm C1 S235 (meth_353_local_at w) (.head _) (.tail _ (.head _)) rfl ?_; refine r_callK (keep_273 w) ?_; refine spliced_more ?_; (with_reducible refine q_itT g0 S235 (M1 (M1 (M1 (M1 (M1 (M1 (hi))))))) (by with_unfolding_all exact fun _ _ => rfl) (by decide) (by decide) rfl rfl fun s248 S248 => ?_; clear S235); refine spliced_none ?_; refine ⟨C1.inK S248, ?_⟩; refine c_local_at (C1.le (by decide)) S248 (by repeat (first | exact List.Mem.head _ | refine List.Mem.tail _ ?_ | assumption)) hz5 h0 h1 hx fun s252 S252 => ?_; clear S248; (with_reducible refine k_st S252 fun s253 S253 => ?_; clear S252; refine q_if g0 S253 fun τ259 α259 s259 S259 => ?_; clear S253); refine t_tt ?_; (with_reducible refine k_ex ?_; refine q_meth0 C1 g0 S259 (meth_353_pop w) M0 (M1 M0) (keep_210 w) ?_); refine c_pop (C1.le (by decide)) S259 (by first | lia | (simp only [List.length_append, List.length_cons, List.length_nil]; lia)) hz2 (by first | lia | (simp only [List.length_append, List.length_cons, List.length_nil]; lia)) fun s273 S273 => ?_; clear S259; (with_reducible refine k_sn ?_); refine seq_next ?_; (with_reducible refine q_if g0 S273 fun τ281 α281 s281 S281 => ?_; clear S273); refine t_ff ?_; refine wpAny_execs_nil ?_; (with_reducible refine k_sn ?_; refine k_sn ?_; refine k_sn ?_; refine k_sn ?_); k_unfold; refine r_leave S281 fun S281 => ?_; exact k _ _ _ (hP ..) (by assumption)
theorem d_ltee (hR : news = (me, instObj 353 md) :: (md, dictOf (sEnt e0 (.ref kl) (.ref fl) (.int fni tfn) (.ref ll) (.ref rl) (.ref vl) (.ref bl) (.int at_ ta)) kd) :: (vl, lst (vals ++ [.int (-1) t1]) kv) :: (bl, lst (bvs ++ [.ref ba]) kb) :: (ba, instObj 157 bd) :: (bd, dictOf (bEnt e1 bC bP bR (.int bh th) (.bool false) (.bool false)) kbd) :: rest) (hi : (ins, tup [.int 34 tk, .int i tk2] ki) ∈ rest)
    (hz : vals.length ≤ 900) (hz2 : bvs.length ≤ 1000) (hh : bh ≤ vals.length) (hlv : (ll, tup lvs lk) ∈ rest) (hz5 : lvs.length ≤ 1000) (h0 : 0 ≤ i) (h1 : i < lvs.length) (hx : lvs[i.toNat]? = some (.int (-1) t2))
    (hP : ∀ kv', Post ((me, instObj 353 md) :: (md, dictOf (sEnt e0 (.ref kl) (.ref fl) (.int fni tfn) (.ref ll) (.ref rl) (.ref vl) (.ref bl) (.int at_ ta)) kd) :: (vl, lst (vals ++ [.int (-1) t2]) kv') :: (bl, lst (bvs ++ [.ref ba]) kb) :: (ba, instObj 157 bd) :: (bd, dictOf (bEnt e1 bC bP bR (.int bh th) (.bool false) (.bool false)) kbd) :: rest)) :
    Does w 5 343 [.ref me, .ref ins] c news Post False keep "" (.int fni tfn) at_ := by
  subst hR
  intro base outer env A g L m s Q E C S k kE; refine' r_def C S (binds := [("instruction", .ref ins), ("self", .ref me)]) ?ho ?hcd ?hb ?hl ?_ ?c1 ?c2 ?c3 ?c4
  case ho => k_is
  case hcd => k_is
  case hb => exact BindsTo.of_eq rfl
  case hl => exact locs rfl
  case c1 => decide
  case c2 => exact rfl
  case c3 => exact rfl
  case c4 => exact rfl
  intro g1 L1 s1 C1 S1 F1; k_fold; (with_reducible refine k_as ?_; refine q_itT g0 S1 (M1 (M1 (M1 (M1 (M1 (M1 (hi))))))) (by with_unfolding_all exact fun _ _ => rfl) (by decide) (by decide) rfl rfl fun s305 S305 => ?_; clear S1; refine k_st S305 fun s307 S307 => ?_; clear S305; refine q_if g0 S307 fun τ313 α313 s313 S313 => ?_; clear S307); refine t_neg (by simp only [beq_iff_eq, decide_eq_true_eq]; lia) ?_; (with_reducible refine k_if ?_); refine wpAny_isTrue_Compare1 ?_; refine r_loc S313 rfl ?_; (with_reducible refine q_ev g0 S313 fun τ327 α327 s327 S327 => ?_; clear S313); refine r_inTupD S327 (.cons _ _ (.cons _ _ .nil)) rfl fun S328 => ?_; clear S327; refine wpAny_truthy_bool ?_; refine t_ff ?_; (with_reducible refine q_if g0 S328 fun τ335 α335 s335 S335 => ?_; clear S328); refine t_neg (by simp only [beq_iff_eq, decide_eq_true_eq]; lia) ?_; (with_reducible refine k_as ?_); refine r_meth ?_; refine r_loc S335 rfl ?_; refine r_getm C1 S335 (meth_353_local_at w) (.head _) (.tail _ (.head _)) rfl ?_; refine r_callK (keep_273 w) ?_; refine spliced_more ?_; (with_reducible refine q_itT g0 S335 (M1 (M1 (M1 (M1 (M1 (M1 (hi))))))) (by with_unfolding_all exact fun _ _ => rfl) (by decide) (by decide) rfl rfl fun s348 S348 => ?_; clear S335); refine spliced_none ?_; refine ⟨C1.inK S348, ?_⟩; refine c_local_at (C1.le (by decide)) S348 (by repeat (first | exact List.Mem.head _ | refine List.Mem.tail _ ?_ | assumption)) hz5 h0 h1 hx fun s352 S352 => ?_; clear S348; (with_reducible refine k_st S352 fun s353 S353 => ?_; clear S352; refine q_if g0 S353 fun τ359 α359 s359 S359 => ?_; clear S353); refine t_tt ?_; (with_reducible refine k_ex ?_; refine q_meth0 C1 g0 S359 (meth_353_pop w) M0 (M1 M0) (keep_210 w) ?_); refine c_pop (C1.le (by decide)) S359 (by first | lia | (simp only [List.length_append, List.length_cons, List.length_nil]; lia)) hz2 (by first | lia | (simp only [List.length_append, List.length_cons, List.length_nil]; lia)) fun s373 S373 => ?_; clear S359; (with_reducible refine k_sn ?_); refine seq_next ?_; (with_reducible refine q_if g0 S373 fun τ381 α381 s381 S381 => ?_; clear S373); refine t_tt ?_; (with_reducible refine k_ex ?_; refine q_meth0 C1 g0 S381 (meth_353_push w) M0 (M1 M0) (keep_189 w) ?_); refine c_push (C1.le (by decide)) S381 (by first | lia | (simp only [List.length_append, List.length_cons, List.length_nil]; lia)) fun s395 S395 => ?_; clear S381; (with_reducible refine k_sn ?_; refine k_sn ?_; refine k_sn ?_; refine k_sn ?_; refine k_sn ?_); k_unfold; refine r_leave S395 fun S395 => ?_; exact k _ _ _ (hP ..) (by assumption)
theorem c_local_atX {w : World} {base : Heap} {outer : List Env} {env : Env} {A : Around} {c : Shared} {g : Heap} {L : Addr} {m : Loc} {rest : Led} {s : Shared} {Q E : Value → Shared → Prop} {vals bvs : List Value} {kv kb : Nat} (C : Cx w base outer env A g L 2)
    (S : St c g L m ((me, instObj 353 md) :: (md, dictOf (sEnt e0 (.ref kl) (.ref fl) (.int fni tfn) (.ref ll) (.ref rl) (.ref vl) (.ref bl) (.int at_ ta)) kd) :: (vl, lst vals kv) :: (bl, lst bvs kb) :: rest) s) (hlv : (ll, tup lvs lk) ∈ rest) (hz5 : lvs.length ≤ 1000)
    (h1 : i < 0 ∨ lvs.length ≤ i) (hk : ∀ q ∈ keep, q ∈ rest) (kE : True → ∀ v s', RX base (env :: outer) c g L m keep "unknown local" (.int fni tfn) at_ .none v s' → E v s') :
    wpAny (model PRG w) A (call (.ref 273) [.ref me, .int i tk]) Q E s := by
  refine' r_def C S (binds := [("index", .int i tk), ("self", .ref me)]) ?ho ?hcd ?hb ?hl ?_ ?c1 ?c2 ?c3 ?c4
  case ho => k_is
  case hcd => k_is
  case hb => exact BindsTo.of_eq rfl
  case hl => exact locs rfl
  case c1 => decide
  case c2 => exact rfl
  case c3 => exact rfl
  case c4 => exact rfl
  intro g1 L1 s1 C1 S1 F1; k_fold
  by_cases h0 : 0 ≤ i
  · have h2 : lvs.length ≤ i := by lia
    (with_reducible refine k_if ?_); refine isTrue_not ?_; refine isTrue_chain ?_; refine r_int S1 fun t405 s405 S405 => ?_; clear S1; refine test_link ?_; refine r_loc S405 rfl ?_; refine le_int ?_; refine wpAny_truthy_bool ?_; refine t_pos (by simp only [beq_iff_eq, decide_eq_true_eq]; lia) ?_; refine test_last ?_; refine r_call ?_; refine r_bui C1 S405 (gb_len w) (by boot_by_name) (by decide) ?_; refine r_callB ?_; refine spliced_more ?_; (with_reducible refine q_atr C1 S405 (own_353_locals w) M0 (M1 M0) fun s418 S418 => ?_; clear S405); refine spliced_none ?_; refine r_lenT S418 (.tail _ (.tail _ (.tail _ (.tail _ (hlv))))) (by lia) fun t420 s420 S420 => ?_; clear S418; refine lt_int ?_; refine wpAny_truthy_bool ?_; refine t_pos (by simp_all) ?_; (with_reducible refine k_ex ?_; refine q_meth C1 g0 S420 (meth_353_fail w) M0 (M1 M0) (keep_182 w) fun τ431 α431 s431 S431 => ?_; clear S420); exact x_fail (C1.le (by decide)) S431 (fun q hq => by repeat (first | exact hk q hq | refine List.Mem.tail _ ?_)) fun v s' R => x_on C1 R F1 (kE trivial _)
  · (with_reducible refine k_if ?_); refine isTrue_not ?_; refine isTrue_chain ?_; refine r_int S1 fun t505 s505 S505 => ?_; clear S1; refine test_link ?_; refine r_loc S505 rfl ?_; refine le_int ?_; refine wpAny_truthy_bool ?_; refine t_neg (by simp only [beq_iff_eq, decide_eq_true_eq]; lia) ?_; refine t_tt ?_; (with_reducible refine k_ex ?_; refine q_meth C1 g0 S505 (meth_353_fail w) M0 (M1 M0) (keep_182 w) fun τ519 α519 s519 S519 => ?_; clear S505); exact x_fail (C1.le (by decide)) S519 (fun q hq => by repeat (first | exact hk q hq | refine List.Mem.tail _ ?_)) fun v s' R => x_on C1 R F1 (kE trivial _)
theorem d_locX (hR : news = (me, instObj 353 md) :: (md, dictOf (sEnt e0 (.ref kl) (.ref fl) (.int fni tfn) (.ref ll) (.ref rl) (.ref vl) (.ref bl) (.int at_ ta)) kd) :: (vl, lst vals kv) :: (bl, lst bvs kb) :: rest) (hi : (ins, tup [.int code tk, .int i tk2] ki) ∈ rest) (hc : code = 32 ∨ code = 33 ∨ code = 34)
    (hlv : (ll, tup lvs lk) ∈ rest) (hz5 : lvs.length ≤ 1000) (h1 : i < 0 ∨ lvs.length ≤ i) (hk : ∀ q ∈ keep, q ∈ rest) :
    Does w 5 343 [.ref me, .ref ins] c news Post True keep "unknown local" (.int fni tfn) at_ := by
  subst hR
  intro base outer env A g L m s Q E C S k kE; refine' r_def C S (binds := [("instruction", .ref ins), ("self", .ref me)]) ?ho ?hcd ?hb ?hl ?_ ?c1 ?c2 ?c3 ?c4
  case ho => k_is
  case hcd => k_is
  case hb => exact BindsTo.of_eq rfl
  case hl => exact locs rfl
  case c1 => decide
  case c2 => exact rfl
  case c3 => exact rfl
  case c4 => exact rfl
  intro g1 L1 s1 C1 S1 F1; k_fold
  rcases hc with rfl | rfl | rfl
  · (with_reducible refine k_as ?_; refine q_itT g0 S1 (M1 (M1 (M1 (M1 (hi))))) (by with_unfolding_all exact fun _ _ => rfl) (by decide) (by decide) rfl rfl fun s605 S605 => ?_; clear S1; refine k_st S605 fun s607 S607 => ?_; clear S605; refine q_if g0 S607 fun τ613 α613 s613 S613 => ?_; clear S607); refine t_neg (by simp only [beq_iff_eq, decide_eq_true_eq]; lia) ?_; (with_reducible refine k_if ?_); refine wpAny_isTrue_Compare1 ?_; refine r_loc S613 rfl ?_; (with_reducible refine q_ev g0 S613 fun τ627 α627 s627 S627 => ?_; clear S613); refine r_inTupD S627 (.cons _ _ (.cons _ _ .nil)) rfl fun S628 => ?_; clear S627; refine wpAny_truthy_bool ?_; refine t_ff ?_; (with_reducible refine q_if g0 S628 fun τ635 α635 s635 S635 => ?_; clear S628); refine t_neg (by simp only [beq_iff_eq, decide_eq_true_eq]; lia) ?_; (with_reducible refine k_as ?_); refine r_meth ?_; refine r_loc S635 rfl ?_; refine r_getm C1 S635 (meth_353_local_at w) (.head _) (.tail _ (.head _)) rfl ?_; refine r_callK (keep_273 w) ?_; refine spliced_more ?_; (with_reducible refine q_itT g0 S635 (M1 (M1 (M1 (M1 (hi))))) (by with_unfolding_all exact fun _ _ => rfl) (by decide) (by decide) rfl rfl fun s648 S648 => ?_; clear S635); refine spliced_none ?_; refine ⟨C1.inK S648, ?_⟩; exact c_local_atX (C1.le (by decide)) S648 hlv hz5 h1 (fun q hq => by repeat (first | exact hk q hq | refine List.Mem.tail _ ?_)) fun _ v s' R => x_on C1 R F1 (kE trivial _)
  · (with_reducible refine k_as ?_; refine q_itT g0 S1 (M1 (M1 (M1 (M1 (hi))))) (by with_unfolding_all exact fun _ _ => rfl) (by decide) (by decide) rfl rfl fun s705 S705 => ?_; clear S1; refine k_st S705 fun s707 S707 => ?_; clear S705; refine q_if g0 S707 fun τ713 α713 s713 S713 => ?_; clear S707); refine t_neg (by simp only [beq_iff_eq, decide_eq_true_eq]; lia) ?_; (with_reducible refine k_if ?_); refine wpAny_isTrue_Compare1 ?_; refine r_loc S713 rfl ?_; (with_reducible refine q_ev g0 S713 fun τ727 α727 s727 S727 => ?_; clear S713); refine r_inTupD S727 (.cons _ _ (.cons _ _ .nil)) rfl fun S728 => ?_; clear S727; refine wpAny_truthy_bool ?_; refine t_ff ?_; (with_reducible refine q_if g0 S728 fun τ735 α735 s735 S735 => ?_; clear S728); refine t_neg (by simp only [beq_iff_eq, decide_eq_true_eq]; lia) ?_; (with_reducible refine k_as ?_); refine r_meth ?_; refine r_loc S735 rfl ?_; refine r_getm C1 S735 (meth_353_local_at w) (.head _) (.tail _ (.head _)) rfl ?_; refine r_callK (keep_273 w) ?_; refine spliced_more ?_; (with_reducible refine q_itT g0 S735 (M1 (M1 (M1 (M1 (hi))))) (by with_unfolding_all exact fun _ _ => rfl) (by decide) (by decide) rfl rfl fun s748 S748 => ?_; clear S735); refine spliced_none ?_; refine ⟨C1.inK S748, ?_⟩; exact c_local_atX (C1.le (by decide)) S748 hlv hz5 h1 (fun q hq => by repeat (first | exact hk q hq | refine List.Mem.tail _ ?_)) fun _ v s' R => x_on C1 R F1 (kE trivial _)
  · (with_reducible refine k_as ?_; refine q_itT g0 S1 (M1 (M1 (M1 (M1 (hi))))) (by with_unfolding_all exact fun _ _ => rfl) (by decide) (by decide) rfl rfl fun s805 S805 => ?_; clear S1; refine k_st S805 fun s807 S807 => ?_; clear S805; refine q_if g0 S807 fun τ813 α813 s813 S813 => ?_; clear S807); refine t_neg (by simp only [beq_iff_eq, decide_eq_true_eq]; lia) ?_; (with_reducible refine k_if ?_); refine wpAny_isTrue_Compare1 ?_; refine r_loc S813 rfl ?_; (with_reducible refine q_ev g0 S813 fun τ827 α827 s827 S827 => ?_; clear S813); refine r_inTupD S827 (.cons _ _ (.cons _ _ .nil)) rfl fun S828 => ?_; clear S827; refine wpAny_truthy_bool ?_; refine t_ff ?_; (with_reducible refine q_if g0 S828 fun τ835 α835 s835 S835 => ?_; clear S828); refine t_neg (by simp only [beq_iff_eq, decide_eq_true_eq]; lia) ?_; (with_reducible refine k_as ?_); refine r_meth ?_; refine r_loc S835 rfl ?_; refine r_getm C1 S835 (meth_353_local_at w) (.head _) (.tail _ (.head _)) rfl ?_; refine r_callK (keep_273 w) ?_; refine spliced_more ?_; (with_reducible refine q_itT g0 S835 (M1 (M1 (M1 (M1 (hi))))) (by with_unfolding_all exact fun _ _ => rfl) (by decide) (by decide) rfl rfl fun s848 S848 => ?_; clear S835); refine spliced_none ?_; refine ⟨C1.inK S848, ?_⟩; exact c_local_atX (C1.le (by decide)) S848 hlv hz5 h1 (fun q hq => by repeat (first | exact hk q hq | refine List.Mem.tail _ ?_)) fun _ v s' R => x_on C1 R F1 (kE trivial _)
end
end Mine
end
section
open PySem PySem.W PyProof.Rows PySem.Calls PySem.Spec
set_option maxHeartbeats 1000000
namespace Mine

section
variable {w : World} {c : Shared} {me md kl fl ll rl vl bl : Addr} {e0 : Nat → Int × Tok} {fni : Int} {tfn : Tok} {kd : Nat} {at_ : Int} {ta : Tok} {keep : Led} {news rest : Led}
variable {ins : Addr} {a1 a2 : Value} {args : List Value} {tk tk2 tk3 t1 t2 t3 : Tok} {ki n : Nat} {code i : Int} {Post : Led → Prop} {X : Prop} {why : Str}
variable {ba bd : Addr} {e1 e2 : Nat → Int × Tok} {bC bP bR : Value} {th tc : Tok} {kbd : Nat} {vals hv bvs : List Value} {kv kb : Nat} {bh : Nat} {dead : Bool}
theorem d_sel27 (hR : news = (me, instObj 353 md) :: (md, dictOf (sEnt e0 (.ref kl) (.ref fl) (.int fni tfn) (.ref ll) (.ref rl) (.ref vl) (.ref bl) (.int at_ ta)) kd) :: (vl, lst (vals ++ [.int (-1) t1] ++ [.int (-1) t2] ++ [.int (-1) t3]) kv) :: (bl, lst (bvs ++ [.ref ba]) kb) :: (ba, instObj 157 bd) :: (bd, dictOf (bEnt e1 bC bP bR (.int bh th) (.bool false) (.bool false)) kbd) :: rest) (hi : (ins, tup [.int 27 tk] ki) ∈ rest)
    (hz : vals.length ≤ 900) (hz2 : bvs.length ≤ 1000) (hh : bh ≤ vals.length)
    (hP : ∀ kv' t, Post ((me, instObj 353 md) :: (md, dictOf (sEnt e0 (.ref kl) (.ref fl) (.int fni tfn) (.ref ll) (.ref rl) (.ref vl) (.ref bl) (.int at_ ta)) kd) :: (vl, lst (vals ++ [.int (-1) t]) kv') :: (bl, lst (bvs ++ [.ref ba]) kb) :: (ba, instObj 157 bd) :: (bd, dictOf (bEnt e1 bC bP bR (.int bh th) (.bool false) (.bool false)) kbd) :: rest)) :
    Does w 5 350 [.ref me, .ref ins] c news Post False keep "" (.int fni tfn) at_ := by
  subst hR
  intro base outer env A g L m s Q E C S k kE; refine' r_def C S (binds := [("instruction", .ref ins), ("self", .ref me)]) ?ho ?hcd ?hb ?hl ?_ ?c1 ?c2 ?c3 ?c4
  case ho => k_is
  case hcd => k_is
  case hb => exact BindsTo.of_eq rfl
  case hl => exact locs rfl
  case c1 => decide
  case c2 => exact rfl
  case c3 => exact rfl
  case c4 => exact rfl
  intro g1 L1 s1 C1 S1 F1; k_fold; (with_reducible refine k_if ?_); refine wpAny_isTrue_Compare1 ?_; (with_reducible refine q_itT g0 S1 (M1 (M1 (M1 (M1 (M1 (M1 (hi))))))) (by with_unfolding_all exact fun _ _ => rfl) (by decide) (by decide) rfl rfl fun s6 S6 => ?_; clear S1); refine r_int S6 fun t8 s8 S8 => ?_; clear S6; refine eq_int ?_; refine wpAny_truthy_bool ?_; refine t_neg (by simp only [beq_iff_eq, decide_eq_true_eq]; lia) ?_; (with_reducible refine k_ex ?_; refine q_meth0 C1 (gk C1 (gl_I32 w) g0) S8 (meth_353_pop w) M0 (M1 M0) (keep_210 w) ?_); refine c_pop (C1.le (by decide)) S8 (by first | lia | (simp only [List.length_append, List.length_cons, List.length_nil]; lia)) hz2 (by first | lia | (simp only [List.length_append, List.length_cons, List.length_nil]; lia)) fun s22 S22 => ?_; clear S8; refine seq_next ?_; (with_reducible refine k_as ?_; refine q_meth0 C1 g0 S22 (meth_353_pop_any w) M0 (M1 M0) (keep_203 w) ?_); refine c_pop_any (C1.le (by decide)) S22 (by first | lia | (simp only [List.length_append, List.length_cons, List.length_nil]; lia)) hz2 (by first | lia | (simp only [List.length_append, List.length_cons, List.length_nil]; lia)) fun s30 S30 => ?_; clear S22; (with_reducible refine k_st S30 fun s31 S31 => ?_; clear S30; refine k_as ?_; refine q_meth0 C1 g0 S31 (meth_353_pop_any w) M0 (M1 M0) (keep_203 w) ?_); refine c_pop_any (C1.le (by decide)) S31 (by first | lia | (simp only [List.length_append, List.length_cons, List.length_nil]; lia)) hz2 (by first | lia | (simp only [List.length_append, List.length_cons, List.length_nil]; lia)) fun s39 S39 => ?_; clear S31; (with_reducible refine k_st S39 fun s40 S40 => ?_; clear S39; refine k_if ?_); refine isTrue_or ?_; refine isTrue_not ?_; refine isTrue_plain ?_; (with_reducible refine q_call0 C1 g0 S40 (gl_is_number_kind w) (keep_133 w) ?_); refine c_is_nk (C1.le (by decide)) S40 rfl fun s54 S54 => ?_; clear S40; refine wpAny_truthy_bool ?_; refine t_ff ?_; refine isTrue_or ?_; refine isTrue_not ?_; refine isTrue_plain ?_; (with_reducible refine q_call0 C1 g0 S54 (gl_is_number_kind w) (keep_133 w) ?_); refine c_is_nk (C1.le (by decide)) S54 rfl fun s67 S67 => ?_; clear S54; refine wpAny_truthy_bool ?_; refine t_ff ?_; refine isTrue_or_nil ?_; refine t_ff ?_; refine wpAny_execs_nil ?_; refine seq_next ?_; (with_reducible refine k_if ?_); refine isTrue_and ?_; refine wpAny_isTrue_Compare1 ?_; refine r_loc S67 rfl ?_; refine r_loc S67 rfl ?_; refine ne_int ?_; refine wpAny_truthy_bool ?_; refine t_ff ?_; refine t_ff ?_; refine wpAny_execs_nil ?_; refine seq_next ?_; (with_reducible refine k_ex ?_); refine r_meth ?_; refine r_loc S67 rfl ?_; refine r_getm C1 S67 (meth_353_push w) (.head _) (.tail _ (.head _)) rfl ?_; refine r_callK (keep_189 w) ?_; refine spliced_more ?_; refine wpAny_IfExp ?_; refine wpAny_isTrue_Compare1 ?_; refine r_loc S67 rfl ?_; refine r_glb C1 S67 (gl_UNKNOWN w) ?_; refine eq_int ?_; refine wpAny_truthy_bool ?_; refine t_neg (by simp only [beq_iff_eq, decide_eq_true_eq]; lia) ?_; refine r_loc S67 rfl ?_; refine spliced_none ?_; refine ⟨C1.inK S67, ?_⟩; refine c_push (C1.le (by decide)) S67 (by first | lia | (simp only [List.length_append, List.length_cons, List.length_nil]; lia)) fun s103 S103 => ?_; clear S67; (with_reducible refine k_sn ?_; refine k_sn ?_); k_unfold; refine r_leave S103 fun S103 => ?_; exact k _ _ _ (hP ..) (by assumption)
theorem d_sel28 (hR : news = (me, instObj 353 md) :: (md, dictOf (sEnt e0 (.ref kl) (.ref fl) (.int fni tfn) (.ref ll) (.ref rl) (.ref vl) (.ref bl) (.int at_ ta)) kd) :: (vl, lst (vals ++ [.int (-1) t1, .int (-1) t2, .int (-1) t3]) kv) :: (bl, lst (bvs ++ [.ref ba]) kb) :: (ba, instObj 157 bd) :: (bd, dictOf (bEnt e1 bC bP bR (.int bh th) (.bool false) (.bool false)) kbd) :: rest) (hi : (ins, tup [.int 28 tk, .int (-1) tk2] ki) ∈ rest)
    (hz : vals.length ≤ 900) (hz2 : bvs.length ≤ 1000) (hh : bh ≤ vals.length)
    (hP : ∀ kv' t, Post ((me, instObj 353 md) :: (md, dictOf (sEnt e0 (.ref kl) (.ref fl) (.int fni tfn) (.ref ll) (.ref rl) (.ref vl) (.ref bl) (.int at_ ta)) kd) :: (vl, lst (vals ++ [.int (-1) t]) kv') :: (bl, lst (bvs ++ [.ref ba]) kb) :: (ba, instObj 157 bd) :: (bd, dictOf (bEnt e1 bC bP bR (.int bh th) (.bool false) (.bool false)) kbd) :: rest)) :
    Does w 5 350 [.ref me, .ref ins] c news Post False keep "" (.int fni tfn) at_ := by
  subst hR
  intro base outer env A g L m s Q E C S k kE; refine' r_def C S (binds := [("instruction", .ref ins), ("self", .ref me)]) ?ho ?hcd ?hb ?hl ?_ ?c1 ?c2 ?c3 ?c4
  case ho => k_is
  case hcd => k_is
  case hb => exact BindsTo.of_eq rfl
  case hl => exact locs rfl
  case c1 => decide
  case c2 => exact rfl
  case c3 => exact rfl
  case c4 => exact rfl
  intro g1 L1 s1 C1 S1 F1; k_fold; (with_reducible refine k_if ?_); refine wpAny_isTrue_Compare1 ?_; (with_reducible refine q_itT g0 S1 (M1 (M1 (M1 (M1 (M1 (M1 (hi))))))) (by with_unfolding_all exact fun _ _ => rfl) (by decide) (by decide) rfl rfl fun s106 S106 => ?_; clear S1); refine r_int S106 fun t108 s108 S108 => ?_; clear S106; refine eq_int ?_; refine wpAny_truthy_bool ?_; refine t_tt ?_; (with_reducible refine k_if ?_); refine wpAny_isTrue_Compare1 ?_; (with_reducible refine q_callB0 C1 g0 S108 (bb_len w) .B ?_); refine r_lenT S108 (.tail _ (.tail _ (.tail _ (.tail _ (.tail _ (.tail _ (hi))))))) (by (simp only [decide_eq_true_eq, List.length_append, List.length_cons, List.length_nil, List.length_reverse, List.length_replicate]; lia)) fun t121 s121 S121 => ?_; clear S108; refine r_int S121 fun t122 s122 S122 => ?_; clear S121; refine ne_int ?_; refine wpAny_truthy_bool ?_; refine t_ff ?_; refine wpAny_execs_nil ?_; refine seq_next ?_; (with_reducible refine k_if ?_); refine isTrue_not ?_; refine isTrue_plain ?_; refine r_call ?_; refine r_glb C1 S122 (gl_is_kind w) ?_; refine r_callK (keep_29 w) ?_; refine spliced_more ?_; (with_reducible refine q_itT g0 S122 (M1 (M1 (M1 (M1 (M1 (M1 (hi))))))) (by with_unfolding_all exact fun _ _ => rfl) (by decide) (by decide) rfl rfl fun s138 S138 => ?_; clear S122); refine spliced_none ?_; refine ⟨C1.inK S138, ?_⟩; refine c_is_kind (C1.le (by decide)) S138 (by first | rfl | assumption) fun s142 S142 => ?_; clear S138; refine wpAny_truthy_bool ?_; refine t_ff ?_; refine wpAny_execs_nil ?_; refine seq_next ?_; (with_reducible refine k_ex ?_); refine r_meth ?_; refine r_loc S142 rfl ?_; refine r_getm C1 S142 (meth_353_pop_all w) (.head _) (.tail _ (.head _)) rfl ?_; refine r_callK (keep_217 w) ?_; refine spliced_more ?_; refine Tuple_ ?_; refine spliced_more ?_; (with_reducible refine q_itT g0 S142 (M1 (M1 (M1 (M1 (M1 (M1 (hi))))))) (by with_unfolding_all exact fun _ _ => rfl) (by decide) (by decide) rfl rfl fun s158 S158 => ?_; clear S142); refine spliced_more ?_; (with_reducible refine q_itT g0 S158 (M1 (M1 (M1 (M1 (M1 (M1 (hi))))))) (by with_unfolding_all exact fun _ _ => rfl) (by decide) (by decide) rfl rfl fun s163 S163 => ?_; clear S158; refine q_sp0 (gk C1 (gl_I32 w) g0) S163 ?_); refine r_tuple S163 (Nat.le_of_ble_eq_true rfl) fun a168 s168 S168 => ?_; clear S163; refine spliced_none ?_; refine ⟨C1.inK S168, ?_⟩; rename St _ _ _ _ _ _ => S190; refine c_pop_all (C1.le (by decide)) S190.rot_1_6 (.head _) (fun v h => by simp at h; rcases h with rfl | rfl <;> exact ⟨_, rfl⟩) (fun v h => by simp at h; rcases h with rfl | rfl | rfl <;> exact ⟨_, rfl⟩) rfl (by simp) hz hz2 (by lia) fun fl found fk kv' s' hf S' => ?_
  have S191 := S'.tail
  clear S' S190; refine seq_next ?_; (with_reducible refine k_ex ?_); refine r_meth ?_; refine r_loc S191 rfl ?_; refine r_getm C1 S191 (meth_353_push w) (.head _) (.tail _ (.head _)) rfl ?_; refine r_callK (keep_189 w) ?_; refine spliced_more ?_; (with_reducible refine q_itT g0 S191 (M1 (M1 (M1 (M1 (M1 (M1 (M1 (hi)))))))) (by with_unfolding_all exact fun _ _ => rfl) (by decide) (by decide) rfl rfl fun s211 S211 => ?_; clear S191); refine spliced_none ?_; refine ⟨C1.inK S211, ?_⟩; refine c_push (C1.le (by decide)) S211 (by first | lia | (simp only [List.length_append, List.length_cons, List.length_nil]; lia)) fun s215 S215 => ?_; clear S211; (with_reducible refine k_sn ?_; refine k_sn ?_); k_unfold; refine r_leave S215 fun S215 => ?_; rename St _ _ _ _ _ _ => S290; exact k _ _ _ (hP ..) (S290.drop (.tl (.tl (.tl (.tl (.tl (.tl .hd)))))))
theorem d_selA1 (hR : news = (me, instObj 353 md) :: (md, dictOf (sEnt e0 (.ref kl) (.ref fl) (.int fni tfn) (.ref ll) (.ref rl) (.ref vl) (.ref bl) (.int at_ ta)) kd) :: rest) (hi : (ins, tup [.int 28 tk] ki) ∈ rest) (hk : ∀ q ∈ keep, q ∈ rest) :
    Does w 5 350 [.ref me, .ref ins] c news Post True keep "invalid result arity" (.int fni tfn) at_ := by
  subst hR
  intro base outer env A g L m s Q E C S k kE; refine' r_def C S (binds := [("instruction", .ref ins), ("self", .ref me)]) ?ho ?hcd ?hb ?hl ?_ ?c1 ?c2 ?c3 ?c4
  case ho => k_is
  case hcd => k_is
  case hb => exact BindsTo.of_eq rfl
  case hl => exact locs rfl
  case c1 => decide
  case c2 => exact rfl
  case c3 => exact rfl
  case c4 => exact rfl
  intro g1 L1 s1 C1 S1 F1; k_fold; (with_reducible refine k_if ?_); refine wpAny_isTrue_Compare1 ?_; (with_reducible refine q_itT g0 S1 (M1 (M1 (hi))) (by with_unfolding_all exact fun _ _ => rfl) (by decide) (by decide) rfl rfl fun s306 S306 => ?_; clear S1); refine r_int S306 fun t308 s308 S308 => ?_; clear S306; refine eq_int ?_; refine wpAny_truthy_bool ?_; refine t_tt ?_; (with_reducible refine k_if ?_); refine wpAny_isTrue_Compare1 ?_; (with_reducible refine q_callB0 C1 g0 S308 (bb_len w) .B ?_); refine r_lenT S308 (.tail _ (.tail _ (hi))) (by (simp only [decide_eq_true_eq, List.length_append, List.length_cons, List.length_nil, List.length_reverse, List.length_replicate]; lia)) fun t321 s321 S321 => ?_; clear S308; refine r_int S321 fun t322 s322 S322 => ?_; clear S321; refine ne_int ?_; refine wpAny_truthy_bool ?_; refine t_tt ?_; (with_reducible refine k_ex ?_; refine q_meth C1 g0 S322 (meth_353_fail w) M0 (M1 M0) (keep_182 w) fun τ333 α333 s333 S333 => ?_; clear S322); exact x_fail (C1.le (by decide)) S333 (fun q hq => by repeat (first | exact hk q hq | refine List.Mem.tail _ ?_)) fun v s' R => x_on C1 R F1 (kE trivial _)
theorem d_selA3 (hR : news = (me, instObj 353 md) :: (md, dictOf (sEnt e0 (.ref kl) (.ref fl) (.int fni tfn) (.ref ll) (.ref rl) (.ref vl) (.ref bl) (.int at_ ta)) kd) :: rest) (hi : (ins, tup [.int 28 tk, a1, a2] ki) ∈ rest) (hk : ∀ q ∈ keep, q ∈ rest) :
    Does w 5 350 [.ref me, .ref ins] c news Post True keep "invalid result arity" (.int fni tfn) at_ := by
  subst hR
  intro base outer env A g L m s Q E C S k kE; refine' r_def C S (binds := [("instruction", .ref ins), ("self", .ref me)]) ?ho ?hcd ?hb ?hl ?_ ?c1 ?c2 ?c3 ?c4
  case ho => k_is
  case hcd => k_is
  case hb => exact BindsTo.of_eq rfl
  case hl => exact locs rfl
  case c1 => decide
  case c2 => exact rfl
  case c3 => exact rfl
  case c4 => exact rfl
  intro g1 L1 s1 C1 S1 F1; k_fold; (with_reducible refine k_if ?_); refine wpAny_isTrue_Compare1 ?_; (with_reducible refine q_itT g0 S1 (M1 (M1 (hi))) (by with_unfolding_all exact fun _ _ => rfl) (by decide) (by decide) rfl rfl fun s406 S406 => ?_; clear S1); refine r_int S406 fun t408 s408 S408 => ?_; clear S406; refine eq_int ?_; refine wpAny_truthy_bool ?_; refine t_tt ?_; (with_reducible refine k_if ?_); refine wpAny_isTrue_Compare1 ?_; (with_reducible refine q_callB0 C1 g0 S408 (bb_len w) .B ?_); refine r_lenT S408 (.tail _ (.tail _ (hi))) (by (simp only [decide_eq_true_eq, List.length_append, List.length_cons, List.length_nil, List.length_reverse, List.length_replicate]; lia)) fun t421 s421 S421 => ?_; clear S408; refine r_int S421 fun t422 s422 S422 => ?_; clear S421; refine ne_int ?_; refine wpAny_truthy_bool ?_; refine t_tt ?_; (with_reducible refine k_ex ?_; refine q_meth C1 g0 S422 (meth_353_fail w) M0 (M1 M0) (keep_182 w) fun τ433 α433 s433 S433 => ?_; clear S422); exact x_fail (C1.le (by decide)) S433 (fun q hq => by repeat (first | exact hk q hq | refine List.Mem.tail _ ?_)) fun v s' R => x_on C1 R F1 (kE trivial _)
theorem d_selT (hR : news = (me, instObj 353 md) :: (md, dictOf (sEnt e0 (.ref kl) (.ref fl) (.int fni tfn) (.ref ll) (.ref rl) (.ref vl) (.ref bl) (.int at_ ta)) kd) :: rest) (hi : (ins, tup [.int 28 tk, .int i tk2] ki) ∈ rest) (hk : ∀ q ∈ keep, q ∈ rest) (hkn : KTD.inKeys i KN = false) :
    Does w 5 350 [.ref me, .ref ins] c news Post True keep "unknown type" (.int fni tfn) at_ := by
  subst hR
  intro base outer env A g L m s Q E C S k kE; refine' r_def C S (binds := [("instruction", .ref ins), ("self", .ref me)]) ?ho ?hcd ?hb ?hl ?_ ?c1 ?c2 ?c3 ?c4
  case ho => k_is
  case hcd => k_is
  case hb => exact BindsTo.of_eq rfl
  case hl => exact locs rfl
  case c1 => decide
  case c2 => exact rfl
  case c3 => exact rfl
  case c4 => exact rfl
  intro g1 L1 s1 C1 S1 F1; k_fold; (with_reducible refine k_if ?_); refine wpAny_isTrue_Compare1 ?_; (with_reducible refine q_itT g0 S1 (M1 (M1 (hi))) (by with_unfolding_all exact fun _ _ => rfl) (by decide) (by decide) rfl rfl fun s506 S506 => ?_; clear S1); refine r_int S506 fun t508 s508 S508 => ?_; clear S506; refine eq_int ?_; refine wpAny_truthy_bool ?_; refine t_tt ?_; (with_reducible refine k_if ?_); refine wpAny_isTrue_Compare1 ?_; (with_reducible refine q_callB0 C1 g0 S508 (bb_len w) .B ?_); refine r_lenT S508 (.tail _ (.tail _ (hi))) (by (simp only [decide_eq_true_eq, List.length_append, List.length_cons, List.length_nil, List.length_reverse, List.length_replicate]; lia)) fun t521 s521 S521 => ?_; clear S508; refine r_int S521 fun t522 s522 S522 => ?_; clear S521; refine ne_int ?_; refine wpAny_truthy_bool ?_; refine t_ff ?_; refine wpAny_execs_nil ?_; refine seq_next ?_; (with_reducible refine k_if ?_); refine isTrue_not ?_; refine isTrue_plain ?_; refine r_call ?_; refine r_glb C1 S522 (gl_is_kind w) ?_; refine r_callK (keep_29 w) ?_; refine spliced_more ?_; (with_reducible refine q_itT g0 S522 (M1 (M1 (hi))) (by with_unfolding_all exact fun _ _ => rfl) (by decide) (by decide) rfl rfl fun s538 S538 => ?_; clear S522); refine spliced_none ?_; refine ⟨C1.inK S538, ?_⟩; refine c_is_kind (C1.le (by decide)) S538 (by first | rfl | assumption) fun s542 S542 => ?_; clear S538; refine wpAny_truthy_bool ?_; refine t_pos (by simp_all) ?_; (with_reducible refine k_ex ?_; refine q_meth C1 g0 S542 (meth_353_fail w) M0 (M1 M0) (keep_182 w) fun τ552 α552 s552 S552 => ?_; clear S542); exact x_fail (C1.le (by decide)) S552 (fun q hq => by repeat (first | exact hk q hq | refine List.Mem.tail _ ?_)) fun v s' R => x_on C1 R F1 (kE trivial _)
theorem d_loc_sel (hR : news = (me, instObj 353 md) :: (md, dictOf (sEnt e0 (.ref kl) (.ref fl) (.int fni tfn) (.ref ll) (.ref rl) (.ref vl) (.ref bl) (.int at_ ta)) kd) :: rest) (hi : (ins, tup (.int code tk :: args) ki) ∈ rest) (hz : args.length ≤ 10) (hc : code = 27 ∨ code = 28) (H : Does w n 350 [.ref me, .ref ins] c news Post X keep why (.int fni tfn) at_) :
    Does w (n + 1) 343 [.ref me, .ref ins] c news Post X keep why (.int fni tfn) at_ := by
  subst hR
  intro base outer env A g L m s Q E C S k kE; refine' r_def C S (binds := [("instruction", .ref ins), ("self", .ref me)]) ?ho ?hcd ?hb ?hl ?_ ?c1 ?c2 ?c3 ?c4
  case ho => k_is
  case hcd => k_is
  case hb => exact BindsTo.of_eq rfl
  case hl => exact locs rfl
  case c1 => decide
  case c2 => exact rfl
  case c3 => exact rfl
  case c4 => exact rfl
  intro g1 L1 s1 C1 S1 F1; k_fold; (with_reducible refine k_as ?_); refine Subscript_ ?_; refine r_loc S1 rfl ?_; refine r_int S1 fun t605 s605 S605 => ?_; clear S1; rename St _ _ _ _ _ _ => S690; refine r_itemTn S690 (.tail _ (.tail _ hi)) (by decide) (by simp only [List.length_cons]; lia) (by simp only [List.length_cons]; lia) rfl ?_
  rcases hc with rfl | rfl
  · (with_reducible refine k_st S690 fun s701 S701 => ?_; clear S690; refine q_if g0 S701 fun τ707 α707 s707 S707 => ?_; clear S701); refine t_neg (by simp only [beq_iff_eq, decide_eq_true_eq]; lia) ?_; (with_reducible refine k_if ?_); refine wpAny_isTrue_Compare1 ?_; refine r_loc S707 rfl ?_; (with_reducible refine q_ev g0 S707 fun τ721 α721 s721 S721 => ?_; clear S707); refine r_inTupD S721 (.cons _ _ (.cons _ _ .nil)) rfl fun S722 => ?_; clear S721; refine wpAny_truthy_bool ?_; refine t_tt ?_; (with_reducible refine k_ex ?_; refine q_meth0 C1 g0 S722 (meth_353_select w) M0 (M1 M0) (keep_350 w) ?_); refine H C1 S722 (fun v735 news735 s735 hp735 S735 => ?_) (fun x v s' R => x_on C1 R F1 (kE x _)); clear S722; (with_reducible refine k_sn ?_; refine k_sn ?_; refine k_sn ?_); k_unfold; refine r_leave S735 fun S735 => ?_
    rename Post _ => hp
    exact k _ _ _ hp (by assumption)
  · (with_reducible refine k_st S690 fun s801 S801 => ?_; clear S690; refine q_if g0 S801 fun τ807 α807 s807 S807 => ?_; clear S801); refine t_neg (by simp only [beq_iff_eq, decide_eq_true_eq]; lia) ?_; (with_reducible refine k_if ?_); refine wpAny_isTrue_Compare1 ?_; refine r_loc S807 rfl ?_; (with_reducible refine q_ev g0 S807 fun τ821 α821 s821 S821 => ?_; clear S807); refine r_inTupD S821 (.cons _ _ (.cons _ _ .nil)) rfl fun S822 => ?_; clear S821; refine wpAny_truthy_bool ?_; refine t_tt ?_; (with_reducible refine k_ex ?_; refine q_meth0 C1 g0 S822 (meth_353_select w) M0 (M1 M0) (keep_350 w) ?_); refine H C1 S822 (fun v835 news835 s835 hp835 S835 => ?_) (fun x v s' R => x_on C1 R F1 (kE x _)); clear S822; (with_reducible refine k_sn ?_; refine k_sn ?_; refine k_sn ?_); k_unfold; refine r_leave S835 fun S835 => ?_
    rename Post _ => hp
    exact k _ _ _ hp (by assumption)
end
end Mine
end
section
open PySem PySem.W PyProof.Rows PySem.Calls PySem.Spec
set_option maxHeartbeats 2000000
namespace Mine
noncomputable abbrev BAD : List Int := [6, 7, 10, 17, 19, 20, 25, 29, 30, 31, 35, 38, 39, 40, 62, 64, 67, 68, 91, 102, 139, 166, 168, 171, 174, 191, 197, 207, 208, 210, 211, 64520, 64529]
inductive StepR (K F P : Nat) : PS → List Int → PS → Prop
  | const {n bs x} : StepR K F P ⟨n, bs⟩ [65, x] ⟨n + 1, bs⟩
  | blk0 {n c0 h0 bs code} : code = 2 ∨ code = 3 → h0 ≤ n → StepR K F P ⟨n, (c0, h0, false) :: bs⟩ [code, -64] ⟨n, (code, n, false) :: (c0, h0, false) :: bs⟩
  | blk1 {n c0 h0 bs} {code told : Int} : code = 2 ∨ code = 3 → h0 ≤ n → 0 ≤ told → told < K → StepR K F P ⟨n, (c0, h0, false) :: bs⟩ [code, told] ⟨n, (code, n, false) :: (c0, h0, false) :: bs⟩
  | ifb {n c0 h0 bs} : h0 ≤ n → StepR K F P ⟨n + 1, (c0, h0, false) :: bs⟩ [4, -64] ⟨n, (4, n, false) :: (c0, h0, false) :: bs⟩
  | els {n bs} : StepR K F P ⟨n, (4, n, false) :: bs⟩ [5] ⟨n, (5, n, false) :: bs⟩
  | fin {n c0 d bs} : StepR K F P ⟨n, (c0, n, d) :: bs⟩ [11] ⟨n, bs⟩
  | drop {n c0 h0 bs} : h0 ≤ n → StepR K F P ⟨n + 1, (c0, h0, false) :: bs⟩ [26] ⟨n, (c0, h0, false) :: bs⟩
  | lget {n c0 h0 bs} {p : Int} : 0 ≤ p → p < P → StepR K F P ⟨n, (c0, h0, false) :: bs⟩ [32, p] ⟨n + 1, (c0, h0, false) :: bs⟩
  | lset {n c0 h0 bs} {p : Int} : h0 ≤ n → 0 ≤ p → p < P → StepR K F P ⟨n + 1, (c0, h0, false) :: bs⟩ [33, p] ⟨n, (c0, h0, false) :: bs⟩
  | ltee {n c0 h0 bs} {p : Int} : h0 ≤ n → 0 ≤ p → p < P → StepR K F P ⟨n + 1, (c0, h0, false) :: bs⟩ [34, p] ⟨n + 1, (c0, h0, false) :: bs⟩
  | br {n c0 h0 bs} {l : Int} : h0 ≤ n → 0 ≤ l → l < bs.length + 1 → StepR K F P ⟨n, (c0, h0, false) :: bs⟩ [12, l] ⟨h0, (c0, h0, true) :: bs⟩
  | brif {n c0 h0 bs} {l : Int} : h0 ≤ n → 0 ≤ l → l < bs.length + 1 → StepR K F P ⟨n + 1, (c0, h0, false) :: bs⟩ [13, l] ⟨n, (c0, h0, false) :: bs⟩
  | brt {n c0 h0 bs} {l l' : Int} : h0 ≤ n → 0 ≤ l → l < bs.length + 1 → 0 ≤ l' → l' < bs.length + 1 → StepR K F P ⟨n + 1, (c0, h0, false) :: bs⟩ [14, l, l'] ⟨h0, (c0, h0, true) :: bs⟩
  | call {n c0 h0 bs} {p : Int} : h0 ≤ n → 0 ≤ p → p < F → StepR K F P ⟨n, (c0, h0, false) :: bs⟩ [16, p] ⟨n, (c0, h0, false) :: bs⟩
  | tail {n c0 h0 bs} {p : Int} : h0 ≤ n → 0 ≤ p → p < F → StepR K F P ⟨n, (c0, h0, false) :: bs⟩ [18, p] ⟨h0, (c0, h0, true) :: bs⟩
  | sel27 {n c0 h0 bs} : h0 ≤ n → StepR K F P ⟨n + 3, (c0, h0, false) :: bs⟩ [27] ⟨n + 1, (c0, h0, false) :: bs⟩
  | sel28 {n c0 h0 bs} : h0 ≤ n → StepR K F P ⟨n + 3, (c0, h0, false) :: bs⟩ [28, -1] ⟨n + 1, (c0, h0, false) :: bs⟩
inductive StepX (K F P : Nat) : PS → List Int → Str → Prop
  | bad {p code} : code ∈ BAD → StepX K F P p [code, 0, 0] "illegal opcode"
  | els {n c0 h0 d bs} : c0 ≠ 4 → StepX K F P ⟨n, (c0, h0, d) :: bs⟩ [5] "else without if"
  | blk {n c0 h0 bs} {code told : Int} : code = 2 ∨ code = 3 → 0 ≤ told → K ≤ told → StepX K F P ⟨n, (c0, h0, false) :: bs⟩ [code, told] "unknown type"
  | loc {p code} {l : Int} : code = 32 ∨ code = 33 ∨ code = 34 → l < 0 ∨ P ≤ l → StepX K F P p [code, l] "unknown local"
  | br {n bs} {l : Int} : 0 ≤ l → bs.length ≤ l → StepX K F P ⟨n, bs⟩ [12, l] "unknown label"
  | brif {n c0 h0 bs} {l : Int} : h0 ≤ n → 0 ≤ l → bs.length + 1 ≤ l → StepX K F P ⟨n + 1, (c0, h0, false) :: bs⟩ [13, l] "unknown label"
  | brta {n c0 h0 bs} {l l' : Int} : h0 ≤ n → 0 ≤ l' → bs.length + 1 ≤ l' → StepX K F P ⟨n + 1, (c0, h0, false) :: bs⟩ [14, l, l'] "unknown label"
  | brtb {n c0 h0 bs} {l l' : Int} : h0 ≤ n → 0 ≤ l' → l' < bs.length + 1 → 0 ≤ l → bs.length + 1 ≤ l → StepX K F P ⟨n + 1, (c0, h0, false) :: bs⟩ [14, l, l'] "unknown label"
  | call {n bs} {code p : Int} : code = 16 ∨ code = 18 → F ≤ p → StepX K F P ⟨n, bs⟩ [code, p] "unknown function"
  | selA1 {p} : StepX K F P p [28] "invalid result arity"
  | selA3 {p x y} : StepX K F P p [28, x, y] "invalid result arity"
  | selT {p x} : KTD.inKeys x KN = false → StepX K F P p [28, x] "unknown type"
structure SO (kl fl ll rl : Addr) (keep : Led) (K F P : Nat) : Prop where
  kinds : ∃ kk ka k0 p0 k1 r0 k2, (kl, lst (List.replicate K (.ref ka)) kk) ∈ keep ∧ (ka, tup [.ref p0, .ref r0] k0) ∈ keep ∧ (p0, tup [] k1) ∈ keep ∧ (r0, tup [] k2) ∈ keep
  funcs : ∃ fk tj, (fl, lst (List.replicate F (.int ((K : Int) - 1) tj)) fk) ∈ keep
  locs : ∃ lvs lk, (ll, tup lvs lk) ∈ keep ∧ lvs.length = P ∧ ∀ v ∈ lvs, I32V v
  res : ∃ k3, (rl, tup [] k3) ∈ keep
  k1 : 1 ≤ K
  k2 : K ≤ 1000
  f2 : F ≤ 1000
  p2 : P ≤ 1000
theorem last1 {vals : List Value} {n : Nat} (h : vals.length = n + 1) (hv : ∀ v ∈ vals, I32V v) : ∃ vs t, vals = vs ++ [.int (-1) t] ∧ vs.length = n ∧ ∀ v ∈ vs, I32V v := by
  rcases List.eq_nil_or_concat vals with rfl | ⟨vs, x, rfl⟩
  · simp at h
  · rw [List.concat_eq_append] at *
    obtain ⟨t, rfl⟩ := hv x (by simp)
    exact ⟨vs, t, rfl, by simpa using h, fun v q => hv v (by simp [q])⟩
theorem cut {vals : List Value} {n h : Nat} (hn : vals.length = n) (hh : h ≤ n) (hv : ∀ v ∈ vals, I32V v) : ∃ vs ws, vals = vs ++ ws ∧ vs.length = h ∧ ws.length = n - h ∧ ∀ v ∈ vs, I32V v :=
  ⟨vals.take h, vals.drop h, (List.take_append_drop h vals).symm, by rw [List.length_take]; lia, by rw [List.length_drop]; lia, fun v q => hv v (List.mem_of_mem_take q)⟩
theorem i32_snoc {vs : List Value} {t : Tok} (h : ∀ v ∈ vs, I32V v) : ∀ v ∈ vs ++ [.int (-1) t], I32V v := fun v q => by
  rcases List.mem_append.mp q with q | q
  · exact h v q
  · simp at q; exact ⟨t, q⟩
end Mine
end
section
open PySem PySem.W PyProof.Rows PySem.Calls PySem.Spec
set_option maxHeartbeats 2000000
namespace Mine
theorem ia1 {vs : List Value} {a : Int} (h : IntsAre vs [a]) : ∃ t, vs = [.int a t] := by
  cases h with | cons _ t1 h => cases h; exact ⟨t1, rfl⟩
theorem ia2 {vs : List Value} {a b : Int} (h : IntsAre vs [a, b]) : ∃ t u, vs = [.int a t, .int b u] := by
  cases h with | cons _ t1 h => obtain ⟨t2, rfl⟩ := ia1 h; exact ⟨t1, t2, rfl⟩
theorem ia3 {vs : List Value} {a b c : Int} (h : IntsAre vs [a, b, c]) : ∃ t u v, vs = [.int a t, .int b u, .int c v] := by
  cases h with | cons _ t1 h => obtain ⟨t2, t3, rfl⟩ := ia2 h; exact ⟨t1, t2, t3, rfl⟩
theorem bt_more {blks : List Blk} {fx : Led} {x : Addr × Obj} (h : ∀ b ∈ blks, (b.p, tup [] b.kp) ∈ fx ∧ (b.r, tup [] b.kr) ∈ fx) : ∀ b ∈ blks, (b.p, tup [] b.kp) ∈ x :: fx ∧ (b.r, tup [] b.kr) ∈ x :: fx :=
  fun b hb => ⟨.tail _ (h b hb).1, .tail _ (h b hb).2⟩
theorem bt_cons {blks : List Blk} {fx : Led} {b : Blk} (h : ∀ b ∈ blks, (b.p, tup [] b.kp) ∈ fx ∧ (b.r, tup [] b.kr) ∈ fx) (h1 : (b.p, tup [] b.kp) ∈ fx) (h2 : (b.r, tup [] b.kr) ∈ fx) : ∀ x ∈ b :: blks, (x.p, tup [] x.kp) ∈ fx ∧ (x.r, tup [] x.kr) ∈ fx := by
  intro x hx
  rcases List.mem_cons.mp hx with rfl | hx
  · exact ⟨h1, h2⟩
  · exact h x hx
theorem bt_tail {blks : List Blk} {fx : Led} {b : Blk} (h : ∀ x ∈ b :: blks, (x.p, tup [] x.kp) ∈ fx ∧ (x.r, tup [] x.kr) ∈ fx) : ∀ x ∈ blks, (x.p, tup [] x.kp) ∈ fx ∧ (x.r, tup [] x.kr) ∈ fx := fun x hx => h x (.tail _ hx)
theorem tgt_at (blks : List Blk) (fx : Led) {i : Int} (h0 : 0 ≤ i) (h1 : i < blks.length) (hbt : ∀ b ∈ blks, (b.p, tup [] b.kp) ∈ fx ∧ (b.r, tup [] b.kr) ∈ fx) :
    ∃ B : Blk, (refB blks)[(((refB blks).length : Int) - 1 - i).toNat]? = some (.ref B.a) ∧ (B.a, instObj 157 B.d) ∈ ledB blks fx ∧ (B.d, dictOf (bEnt B.e (.int B.code B.tc) (.ref B.p) (.ref B.r) (.int B.h B.th) (.bool B.dead) (.bool false)) B.k) ∈ ledB blks fx ∧ (B.p, tup [] B.kp) ∈ fx ∧ (B.r, tup [] B.kr) ∈ fx := by
  have hj : i.toNat < blks.length := by lia
  refine ⟨blks[i.toNat], ?_, (ledB_get blks fx _ hj).1, (ledB_get blks fx _ hj).2, hbt _ (List.getElem_mem hj)⟩
  rw [← refB_get blks i.toNat hj, refB_len]
  congr 1
  lia
section
variable {w : World} {c : Shared} {me md kl fl ll rl vl bl : Addr} {e0 : Nat → Int × Tok} {fni : Int} {tfn : Tok} {kd : Nat} {at_ : Int} {ta : Tok} {keep : Led} {news rest : Led}
variable {ins : Addr} {vs : List Value} {ki K F P : Nat} {p p' : PS} {row : List Int} {why : Str}
theorem step_ok (so : SO kl fl ll rl keep K F P) (R : Rep me md kl fl ll rl vl bl e0 fni tfn kd at_ ta keep p news) (hr : (ins, tup vs ki) ∈ keep) (hv : IntsAre vs row) (st : StepR K F P p row p') (hn : p.n ≤ 850) (hb : p.bs.length ≤ 850) :
    Does w 8 287 [.ref me, .ref ins] c news (Rep me md kl fl ll rl vl bl e0 fni tfn kd at_ ta keep p') False keep "" (.int fni tfn) at_ := by
  obtain ⟨vals, kv, kb, blks, fx, hperm, hvals, hlen, hbs, hbt, hkeep⟩ := R
  refine Does.perm ?_ hperm; clear hperm
  obtain ⟨kk, ka, k0, p0, k1, r0, k2, hkk, hka, hp0, hr0⟩ := so.kinds
  obtain ⟨fk, tj, hff⟩ := so.funcs
  obtain ⟨lvs, lk, hll, hlvl, hlv⟩ := so.locs
  obtain ⟨k3, hrl⟩ := so.res
  have hK1 := so.k1
  have hK2 := so.k2
  have hF := so.f2
  have hP := so.p2
  have hkx : ∀ {q}, q ∈ keep → ∀ bs, q ∈ ledB bs fx := fun h bs => ledB_mem (hkeep _ h) bs
  cases st with
  | const =>
    obtain ⟨t1, t2, rfl⟩ := ia2 hv
    dsimp only at hlen hbs hn hb
    refine Does.le (d_step_const rfl (.tail _ (hkx hr _)) (by simp) (by lia) fun v kv' hvv => ?_) (by decide)
    obtain ⟨t, rfl⟩ := hvv
    exact ⟨_, kv', kb, blks, fx, .refl _, i32_snoc hvals, by simp [hlen], hbs, hbt, hkeep⟩
  | @blk0 n c0 h0 bs code hc hh =>
    obtain ⟨t1, t2, rfl⟩ := ia2 hv
    dsimp only at hlen hbs hn hb
    rcases blks with _ | ⟨⟨a, d, e, code0, tc, pa, kp, ra, kr, h, th, dead, kk'⟩, bs'⟩
    · simp at hbs
    simp only [List.map_cons, Blk.abs, List.cons.injEq, Prod.mk.injEq] at hbs
    obtain ⟨⟨rfl, rfl, rfl⟩, hbs'⟩ := hbs
    have hbl : bs'.length = bs.length := by rw [← hbs', List.length_map]
    rw [List.length_cons] at hb
    refine Does.le (d_step_ctl rfl (.tail _ (.tail _ (hkx hr _))) (by simp) (.inl (by lia)) (d_blk0 rfl (hkx hr bs') hc (by lia) (by rw [refB_len]; lia) (by dsimp only; lia) fun kv' kb' x dx e2 tc2 th2 kd2 p r pr => ?_)) (by decide)
    refine ⟨vals, kv', kb', ⟨x, dx, e2, code, tc2, p, 0, r, 0, vals.length, th2, false, kd2⟩ :: ⟨a, d, e, code0, tc, pa, kp, ra, kr, h, th, false, kk'⟩ :: bs', _ :: _ :: _ :: fx, .cons _ (.cons _ (.cons _ (.cons _ (.cons _ (.cons _ (.cons _ (.cons _ (ledB_perm [_, _, _] fx bs')))))))), hvals, hlen, by simp [Blk.abs, hlen, hbs'],
      bt_cons (bt_more (bt_more (bt_more hbt))) (.tail _ (.tail _ (.head _))) (.tail _ (.head _)), fun q hq => .tail _ (.tail _ (.tail _ (hkeep q hq)))⟩
  | @blk1 n c0 h0 bs code told hc hh ht0 ht1 =>
    obtain ⟨t1, t2, rfl⟩ := ia2 hv
    dsimp only at hlen hbs hn hb
    rcases blks with _ | ⟨⟨a, d, e, code0, tc, pa, kp, ra, kr, h, th, dead, kk'⟩, bs'⟩
    · simp at hbs
    simp only [List.map_cons, Blk.abs, List.cons.injEq, Prod.mk.injEq] at hbs
    obtain ⟨⟨rfl, rfl, rfl⟩, hbs'⟩ := hbs
    have hbl : bs'.length = bs.length := by rw [← hbs', List.length_map]
    rw [List.length_cons] at hb
    refine Does.le (d_step_ctl rfl (.tail _ (.tail _ (hkx hr _))) (by simp) (.inl (by lia)) (d_blk1 rfl (hkx hr bs') hc (by lia) (by rw [refB_len]; lia) (by dsimp only; lia) (hkx hkk bs') ht0 (by simp; lia) (by simp; lia) (by rw [List.getElem?_replicate, if_pos (by lia)]) (hkx hka bs') (hkx hp0 bs') (hkx hr0 bs') fun kv' kb' x dx e2 tc2 th2 kd2 => ?_)) (by decide)
    exact ⟨vals, kv', kb', ⟨x, dx, e2, code, tc2, p0, k1, r0, k2, vals.length, th2, false, kd2⟩ :: ⟨a, d, e, code0, tc, pa, kp, ra, kr, h, th, false, kk'⟩ :: bs', fx, .refl _, hvals, hlen, by simp [Blk.abs, hlen, hbs'],
      bt_cons hbt (hkeep _ hp0) (hkeep _ hr0), hkeep⟩
  | @ifb n c0 h0 bs hh =>
    obtain ⟨t1, t2, rfl⟩ := ia2 hv
    dsimp only at hlen hbs hn hb
    rcases blks with _ | ⟨⟨a, d, e, code0, tc, pa, kp, ra, kr, h, th, dead, kk'⟩, bs'⟩
    · simp at hbs
    simp only [List.map_cons, Blk.abs, List.cons.injEq, Prod.mk.injEq] at hbs
    obtain ⟨⟨rfl, rfl, rfl⟩, hbs'⟩ := hbs
    have hbl : bs'.length = bs.length := by rw [← hbs', List.length_map]
    rw [List.length_cons] at hb
    obtain ⟨vals, tv, rfl, hlen, hvals⟩ := last1 hlen hvals
    refine Does.le (d_step_ctl rfl (.tail _ (.tail _ (hkx hr _))) (by simp) (.inl (by lia)) (d_if rfl (hkx hr bs') (by lia) (by rw [refB_len]; lia) (by dsimp only; lia) fun kv' kb' x dx e2 tc2 th2 kd2 p r pr => ?_)) (by decide)
    refine ⟨vals, kv', kb', ⟨x, dx, e2, 4, tc2, p, 0, r, 0, vals.length, th2, false, kd2⟩ :: ⟨a, d, e, code0, tc, pa, kp, ra, kr, h, th, false, kk'⟩ :: bs', _ :: _ :: _ :: fx, .cons _ (.cons _ (.cons _ (.cons _ (.cons _ (.cons _ (.cons _ (.cons _ (ledB_perm [_, _, _] fx bs')))))))), hvals, hlen, by simp [Blk.abs, hlen, hbs'],
      bt_cons (bt_more (bt_more (bt_more hbt))) (.tail _ (.tail _ (.head _))) (.tail _ (.head _)), fun q hq => .tail _ (.tail _ (.tail _ (hkeep q hq)))⟩
  | @els n bs =>
    obtain ⟨t1, rfl⟩ := ia1 hv
    dsimp only at hlen hbs hn hb
    rcases blks with _ | ⟨⟨a, d, e, code0, tc, pa, kp, ra, kr, h, th, dead, kk'⟩, bs'⟩
    · simp at hbs
    simp only [List.map_cons, Blk.abs, List.cons.injEq, Prod.mk.injEq] at hbs
    obtain ⟨⟨rfl, rfl, rfl⟩, hbs'⟩ := hbs
    obtain rfl : h = vals.length := hlen.symm
    have hbl : bs'.length = bs.length := by rw [← hbs', List.length_map]
    rw [List.length_cons] at hb
    refine Does.le (d_step_ctl rfl (.tail _ (.tail _ (hkx hr _))) (by simp) (.inl (by lia)) (d_ctl_els rfl (.tail _ (.tail _ (hkx hr _))) (d_other rfl (by lia) (by rw [refB_len]; lia) (ledB_mem (hbt _ (.head _)).1 bs') (ledB_mem (hbt _ (.head _)).2 bs') fun kv' kb' x dx e2 tc2 th2 kd2 => ?_) (by decide))) (by decide)
    exact ⟨vals, kv', kb', ⟨x, dx, e2, 5, tc2, pa, kp, ra, kr, vals.length, th2, false, kd2⟩ :: bs', fx, .refl _, hvals, rfl, by simp [Blk.abs, hbs'],
      bt_cons (bt_tail hbt) (hbt _ (.head _)).1 (hbt _ (.head _)).2, hkeep⟩
  | @fin n c0 d0 bs =>
    obtain ⟨t1, rfl⟩ := ia1 hv
    dsimp only at hlen hbs hn hb
    rcases blks with _ | ⟨⟨a, d, e, code0, tc, pa, kp, ra, kr, h, th, dead, kk'⟩, bs'⟩
    · simp at hbs
    simp only [List.map_cons, Blk.abs, List.cons.injEq, Prod.mk.injEq] at hbs
    obtain ⟨⟨rfl, rfl, rfl⟩, hbs'⟩ := hbs
    obtain rfl : h = vals.length := hlen.symm
    have hbl : bs'.length = bs.length := by rw [← hbs', List.length_map]
    rw [List.length_cons] at hb
    refine Does.le (d_step_ctl rfl (.tail _ (.tail _ (hkx hr _))) (by simp) (.inl (by lia)) (d_ctl_end rfl (.tail _ (.tail _ (hkx hr _))) (d_end1 (vs := []) rfl (by lia) (by rw [refB_len]; lia) (ledB_mem (hbt _ (.head _)).1 bs') (ledB_mem (hbt _ (.head _)).2 bs') fun kv' kb' => ?_) (by decide))) (by decide); exact ⟨vals, kv', kb', bs', fx, .refl _, hvals, rfl, hbs', bt_tail hbt, hkeep⟩
  | @drop n c0 h0 bs hh =>
    obtain ⟨t1, rfl⟩ := ia1 hv
    dsimp only at hlen hbs hn hb
    rcases blks with _ | ⟨⟨a, d, e, code0, tc, pa, kp, ra, kr, h, th, dead, kk'⟩, bs'⟩
    · simp at hbs
    have hbs0 := hbs
    simp only [List.map_cons, Blk.abs, List.cons.injEq, Prod.mk.injEq] at hbs
    obtain ⟨⟨rfl, rfl, rfl⟩, hbs'⟩ := hbs
    have hbl : bs'.length = bs.length := by rw [← hbs', List.length_map]
    rw [List.length_cons] at hb
    obtain ⟨vals, tv, rfl, hlen, hvals⟩ := last1 hlen hvals
    refine Does.le (d_step_loc rfl (.tail _ (.tail _ (hkx hr _))) (by simp) (by decide) (by decide) (d_drop rfl (hkx hr bs') (by lia) (by rw [refB_len]; lia) (by dsimp only; lia) fun kv' => ?_)) (by decide); exact ⟨vals, kv', kb, _ :: bs', fx, .refl _, hvals, hlen, hbs0, hbt, hkeep⟩
  | @lget n c0 h0 bs q hq0 hq1 =>
    obtain ⟨t1, t2, rfl⟩ := ia2 hv
    dsimp only at hlen hbs hn hb
    rcases blks with _ | ⟨⟨a, d, e, code0, tc, pa, kp, ra, kr, h, th, dead, kk'⟩, bs'⟩
    · simp at hbs
    have hbs0 := hbs
    simp only [List.map_cons, Blk.abs, List.cons.injEq, Prod.mk.injEq] at hbs
    obtain ⟨⟨rfl, rfl, rfl⟩, hbs'⟩ := hbs
    have hj : q.toNat < lvs.length := by lia
    obtain ⟨tq, hxq⟩ := hlv _ (List.getElem_mem hj)
    refine Does.le (d_step_loc rfl (.tail _ (.tail _ (hkx hr _))) (by simp) (by decide) (by decide) (d_lget rfl (hkx hr bs') (by lia) (hkx hll bs') (by lia) hq0 (by lia) (by rw [List.getElem?_eq_getElem hj, hxq]) fun kv' => ?_)) (by decide); exact ⟨_, kv', kb, _ :: bs', fx, .refl _, i32_snoc hvals, by simp [hlen], hbs0, hbt, hkeep⟩
  | @lset n c0 h0 bs q hh hq0 hq1 =>
    obtain ⟨t1, t2, rfl⟩ := ia2 hv
    dsimp only at hlen hbs hn hb
    rcases blks with _ | ⟨⟨a, d, e, code0, tc, pa, kp, ra, kr, h, th, dead, kk'⟩, bs'⟩
    · simp at hbs
    have hbs0 := hbs
    simp only [List.map_cons, Blk.abs, List.cons.injEq, Prod.mk.injEq] at hbs
    obtain ⟨⟨rfl, rfl, rfl⟩, hbs'⟩ := hbs
    have hbl : bs'.length = bs.length := by rw [← hbs', List.length_map]
    rw [List.length_cons] at hb
    have hj : q.toNat < lvs.length := by lia
    obtain ⟨tq, hxq⟩ := hlv _ (List.getElem_mem hj)
    obtain ⟨vals, tv, rfl, hlen, hvals⟩ := last1 hlen hvals
    refine Does.le (d_step_loc rfl (.tail _ (.tail _ (hkx hr _))) (by simp) (by decide) (by decide) (d_lset rfl (hkx hr bs') (by lia) (by rw [refB_len]; lia) (by dsimp only; lia) (hkx hll bs') (by lia) hq0 (by lia) (by rw [List.getElem?_eq_getElem hj, hxq]) fun kv' => ?_)) (by decide); exact ⟨_, kv', kb, _ :: bs', fx, .refl _, hvals, hlen, hbs0, hbt, hkeep⟩
  | @ltee n c0 h0 bs q hh hq0 hq1 =>
    obtain ⟨t1, t2, rfl⟩ := ia2 hv
    dsimp only at hlen hbs hn hb
    rcases blks with _ | ⟨⟨a, d, e, code0, tc, pa, kp, ra, kr, h, th, dead, kk'⟩, bs'⟩
    · simp at hbs
    have hbs0 := hbs
    simp only [List.map_cons, Blk.abs, List.cons.injEq, Prod.mk.injEq] at hbs
    obtain ⟨⟨rfl, rfl, rfl⟩, hbs'⟩ := hbs
    have hbl : bs'.length = bs.length := by rw [← hbs', List.length_map]
    rw [List.length_cons] at hb
    have hj : q.toNat < lvs.length := by lia
    obtain ⟨tq, hxq⟩ := hlv _ (List.getElem_mem hj)
    obtain ⟨vals, tv, rfl, hlen, hvals⟩ := last1 hlen hvals
    refine Does.le (d_step_loc rfl (.tail _ (.tail _ (hkx hr _))) (by simp) (by decide) (by decide) (d_ltee rfl (hkx hr bs') (by lia) (by rw [refB_len]; lia) (by dsimp only; lia) (hkx hll bs') (by lia) hq0 (by lia) (by rw [List.getElem?_eq_getElem hj, hxq]) fun kv' => ?_)) (by decide); exact ⟨_, kv', kb, _ :: bs', fx, .refl _, i32_snoc hvals, by simp [hlen], hbs0, hbt, hkeep⟩
  | @br n c0 h0 bs l hh hl0 hl1 =>
    obtain ⟨t1, t2, rfl⟩ := ia2 hv
    dsimp only at hlen hbs hn hb
    rcases blks with _ | ⟨⟨a, d, e, code0, tc, pa, kp, ra, kr, h, th, dead, kk'⟩, bs'⟩
    · simp at hbs
    simp only [List.map_cons, Blk.abs, List.cons.injEq, Prod.mk.injEq] at hbs
    obtain ⟨⟨rfl, rfl, rfl⟩, hbs'⟩ := hbs
    have hbl : bs'.length = bs.length := by rw [← hbs', List.length_map]
    rw [List.length_cons] at hb
    obtain ⟨vals, ws, rfl, hvl, hwl, hvi⟩ := cut hlen hh hvals
    subst hvl
    obtain ⟨B, b1, b2, b3, b4, b5⟩ := tgt_at _ fx hl0 (by rw [List.length_cons]; lia) hbt
    refine Does.le (d_step_ctl rfl (.tail _ (.tail _ (hkx hr _))) (by simp) (.inl (by lia)) (d_ctl_br rfl (.tail _ (.tail _ (hkx hr _))) (by simp) (.inl rfl) (d_br12 rfl (hkx hr bs') (by lia) (by rw [refB_len]; lia) (ledB_mem b4 bs') (ledB_mem b5 bs') hl0 (by rw [List.length_append, refB_len]; simp; lia) b1 b2 b3 fun kv' => ?_) (by decide))) (by decide); exact ⟨vals, kv', kb, ⟨a, d, e, code0, tc, pa, kp, ra, kr, vals.length, th, true, kk'⟩ :: bs', fx, .refl _, hvi, rfl, by simp [Blk.abs, hbs'], bt_cons (bt_tail hbt) (hbt _ (.head _)).1 (hbt _ (.head _)).2, hkeep⟩
  | @brif n c0 h0 bs l hh hl0 hl1 =>
    obtain ⟨t1, t2, rfl⟩ := ia2 hv
    dsimp only at hlen hbs hn hb
    rcases blks with _ | ⟨⟨a, d, e, code0, tc, pa, kp, ra, kr, h, th, dead, kk'⟩, bs'⟩
    · simp at hbs
    have hbs0 := hbs
    simp only [List.map_cons, Blk.abs, List.cons.injEq, Prod.mk.injEq] at hbs
    obtain ⟨⟨rfl, rfl, rfl⟩, hbs'⟩ := hbs
    have hbl : bs'.length = bs.length := by rw [← hbs', List.length_map]
    rw [List.length_cons] at hb
    obtain ⟨vals, tv, rfl, hlen, hvals⟩ := last1 hlen hvals
    obtain ⟨B, b1, b2, b3, b4, b5⟩ := tgt_at _ fx hl0 (by rw [List.length_cons]; lia) hbt
    refine Does.le (d_step_ctl rfl (.tail _ (.tail _ (hkx hr _))) (by simp) (.inl (by lia)) (d_ctl_br rfl (.tail _ (.tail _ (hkx hr _))) (by simp) (.inr (.inl rfl)) (d_br13 rfl (hkx hr bs') (by lia) (by rw [refB_len]; lia) (by dsimp only; lia) (ledB_mem b4 bs') (ledB_mem b5 bs') hl0 (by rw [List.length_append, refB_len]; simp; lia) b1 b2 b3 fun kv' => ?_) (by decide))) (by decide); exact ⟨vals, kv', kb, _ :: bs', fx, .refl _, hvals, hlen, hbs0, hbt, hkeep⟩
  | @brt n c0 h0 bs l l' hh hl0 hl1 hl0' hl1' =>
    obtain ⟨t1, t2, t3, rfl⟩ := ia3 hv
    dsimp only at hlen hbs hn hb
    rcases blks with _ | ⟨⟨a, d, e, code0, tc, pa, kp, ra, kr, h, th, dead, kk'⟩, bs'⟩
    · simp at hbs
    simp only [List.map_cons, Blk.abs, List.cons.injEq, Prod.mk.injEq] at hbs
    obtain ⟨⟨rfl, rfl, rfl⟩, hbs'⟩ := hbs
    have hbl : bs'.length = bs.length := by rw [← hbs', List.length_map]
    rw [List.length_cons] at hb
    obtain ⟨vals, tv, rfl, hlen, hvals⟩ := last1 hlen hvals
    obtain ⟨vals, ws, rfl, hvl, hwl, hvi⟩ := cut hlen hh hvals
    subst hvl
    obtain ⟨B, b1, b2, b3, b4, b5⟩ := tgt_at _ fx hl0 (by rw [List.length_cons]; lia) hbt
    obtain ⟨B', b1', b2', b3', b4', b5'⟩ := tgt_at _ fx hl0' (by rw [List.length_cons]; lia) hbt
    refine Does.le (d_step_ctl rfl (.tail _ (.tail _ (hkx hr _))) (by simp) (.inl (by lia)) (d_ctl_br rfl (.tail _ (.tail _ (hkx hr _))) (by simp) (.inr (.inr rfl)) (d_br14 rfl (hkx hr bs') (by lia) (by rw [refB_len]; lia) (ledB_mem b4 bs') (ledB_mem b5 bs') (ledB_mem b4' bs') (ledB_mem b5' bs') hl0 (by rw [List.length_append, refB_len]; simp; lia) b1 b2 b3 hl0' (by rw [List.length_append, refB_len]; simp; lia) b1' b2' b3' fun kv' => ?_) (by decide))) (by decide); exact ⟨vals, kv', kb, ⟨a, d, e, code0, tc, pa, kp, ra, kr, vals.length, th, true, kk'⟩ :: bs', fx, .refl _, hvi, rfl, by simp [Blk.abs, hbs'], bt_cons (bt_tail hbt) (hbt _ (.head _)).1 (hbt _ (.head _)).2, hkeep⟩
  | @call n c0 h0 bs q hh hq0 hq1 =>
    obtain ⟨t1, t2, rfl⟩ := ia2 hv
    dsimp only at hlen hbs hn hb
    rcases blks with _ | ⟨⟨a, d, e, code0, tc, pa, kp, ra, kr, h, th, dead, kk'⟩, bs'⟩
    · simp at hbs
    have hbs0 := hbs
    simp only [List.map_cons, Blk.abs, List.cons.injEq, Prod.mk.injEq] at hbs
    obtain ⟨⟨rfl, rfl, rfl⟩, hbs'⟩ := hbs
    have hbl : bs'.length = bs.length := by rw [← hbs', List.length_map]
    rw [List.length_cons] at hb
    refine Does.le (d_step_ctl rfl (.tail _ (.tail _ (hkx hr _))) (by simp) (.inl (by lia)) (d_ctl_call (j := (K : Int) - 1) (ka := ka) rfl (hkx hr _) (.inl rfl) (hkx hkk _) (hkx hff _) (by simp; lia) (by simp; lia) hq0 (by simp; lia) (by rw [List.getElem?_replicate, if_pos (by lia)]) (by lia) (by simp; lia) (by rw [List.getElem?_replicate, if_pos (by lia)]) (d_call0 rfl (by lia) (by rw [refB_len]; lia) (by dsimp only; lia) (hkx hka bs') (hkx hp0 bs') (hkx hr0 bs') fun kv' => ?_))) (by decide); exact ⟨vals, kv', kb, _ :: bs', fx, .refl _, hvals, hlen, hbs0, hbt, hkeep⟩
  | @tail n c0 h0 bs q hh hq0 hq1 =>
    obtain ⟨t1, t2, rfl⟩ := ia2 hv
    dsimp only at hlen hbs hn hb
    rcases blks with _ | ⟨⟨a, d, e, code0, tc, pa, kp, ra, kr, h, th, dead, kk'⟩, bs'⟩
    · simp at hbs
    simp only [List.map_cons, Blk.abs, List.cons.injEq, Prod.mk.injEq] at hbs
    obtain ⟨⟨rfl, rfl, rfl⟩, hbs'⟩ := hbs
    have hbl : bs'.length = bs.length := by rw [← hbs', List.length_map]
    rw [List.length_cons] at hb
    obtain ⟨vals, ws, rfl, hvl, hwl, hvi⟩ := cut hlen hh hvals
    subst hvl
    refine Does.le (d_step_ctl rfl (.tail _ (.tail _ (hkx hr _))) (by simp) (.inr rfl) (d_ctl_call (j := (K : Int) - 1) (ka := ka) rfl (hkx hr _) (.inr rfl) (hkx hkk _) (hkx hff _) (by simp; lia) (by simp; lia) hq0 (by simp; lia) (by rw [List.getElem?_replicate, if_pos (by lia)]) (by lia) (by simp; lia) (by rw [List.getElem?_replicate, if_pos (by lia)]) (d_call1 rfl (by lia) (by rw [refB_len]; lia) (hkx hka bs') (hkx hp0 bs') (hkx hr0 bs') (hkx hrl bs') fun kv' => ?_))) (by decide); exact ⟨vals, kv', kb, ⟨a, d, e, code0, tc, pa, kp, ra, kr, vals.length, th, true, kk'⟩ :: bs', fx, .refl _, hvi, rfl, by simp [Blk.abs, hbs'], bt_cons (bt_tail hbt) (hbt _ (.head _)).1 (hbt _ (.head _)).2, hkeep⟩
  | @sel27 n c0 h0 bs hh =>
    obtain ⟨t1, rfl⟩ := ia1 hv
    dsimp only at hlen hbs hn hb
    rcases blks with _ | ⟨⟨a, d, e, code0, tc, pa, kp, ra, kr, h, th, dead, kk'⟩, bs'⟩
    · simp at hbs
    have hbs0 := hbs
    simp only [List.map_cons, Blk.abs, List.cons.injEq, Prod.mk.injEq] at hbs
    obtain ⟨⟨rfl, rfl, rfl⟩, hbs'⟩ := hbs
    have hbl : bs'.length = bs.length := by rw [← hbs', List.length_map]
    rw [List.length_cons] at hb
    obtain ⟨vals, tv1, rfl, hlen, hvals⟩ := last1 hlen hvals
    obtain ⟨vals, tv2, rfl, hlen, hvals⟩ := last1 hlen hvals
    obtain ⟨vals, tv3, rfl, hlen, hvals⟩ := last1 hlen hvals
    refine Does.le (d_step_loc rfl (.tail _ (.tail _ (hkx hr _))) (by simp) (by decide) (by decide) (d_loc_sel rfl (.tail _ (.tail _ (hkx hr _))) (by simp) (.inl rfl) (d_sel27 rfl (hkx hr bs') (by lia) (by rw [refB_len]; lia) (by dsimp only; lia) fun kv' t => ?_))) (by decide); exact ⟨_, kv', kb, _ :: bs', fx, .refl _, i32_snoc hvals, by simp [hlen], hbs0, hbt, hkeep⟩
  | @sel28 n c0 h0 bs hh =>
    obtain ⟨t1, t2, rfl⟩ := ia2 hv
    dsimp only at hlen hbs hn hb
    rcases blks with _ | ⟨⟨a, d, e, code0, tc, pa, kp, ra, kr, h, th, dead, kk'⟩, bs'⟩
    · simp at hbs
    have hbs0 := hbs
    simp only [List.map_cons, Blk.abs, List.cons.injEq, Prod.mk.injEq] at hbs
    obtain ⟨⟨rfl, rfl, rfl⟩, hbs'⟩ := hbs
    have hbl : bs'.length = bs.length := by rw [← hbs', List.length_map]
    rw [List.length_cons] at hb
    obtain ⟨vals, tv1, rfl, hlen, hvals⟩ := last1 hlen hvals
    obtain ⟨vals, tv2, rfl, hlen, hvals⟩ := last1 hlen hvals
    obtain ⟨vals, tv3, rfl, hlen, hvals⟩ := last1 hlen hvals
    rw [List.append_assoc, List.append_assoc]
    refine Does.le (d_step_loc rfl (.tail _ (.tail _ (hkx hr _))) (by simp) (by decide) (by decide) (d_loc_sel rfl (.tail _ (.tail _ (hkx hr _))) (by simp) (.inr rfl) (d_sel28 rfl (hkx hr bs') (by lia) (by rw [refB_len]; lia) (by dsimp only; lia) fun kv' t => ?_))) (by decide); exact ⟨_, kv', kb, _ :: bs', fx, .refl _, i32_snoc hvals, by simp [hlen], hbs0, hbt, hkeep⟩
theorem step_bad (so : SO kl fl ll rl keep K F P) (R : Rep me md kl fl ll rl vl bl e0 fni tfn kd at_ ta keep p news) (hr : (ins, tup vs ki) ∈ keep) (hv : IntsAre vs row) (st : StepX K F P p row why) (hn : p.n ≤ 850) (hb : p.bs.length ≤ 850) :
    Does w 8 287 [.ref me, .ref ins] c news (fun _ => False) True keep why (.int fni tfn) at_ := by
  obtain ⟨vals, kv, kb, blks, fx, hperm, hvals, hlen, hbs, hbt, hkeep⟩ := R
  refine Does.perm ?_ hperm; clear hperm
  obtain ⟨kk, ka, k0, p0, k1, r0, k2, hkk, hka, hp0, hr0⟩ := so.kinds
  obtain ⟨fk, tj, hff⟩ := so.funcs
  obtain ⟨lvs, lk, hll, hlvl, hlv⟩ := so.locs
  have hK1 := so.k1
  have hK2 := so.k2
  have hF := so.f2
  have hP := so.p2
  have hkx : ∀ {q}, q ∈ keep → ∀ bs, q ∈ ledB bs fx := fun h bs => ledB_mem (hkeep _ h) bs
  cases st with
  | @bad _ code hc =>
    obtain ⟨t1, t2, t3, rfl⟩ := ia3 hv
    by_cases h1 : code = 6 ∨ code = 7 ∨ code = 10
    · exact Does.le (d_step_ctl rfl (.tail _ (.tail _ (hkx hr _))) (by simp) (.inl (by lia)) (d_ctl_bad rfl (fun q hq => .tail _ (.tail _ (hkx hq _))) (.tail _ (.tail _ (hkx hr _))) h1)) (by decide)
    by_cases h2 : 29 ≤ code ∧ code ≤ 31
    · exact Does.le (d_step_loc rfl (.tail _ (.tail _ (hkx hr _))) (by simp) (by lia) (by lia) (d_loc_bad rfl (fun q hq => .tail _ (.tail _ (hkx hq _))) (.tail _ (.tail _ (hkx hr _))) h2)) (by decide)
    by_cases h3 : 69 ≤ code ∧ code ≤ 196
    · refine Does.le (d_step_num rfl (.tail _ (.tail _ (hkx hr _))) (by simp) h3.1 h3.2 (d_num rfl (fun q hq => .tail _ (.tail _ (hkx hq _))) ?_)) (by decide)
      have hb : ∀ x ∈ BAD, 69 ≤ x ∧ x ≤ 196 → ∀ p ∈ RNG, ¬ (p.1 ≤ x ∧ x ≤ p.2) := by decide
      exact hb code hc h3
    · refine Does.le (d_step_more rfl (.tail _ (.tail _ (hkx hr _))) (by simp) ?_ (d_more rfl (fun q hq => .tail _ (.tail _ (hkx hq _))))) (by decide)
      have hb : ∀ x ∈ BAD, ¬(x = 6 ∨ x = 7 ∨ x = 10) → ¬(29 ≤ x ∧ x ≤ 31) → ¬(69 ≤ x ∧ x ≤ 196) → ((19 ≤ x ∧ x ≤ 25) ∨ x = 17 ∨ (35 ≤ x ∧ x ≤ 64) ∨ (67 ≤ x ∧ x ≤ 68) ∨ 197 ≤ x) := by decide
      exact hb code hc h1 h2 h3
  | @els n c0 h0 d0 bs hc =>
    obtain ⟨t1, rfl⟩ := ia1 hv
    dsimp only at hlen hbs hn hb
    rcases blks with _ | ⟨⟨a, d, e, code0, tc, pa, kp, ra, kr, h, th, dead, kk'⟩, bs'⟩
    · simp at hbs
    simp only [List.map_cons, Blk.abs, List.cons.injEq, Prod.mk.injEq] at hbs
    obtain ⟨⟨rfl, rfl, rfl⟩, hbs'⟩ := hbs
    have hbl : bs'.length = bs.length := by rw [← hbs', List.length_map]
    rw [List.length_cons] at hb
    exact Does.le (d_step_ctl rfl (.tail _ (.tail _ (hkx hr _))) (by simp) (.inl (by lia)) (d_ctl_els rfl (.tail _ (.tail _ (hkx hr _))) (d_otherX rfl (by rw [refB_len]; lia) hc (fun q hq => hkx hq bs')) (by decide))) (by decide)
  | @blk n c0 h0 bs code told hc ht0 ht1 =>
    obtain ⟨t1, t2, rfl⟩ := ia2 hv
    dsimp only at hlen hbs hn hb
    rcases blks with _ | ⟨⟨a, d, e, code0, tc, pa, kp, ra, kr, h, th, dead, kk'⟩, bs'⟩
    · simp at hbs
    simp only [List.map_cons, Blk.abs, List.cons.injEq, Prod.mk.injEq] at hbs
    obtain ⟨⟨rfl, rfl, rfl⟩, hbs'⟩ := hbs
    exact Does.le (d_step_ctl rfl (.tail _ (.tail _ (hkx hr _))) (by simp) (.inl (by lia)) (d_blk2 rfl (hkx hr (_ :: bs')) hc (fun q hq => hkx hq (_ :: bs')) (hkx hkk (_ :: bs')) ht0 (by simp; lia) (by simp; lia))) (by decide)
  | @loc _ code l hc hl =>
    obtain ⟨t1, t2, rfl⟩ := ia2 hv
    exact Does.le (d_step_loc rfl (.tail _ (.tail _ (hkx hr _))) (by simp) (by lia) (by lia) (d_locX rfl (hkx hr _) hc (hkx hll _) (by lia) (by lia) (fun q hq => hkx hq _))) (by decide)
  | @br n bs l hl0 hl1 =>
    obtain ⟨t1, t2, rfl⟩ := ia2 hv
    dsimp only at hlen hbs hn hb
    have hbl : blks.length = bs.length := by rw [← hbs, List.length_map]
    exact Does.le (d_step_ctl rfl (.tail _ (.tail _ (hkx hr _))) (by simp) (.inl (by lia)) (d_ctl_br rfl (.tail _ (.tail _ (hkx hr _))) (by simp) (.inl rfl) (d_br12X rfl (hkx hr _) (by rw [refB_len]; lia) hl0 (by rw [refB_len]; lia) (fun q hq => hkx hq _)) (by decide))) (by decide)
  | @brif n c0 h0 bs l hh hl0 hl1 =>
    obtain ⟨t1, t2, rfl⟩ := ia2 hv
    dsimp only at hlen hbs hn hb
    rcases blks with _ | ⟨⟨a, d, e, code0, tc, pa, kp, ra, kr, h, th, dead, kk'⟩, bs'⟩
    · simp at hbs
    simp only [List.map_cons, Blk.abs, List.cons.injEq, Prod.mk.injEq] at hbs
    obtain ⟨⟨rfl, rfl, rfl⟩, hbs'⟩ := hbs
    have hbl : bs'.length = bs.length := by rw [← hbs', List.length_map]
    rw [List.length_cons] at hb
    obtain ⟨vals, tv, rfl, hlen, hvals⟩ := last1 hlen hvals
    exact Does.le (d_step_ctl rfl (.tail _ (.tail _ (hkx hr _))) (by simp) (.inl (by lia)) (d_ctl_br rfl (.tail _ (.tail _ (hkx hr _))) (by simp) (.inr (.inl rfl)) (d_br13X rfl (hkx hr bs') (by lia) (by rw [refB_len]; lia) (by dsimp only; lia) hl0 (by rw [List.length_append, refB_len]; simp; lia) (fun q hq => hkx hq bs')) (by decide))) (by decide)
  | @brta n c0 h0 bs l l' hh hl0 hl1 =>
    obtain ⟨t1, t2, t3, rfl⟩ := ia3 hv
    dsimp only at hlen hbs hn hb
    rcases blks with _ | ⟨⟨a, d, e, code0, tc, pa, kp, ra, kr, h, th, dead, kk'⟩, bs'⟩
    · simp at hbs
    simp only [List.map_cons, Blk.abs, List.cons.injEq, Prod.mk.injEq] at hbs
    obtain ⟨⟨rfl, rfl, rfl⟩, hbs'⟩ := hbs
    have hbl : bs'.length = bs.length := by rw [← hbs', List.length_map]
    rw [List.length_cons] at hb
    obtain ⟨vals, tv, rfl, hlen, hvals⟩ := last1 hlen hvals
    exact Does.le (d_step_ctl rfl (.tail _ (.tail _ (hkx hr _))) (by simp) (.inl (by lia)) (d_ctl_br rfl (.tail _ (.tail _ (hkx hr _))) (by simp) (.inr (.inr rfl)) (d_br14Xa rfl (hkx hr bs') (by lia) (by rw [refB_len]; lia) (by dsimp only; lia) hl0 (by rw [List.length_append, refB_len]; simp; lia) (fun q hq => hkx hq bs')) (by decide))) (by decide)
  | @brtb n c0 h0 bs l l' hh hj0 hj1 hl0 hl1 =>
    obtain ⟨t1, t2, t3, rfl⟩ := ia3 hv
    dsimp only at hlen hbs hn hb
    rcases blks with _ | ⟨⟨a, d, e, code0, tc, pa, kp, ra, kr, h, th, dead, kk'⟩, bs'⟩
    · simp at hbs
    simp only [List.map_cons, Blk.abs, List.cons.injEq, Prod.mk.injEq] at hbs
    obtain ⟨⟨rfl, rfl, rfl⟩, hbs'⟩ := hbs
    have hbl : bs'.length = bs.length := by rw [← hbs', List.length_map]
    rw [List.length_cons] at hb
    obtain ⟨vals, tv, rfl, hlen, hvals⟩ := last1 hlen hvals
    obtain ⟨B, b1, b2, b3, b4, b5⟩ := tgt_at _ fx hj0 (by rw [List.length_cons]; lia) hbt
    exact Does.le (d_step_ctl rfl (.tail _ (.tail _ (hkx hr _))) (by simp) (.inl (by lia)) (d_ctl_br rfl (.tail _ (.tail _ (hkx hr _))) (by simp) (.inr (.inr rfl)) (d_br14Xb rfl (hkx hr bs') (by lia) (by rw [refB_len]; lia) (by dsimp only; lia) (ledB_mem b4 bs') (ledB_mem b5 bs') hl0 (by rw [List.length_append, refB_len]; simp; lia) (fun q hq => hkx hq bs') hj0 (by rw [List.length_append, refB_len]; simp; lia) b1 b2 b3) (by decide))) (by decide)
  | @call n bs code q hc hq =>
    obtain ⟨t1, t2, rfl⟩ := ia2 hv
    exact Does.le (d_step_ctl rfl (.tail _ (.tail _ (hkx hr _))) (by simp) (by lia) (d_ctl_callX rfl (hkx hr _) hc (hkx hff _) (by simp; lia) (by simp; lia) (fun q hq => hkx hq _))) (by decide)
  | selA1 =>
    obtain ⟨t1, rfl⟩ := ia1 hv
    exact Does.le (d_step_loc rfl (.tail _ (.tail _ (hkx hr _))) (by simp) (by decide) (by decide) (d_loc_sel rfl (.tail _ (.tail _ (hkx hr _))) (by simp) (.inr rfl) (d_selA1 rfl (.tail _ (.tail _ (hkx hr _))) (fun q hq => .tail _ (.tail _ (hkx hq _)))))) (by decide)
  | selA3 =>
    obtain ⟨t1, t2, t3, rfl⟩ := ia3 hv
    exact Does.le (d_step_loc rfl (.tail _ (.tail _ (hkx hr _))) (by simp) (by decide) (by decide) (d_loc_sel rfl (.tail _ (.tail _ (hkx hr _))) (by simp) (.inr rfl) (d_selA3 rfl (.tail _ (.tail _ (hkx hr _))) (fun q hq => .tail _ (.tail _ (hkx hq _)))))) (by decide)
  | selT hx =>
    obtain ⟨t1, t2, rfl⟩ := ia2 hv
    exact Does.le (d_step_loc rfl (.tail _ (.tail _ (hkx hr _))) (by simp) (by decide) (by decide) (d_loc_sel rfl (.tail _ (.tail _ (hkx hr _))) (by simp) (.inr rfl) (d_selT rfl (.tail _ (.tail _ (hkx hr _))) (fun q hq => .tail _ (.tail _ (hkx hq _))) hx))) (by decide)
end
end Mine
end
section
open PySem PySem.W PyProof.Rows PySem.Calls PySem.Spec
set_option maxHeartbeats 2000000
namespace Mine
inductive Chk (K F P : Nat) : PS → Nat → List (List Int) → Except (Str × Int) (List (Option Nat)) → Prop
  | done {n at_} : Chk K F P ⟨n, []⟩ at_ [] (.ok [])
  | left {n b bs at_} : bs.length ≤ 800 → Chk K F P ⟨n, b :: bs⟩ at_ [] (.error ("type mismatch", (at_ : Int) - 1))
  | none_ {n at_ row rows} : Chk K F P ⟨n, []⟩ at_ (row :: rows) (.error ("type mismatch", (at_ : Int)))
  | bad {n b bs at_ row rows why} : n ≤ 800 → bs.length ≤ 800 → StepX K F P ⟨n, b :: bs⟩ row why → Chk K F P ⟨n, b :: bs⟩ at_ (row :: rows) (.error (why, (at_ : Int)))
  | step {n c0 h0 d bs at_ row rows p' hs} : n ≤ 800 → bs.length ≤ 800 → StepR K F P ⟨n, (c0, h0, d) :: bs⟩ row p' → Chk K F P p' (at_ + 1) rows (.ok hs) → Chk K F P ⟨n, (c0, h0, d) :: bs⟩ at_ (row :: rows) (.ok ((if d then none else some n) :: hs))
  | stepE {n c0 h0 d bs at_ row rows p' e} : n ≤ 800 → bs.length ≤ 800 → StepR K F P ⟨n, (c0, h0, d) :: bs⟩ row p' → Chk K F P p' (at_ + 1) rows (.error e) → Chk K F P ⟨n, (c0, h0, d) :: bs⟩ at_ (row :: rows) (.error e)
noncomputable def HtIs (v : Value) : Option Nat → Prop
  | none => v = .none
  | some n => ∃ t, v = .int n t
inductive HsAre : List Value → List (Option Nat) → Prop
  | nil : HsAre [] []
  | cons {v h vs hs} : HtIs v h → HsAre vs hs → HsAre (v :: vs) (h :: hs)
theorem HsAre.snoc {v : Value} {h : Option Nat} {vs : List Value} {hs : List (Option Nat)} (H : HsAre vs hs) (hv : HtIs v h) : HsAre (vs ++ [v]) (hs ++ [h]) := by
  induction H with
  | nil => exact .cons hv .nil
  | cons a _ ih => exact .cons a ih
theorem HsAre.len {vs : List Value} {hs : List (Option Nat)} (H : HsAre vs hs) : vs.length = hs.length := by
  induction H with
  | nil => rfl
  | cons a _ ih => simp [ih]
inductive RowsAre (keep : Led) : List Value → List (List Int) → Prop
  | nil : RowsAre keep [] []
  | cons {ins vs ki row refs rows} : (ins, tup vs ki) ∈ keep → IntsAre vs row → RowsAre keep refs rows → RowsAre keep (.ref ins :: refs) (row :: rows)
theorem RowsAre.get {keep : Led} {refs : List Value} {rows : List (List Int)} (H : RowsAre keep refs rows) {i : Nat} {v : Value} (h : refs[i]? = some v) : ∃ ins vs ki row, v = .ref ins ∧ (ins, tup vs ki) ∈ keep ∧ IntsAre vs row ∧ rows.drop i = row :: rows.drop (i + 1) := by
  induction H generalizing i with
  | nil => simp at h
  | @cons ins vs ki row refs rows h1 h2 h3 ih =>
    cases i with
    | zero => simp at h; exact ⟨ins, vs, ki, row, h.symm, h1, h2, rfl⟩
    | succ i => simp at h; obtain ⟨a, b, c, d, e1, e2, e3, e4⟩ := ih h; exact ⟨a, b, c, d, e1, e2, e3, by simpa using e4⟩
theorem RowsAre.len {keep : Led} {refs : List Value} {rows : List (List Int)} (H : RowsAre keep refs rows) : refs.length = rows.length := by
  induction H with
  | nil => rfl
  | cons _ _ _ ih => simp [ih]
theorem RowsAre.mono {keep keep' : Led} {refs : List Value} {rows : List (List Int)} (H : RowsAre keep refs rows) (h : ∀ q ∈ keep, q ∈ keep') : RowsAre keep' refs rows := by
  induction H with
  | nil => exact .nil
  | cons a b _ ih => exact .cons (h _ a) b ih
theorem led_front : ∀ (xs fx : Led), (xs.map (·.1)).Nodup → (∀ x ∈ xs, x ∈ fx) → ∃ fx', fx.Perm (xs ++ fx') ∧ ∀ q ∈ fx, q.1 ∉ xs.map (·.1) → q ∈ fx'
  | [], fx, _, _ => ⟨fx, .refl _, fun q h _ => h⟩
  | x :: xs, fx, nd, h => by
    rw [List.map_cons, List.nodup_cons] at nd
    obtain ⟨a, b, rfl⟩ := List.append_of_mem (h x (.head _))
    have hp : (a ++ x :: b).Perm (x :: (a ++ b)) := List.perm_middle
    obtain ⟨fx', h1, h2⟩ := led_front xs (a ++ b) nd.2 fun y hy => by
      have := hp.mem_iff.mp (h y (.tail _ hy))
      rcases List.mem_cons.mp this with rfl | this
      · exact absurd (List.mem_map_of_mem hy) nd.1
      · exact this
    refine ⟨fx', hp.trans (.cons _ h1), fun q hq hn => h2 q ?_ fun hm => hn (.tail _ hm)⟩
    rcases List.mem_cons.mp (hp.mem_iff.mp hq) with rfl | hq
    · exact absurd (.head _) hn
    · exact hq
noncomputable def Cat (pre : List (Option Nat)) (Ri R : Except (Str × Int) (List (Option Nat))) : Prop := match Ri with
  | .ok hs => R = .ok (pre ++ hs)
  | .error e => R = .error e
theorem SO.mono {kl fl ll rl : Addr} {keep keep' : Led} {K F P : Nat} (so : SO kl fl ll rl keep K F P) (h : ∀ q ∈ keep, q ∈ keep') : SO kl fl ll rl keep' K F P := by
  obtain ⟨⟨kk, ka, k0, p0, k1, r0, k2, a1, a2, a3, a4⟩, ⟨fk, tj, b1⟩, ⟨lvs, lk, c1, c2, c3⟩, ⟨k3, d1⟩, e1, e2, e3, e4⟩ := so
  exact ⟨⟨kk, ka, k0, p0, k1, r0, k2, h _ a1, h _ a2, h _ a3, h _ a4⟩, ⟨fk, tj, h _ b1⟩, ⟨lvs, lk, h _ c1, c2, c3⟩, ⟨k3, h _ d1⟩, e1, e2, e3, e4⟩
end Mine
end
section
open PySem PySem.W PyProof.Rows PySem.Calls PySem.Spec
set_option maxHeartbeats 1000000
namespace Mine

theorem Chk.bound {K F P n i : Nat} {b : Int × Nat × Bool} {bs : List (Int × Nat × Bool)} {row : List Int} {rows : List (List Int)} {R : Except (Str × Int) (List (Option Nat))} (h : Chk K F P ⟨n, b :: bs⟩ i (row :: rows) R) : n ≤ 800 ∧ bs.length ≤ 800 := by
  cases h with
  | bad h1 h2 _ => exact ⟨h1, h2⟩
  | step h1 h2 _ _ => exact ⟨h1, h2⟩
  | stepE h1 h2 _ _ => exact ⟨h1, h2⟩
section
variable {w : World} {c : Shared} {me md kl fl ll rl vl bl : Addr} {e0 : Nat → Int × Tok} {fni : Int} {tfn : Tok} {kd : Nat} {at_ : Int} {ta : Tok} {keep : Led} {news rest : Led}
theorem Rep.keep1 {x y z : Addr × Obj} {p : PS} (R : Rep me md kl fl ll rl vl bl e0 fni tfn kd at_ ta (x :: y :: z :: keep) p news) : Rep me md kl fl ll rl vl bl e0 fni tfn kd at_ ta keep p news := by
  obtain ⟨vals, kv, kb, blks, fx, h1, h2, h3, h4, h5, h6⟩ := R
  exact ⟨vals, kv, kb, blks, fx, h1, h2, h3, h4, h5, fun q hq => h6 q (.tail _ (.tail _ (.tail _ hq)))⟩
theorem Rep.around {g : Heap} {L : Addr} {m : Loc} {s : Shared} {x y z : Addr × Obj} {vals : List Value} {kv kb : Nat} {blks : List Blk} {fx : Led} {n : Nat} {bs : List (Int × Nat × Bool)} (S : St c g L m (x :: y :: z :: (me, instObj 353 md) :: (md, dictOf (sEnt e0 (.ref kl) (.ref fl) (.int fni tfn) (.ref ll) (.ref rl) (.ref vl) (.ref bl) (.int at_ ta)) kd) :: (vl, lst vals kv) :: (bl, lst (refB blks) kb) :: ledB blks fx) s)
    (hvals : ∀ v ∈ vals, I32V v) (hlen : vals.length = n) (hbs : blks.map Blk.abs = bs) (hbt : ∀ b ∈ blks, (b.p, tup [] b.kp) ∈ fx ∧ (b.r, tup [] b.kr) ∈ fx) (hkeep : ∀ q ∈ keep, q ∈ fx) :
    Rep me md kl fl ll rl vl bl e0 fni tfn kd at_ ta (x :: y :: z :: keep) ⟨n, bs⟩ (x :: y :: z :: (me, instObj 353 md) :: (md, dictOf (sEnt e0 (.ref kl) (.ref fl) (.int fni tfn) (.ref ll) (.ref rl) (.ref vl) (.ref bl) (.int at_ ta)) kd) :: (vl, lst vals kv) :: (bl, lst (refB blks) kb) :: ledB blks fx) := by
  refine ⟨vals, kv, kb, blks, x :: y :: z :: fx, (List.perm_append_comm_assoc [x, y, z] [_, _, _, _] (ledB blks fx)).trans (.cons _ (.cons _ (.cons _ (.cons _ (ledB_perm [x, y, z] fx blks))))), hvals, hlen, hbs, bt_more (bt_more (bt_more hbt)), fun q hq => ?_⟩
  rcases List.mem_cons.mp hq with rfl | hq
  · exact .head _
  rcases List.mem_cons.mp hq with rfl | hq
  · exact .tail _ (.head _)
  rcases List.mem_cons.mp hq with rfl | hq
  · exact .tail _ (.tail _ (.head _))
  · exact .tail _ (.tail _ (.tail _ (hkeep q hq)))
theorem ledB_permR {fx fx' : Led} (h : fx.Perm fx') : ∀ bs, (ledB bs fx).Perm (ledB bs fx')
  | [] => h
  | _ :: bs => .cons _ (.cons _ (ledB_permR h bs))
theorem Rep.out3 {g : Heap} {L : Addr} {m : Loc} {s : Shared} {x y z : Addr × Obj} {p : PS} (R : Rep me md kl fl ll rl vl bl e0 fni tfn kd at_ ta (x :: y :: z :: keep) p news) (S : St c g L m news s) (nd : ([x, y, z].map (·.1)).Nodup) (hn : ∀ q ∈ keep, q.1 ∉ [x, y, z].map (·.1))
    (hc : ∀ w ∈ [x, y, z], w.2.cls ≠ .type "tuple") :
    ∃ news', St c g L m (x :: y :: z :: news') s ∧ Rep me md kl fl ll rl vl bl e0 fni tfn kd at_ ta keep p news' := by
  obtain ⟨vals, kv, kb, blks, fx, h1, h2, h3, h4, h5, h6⟩ := R
  have hxs : ∀ w ∈ [x, y, z], w ∈ fx := fun w hw => h6 w (by simp at hw ⊢; rcases hw with h | h | h <;> simp [h])
  obtain ⟨fx', p1, p2⟩ := led_front [x, y, z] fx nd hxs
  have S1 := S.perm h1
  have hp := (ledB_permR p1 blks).trans (ledB_perm [x, y, z] fx' blks).symm
  have S2 := S1.perm ((((hp.cons _).cons _).cons _).cons _)
  have far : ∀ b k, (b, tup [] k) ∈ fx → (b, tup [] k) ∈ fx' := fun b k hb => p2 _ hb fun hm => by
    obtain ⟨w, hw, e⟩ := List.mem_map.mp hm
    have g1 := S1.get (.tail _ (.tail _ (.tail _ (.tail _ (ledB_mem (hxs w hw) blks)))))
    have g2 := S1.get (.tail _ (.tail _ (.tail _ (.tail _ (ledB_mem hb blks)))))
    have e' : w.1 = b := e
    rw [e'] at g1
    have e2 := g1.symm.trans g2
    exact hc w hw (by rw [Option.some.inj e2])
  refine ⟨_, S2.perm (List.perm_append_comm_assoc [_, _, _, _] [x, y, z] (ledB blks fx')), vals, kv, kb, blks, fx', .refl _, h2, h3, h4, fun b hb => ⟨far _ _ (h5 b hb).1, far _ _ (h5 b hb).2⟩, fun q hq => p2 q (h6 q (.tail _ (.tail _ (.tail _ hq)))) (hn q hq)⟩
theorem nd3 {x y z : Addr × Obj} {l : Led} (h : ((x :: y :: z :: l).map (·.1)).Nodup) : ([x, y, z].map (·.1)).Nodup ∧ ∀ q ∈ l, q.1 ∉ [x, y, z].map (·.1) := by
  have e : ((x :: y :: z :: l).map (·.1)) = [x, y, z].map (·.1) ++ l.map (·.1) := rfl
  rw [e, List.nodup_append] at h
  exact ⟨h.1, fun q hq hm => h.2.2 _ hm _ (List.mem_map_of_mem hq) rfl⟩
theorem c_check {w : World} {base : Heap} {outer : List Env} {env : Env} {A : Around} {c : Shared} {g : Heap} {L : Addr} {m : Loc} {news : Led} {s : Shared} {Q E : Value → Shared → Prop} {bdy : Addr} {refs : List Value} {kb0 K F P : Nat} {p0 : PS} {rows : List (List Int)} {R : Except (Str × Int) (List (Option Nat))} (C : Cx w base outer env A g L 10)
    (S : St c g L m news s) (so : SO kl fl ll rl keep K F P) (hR : Rep me md kl fl ll rl vl bl e0 fni tfn kd 0 ta keep p0 news) (hb : (bdy, lst refs kb0) ∈ keep) (hrows : RowsAre keep refs rows) (hz : rows.length ≤ 500) (hne : rows ≠ []) (ck : Chk K F P p0 0 rows R)
    (kQ : ∀ fl found fk news' hs s', R = .ok hs → HsAre found hs → (∀ q ∈ keep, q ∈ news') → St c g L m ((fl, lst found fk) :: news') s' → Q (.ref fl) s')
    (kE : ∀ why a, R = .error (why, a) → ∀ v s', RX base (env :: outer) c g L m keep why (.int fni tfn) a .none v s' → E v s') :
    wpAny (model PRG w) A (call (.ref 280) [.ref me, .ref bdy]) Q E s := by
  obtain ⟨vals, kv, kb, blks, fx, hperm, hvals, hlen, hbs, hbt, hkeep⟩ := hR
  have S := S.perm hperm
  have hbm : (bdy, lst refs kb0) ∈ ledB blks fx := ledB_mem (hkeep _ hb) _
  refine' r_def C S (binds := [("body", .ref bdy), ("self", .ref me)]) ?ho ?hcd ?hb ?hl ?_ ?c1 ?c2 ?c3 ?c4
  case ho => k_is
  case hcd => k_is
  case hb => exact BindsTo.of_eq rfl
  case hl => exact locs rfl
  case c1 => decide
  case c2 => exact rfl
  case c3 => exact rfl
  case c4 => exact rfl
  intro g1 L1 s1 C1 S1 F1; k_fold; (with_reducible refine q_as g0 S1 fun τ6 α6 s6 S6 => ?_; clear S1); refine r_cons ?_; refine wpAny_For ?_; (with_reducible refine q_callB0 C1 g0 S6 (bb_enumerate w) .T ?_); refine r_enum S6 (by repeat (first | exact List.Mem.head _ | refine List.Mem.tail _ ?_ | assumption)) fun en16 it16 o16 s16 ho16 S16 => ?_; clear S6; refine r_iterEn S16 (.head _) ?_; rename St _ _ _ _ _ _ => S90
  refine r_forEnum (I := fun i m' news' => i ≤ rows.length ∧ m'.lookup ("self" : Str) = some (Value.ref me) ∧ m'.lookup ("found" : Str) = some (Value.ref (α6 0)) ∧ ∃ (p : PS) (found : List Value) (pre : List (Option Nat)) (fk : Nat) (news₂ : Led) (a : Int) (ta' : Tok) (Ri : Except (Str × Int) (List (Option Nat))), news' = ((α6 0), lst found fk) :: news₂ ∧ Rep me md kl fl ll rl vl bl e0 fni tfn kd a ta' keep p news₂ ∧ (a = (i : Int) - 1 ∨ i = 0) ∧ HsAre found pre ∧ found.length = i ∧ Chk K F P p i (rows.drop i) Ri ∧ Cat pre Ri R)
    (t := bdy) (vs := refs) (k' := kb0) C1 S90 ho16 ?_ ?_ ?_ ?_
  · rintro i m₁ news₁ ⟨_, _, _, p, found, pre, fk, news₂, a, ta', Ri, rfl, hRep, _⟩
    obtain ⟨_, _, _, blks, fx, hp, _, _, _, _, hk⟩ := hRep
    exact .tail _ (hp.mem_iff.mpr (.tail _ (.tail _ (.tail _ (.tail _ (ledB_mem (hk _ hb) _))))))
  · refine ⟨Nat.zero_le _, rfl, rfl, p0, [], [], 0, _, 0, ta, R, rfl, ⟨vals, kv, kb, blks, fx, .refl _, hvals, hlen, hbs, hbt, hkeep⟩, .inr rfl, .nil, rfl, by simpa using ck, ?_⟩
    unfold Cat
    cases R <;> simp
  · rintro i m₁ news₁ T o x tk s₁ v hv ⟨hle, hm1, hm2, p, found, pre, fk, news₂, a, ta', Ri, rfl, hRep, ha, hHs, hfl, hck, hcat⟩ hLI S₁
    obtain ⟨ins, vs, ki, row, rfl, hmem, hints, hdrop⟩ := hrows.get hv
    rw [hdrop] at hck
    have hil : i < rows.length := by
      rw [← hrows.len]
      exact (List.getElem?_eq_some_iff.mp hv).1
    obtain ⟨vals, kv, kb, blks, fx, hperm, hvals, hlen, hbs, hbt, hkeep⟩ := hRep
    have S₂ := S₁.perm (.cons _ (.cons _ (.cons _ (.cons _ hperm))))
    clear S₁ hperm; refine r_unpackT C1 S₂ (.head _) rfl rfl fun s192 S192 => ?_; k_fold; clear S₂
    obtain ⟨np, bsp⟩ := p
    dsimp only at hlen hbs
    rcases blks with _ | ⟨⟨ba, bd, e1, code0, tc, pa, kp, ra, kr, h, th, dead, kk'⟩, bs'⟩
    · simp only [List.map_nil] at hbs
      subst hbs
      dsimp only [ledB, refB] at S192
      have heq : R = .error ("type mismatch", (i : Int)) := by
        cases hck
        exact hcat
      refine r_orderN ?_; refine r_asg S192 fun s202 S202 => ?_; clear S192; refine r_orderN ?_; refine r_asg S202 fun s204 S204 => ?_; clear S202; refine r_order0 ?_; k_unfold; k_fold; refine r_cons ?_; refine plainObj_wpAny_Assign_Attribute ?_; refine r_loc S204 rfl ?_; refine r_loc S204 hm1 ?_; refine r_set_at C1 S204 (.tail _ (.tail _ (.tail _ (.tail _ (.head _))))) (.tl (.tl (.tl (.tl (.tl .hd))))) fun s210 S210 => ?_; clear S204; refine seq_next ?_; (with_reducible refine k_if ?_); refine wpAny_isTrue_Compare1 ?_; refine r_call ?_; refine r_bui C1 S210 (gb_len w) (by boot_by_name) (by decide) ?_; refine r_callB ?_; refine spliced_more ?_; refine r_attr ?_; refine r_loc S210 hm1 ?_; refine r_get C1 S210 (own_353_blocks w) (.tail _ (.tail _ (.tail _ (.tail _ (.head _))))) (.tail _ (.tail _ (.tail _ (.tail _ (.tail _ (.head _)))))) rfl rfl fun s221 S221 => ?_; clear S210; refine spliced_none ?_; refine r_len S221 (.tail _ (.tail _ (.tail _ (.tail _ (.tail _ (.tail _ (.tail _ (.head _)))))))) (by decide) fun t223 s223 S223 => ?_; clear S221; refine r_int S223 fun t224 s224 S224 => ?_; clear S223; refine eq_int ?_; refine wpAny_truthy_bool ?_; refine t_pos (by simp only [beq_iff_eq, decide_eq_true_eq, List.length_append, List.length_cons, List.length_nil]; lia) ?_; (with_reducible refine k_ex ?_); refine r_meth ?_; refine r_loc S224 hm1 ?_; refine r_getm C1 S224 (meth_353_fail w) (.tail _ (.tail _ (.tail _ (.tail _ (.head _))))) (.tail _ (.tail _ (.tail _ (.tail _ (.tail _ (.head _)))))) rfl ?_; refine r_callK (keep_182 w) ?_; (with_reducible refine q_sp g0 S224 fun τ235 α235 s235 S235 => ?_; clear S224); refine ⟨C1.inK S235, ?_⟩; rename St _ _ _ _ _ _ => S290; exact x_fail (C1.le (by decide)) S290.rot_4_2 (fun q hq => .tail _ (.tail _ (.tail _ (.tail _ (.tail _ (.tail _ (hkeep q hq))))))) fun v s' R' => x_loop C1 R' fun s'' R'' => x_held C1 R'' F1 (kE _ _ heq _)
    · dsimp only [ledB, refB] at S192
      have hbs0 := hbs
      rw [List.map_cons] at hbs
      subst hbs
      have hbd := hck.bound
      rw [List.length_map] at hbd
      have hz2 : (refB bs').length ≤ 900 := by rw [refB_len]; lia
      have hzv : vals.length ≤ 800 := by lia
      have hzf : found.length ≤ 500 := by lia
      cases dead with
      | true =>
        refine r_orderN ?_; refine r_asg S192 fun s302 S302 => ?_; clear S192; refine r_orderN ?_; refine r_asg S302 fun s304 S304 => ?_; clear S302; refine r_order0 ?_; k_unfold; k_fold; refine r_cons ?_; refine plainObj_wpAny_Assign_Attribute ?_; refine r_loc S304 rfl ?_; refine r_loc S304 hm1 ?_; refine r_set_at C1 S304 (.tail _ (.tail _ (.tail _ (.tail _ (.head _))))) (.tl (.tl (.tl (.tl (.tl .hd))))) fun s310 S310 => ?_; clear S304; refine seq_next ?_; (with_reducible refine k_if ?_); refine wpAny_isTrue_Compare1 ?_; refine r_call ?_; refine r_bui C1 S310 (gb_len w) (by boot_by_name) (by decide) ?_; refine r_callB ?_; refine spliced_more ?_; refine r_attr ?_; refine r_loc S310 hm1 ?_; refine r_get C1 S310 (own_353_blocks w) (.tail _ (.tail _ (.tail _ (.tail _ (.head _))))) (.tail _ (.tail _ (.tail _ (.tail _ (.tail _ (.head _)))))) rfl rfl fun s321 S321 => ?_; clear S310; refine spliced_none ?_; refine r_len S321 (.tail _ (.tail _ (.tail _ (.tail _ (.tail _ (.tail _ (.tail _ (.head _)))))))) (by (simp only [decide_eq_true_eq, List.length_append, List.length_cons, List.length_nil, List.length_reverse, List.length_replicate]; lia)) fun t323 s323 S323 => ?_; clear S321; refine r_int S323 fun t324 s324 S324 => ?_; clear S323; refine eq_int ?_; refine wpAny_truthy_bool ?_; refine t_neg (by simp only [beq_iff_eq, decide_eq_true_eq, List.length_append, List.length_cons, List.length_nil]; lia) ?_; refine wpAny_execs_nil ?_; refine seq_next ?_; (with_reducible refine k_as ?_); refine Subscript_ ?_; refine r_attr ?_; refine r_loc S324 hm1 ?_; refine r_get C1 S324 (own_353_blocks w) (.tail _ (.tail _ (.tail _ (.tail _ (.head _))))) (.tail _ (.tail _ (.tail _ (.tail _ (.tail _ (.head _)))))) rfl rfl fun s335 S335 => ?_; clear S324; (with_reducible refine q_ev g0 S335 fun τ338 α338 s338 S338 => ?_; clear S335); refine r_last S338 (.tail _ (.tail _ (.tail _ (.tail _ (.tail _ (.tail _ (.tail _ (.head _)))))))) (by lia) ?_; (with_reducible refine k_st S338 fun s340 S340 => ?_; clear S338; refine k_ex ?_); refine r_meth ?_; refine r_loc S340 hm2 ?_; refine r_getml S340 (.tail _ (.tail _ (.tail _ (.head _)))) PySem.F.slot_list_append PySem.F.type_list_append ?_; refine r_callB ?_; refine spliced_more ?_; refine wpAny_IfExp ?_; refine isTrue_or ?_; refine isTrue_plain ?_; (with_reducible refine q_atr C1 S340 (own_157_is_dead w) (M1 (M1 (M1 (M1 (M1 (M1 (M1 (M1 M0)))))))) (M1 (M1 (M1 (M1 (M1 (M1 (M1 (M1 (M1 M0))))))))) fun s354 S354 => ?_; clear S340); refine wpAny_truthy_bool ?_; refine t_tt ?_; refine t_tt ?_; refine r_none ?_; refine spliced_none ?_; refine r_append S354 (.tl (.tl (.tl .hd))) (by (rw [PySem.sizeLine_eq]; lia)) fun s360 S360 => ?_; clear S354; refine seq_next ?_; (with_reducible refine k_ex ?_); refine r_meth ?_; refine r_loc S360 hm1 ?_; refine r_getm C1 S360 (meth_353_step w) (.tail _ (.tail _ (.tail _ (.tail _ (.head _))))) (.tail _ (.tail _ (.tail _ (.tail _ (.tail _ (.head _)))))) rfl ?_; refine r_callK (keep_287 w) ?_; (with_reducible refine q_sp0 g0 S360 ?_); refine ⟨C1.inK S360, ?_⟩; rename St _ _ _ _ _ _ => S390
        have S391 := S390.tail
        clear S390
        have hrep := Rep.around S391 hvals hlen (blks := ⟨ba, bd, e1, code0, tc, pa, kp, ra, kr, h, th, true, kk'⟩ :: bs') hbs0 hbt hkeep
        cases hck with
        | bad q1 q2 q3 =>
          exact step_bad so hrep.keep1 hmem hints q3 (by dsimp only; lia) (by rw [List.length_cons, List.length_map]; lia) (C1.le (by decide)) S391 (fun _ _ _ h => h.elim) (fun _ v s' R' => x_loop C1 R' fun s'' R'' => x_held C1 R'' F1 (kE _ _ hcat _))
        | @step n0 c0 h0 d0 bs0 at0 row0 rows0 p' hs0 q1 q2 q3 q4 =>
          refine step_ok (so.mono fun q hq => .tail _ (.tail _ (.tail _ hq))) hrep (.tail _ (.tail _ (.tail _ hmem))) hints q3 (by dsimp only; lia) (by rw [List.length_cons, List.length_map]; lia) (C1.le (by decide)) S391 (fun v6 news6 s6 hR6 S6 => ?_) (fun x => x.elim)
          have hnd := nd3 S391.nd
          obtain ⟨news7, S7, R7⟩ := hR6.out3 S6 hnd.1 (fun q hq => hnd.2 q (.tail _ (.tail _ (.tail _ (.tail _ (.tail _ (.tail _ (ledB_mem (hkeep q hq) bs')))))))) (by simp [hLI.1])
          clear S6 hR6 S391; (with_reducible refine k_sn ?_); refine ⟨_, _, ?_, S7⟩; refine ⟨by lia, hm1, hm2, p', _, pre ++ [none], _, news7, i, tk, .ok hs0, rfl, R7, .inl (by lia), hHs.snoc rfl, by simp [hfl], q4, by simpa [Cat] using hcat⟩
        | @stepE n0 c0 h0 d0 bs0 at0 row0 rows0 p' e0 q1 q2 q3 q4 =>
          refine step_ok (so.mono fun q hq => .tail _ (.tail _ (.tail _ hq))) hrep (.tail _ (.tail _ (.tail _ hmem))) hints q3 (by dsimp only; lia) (by rw [List.length_cons, List.length_map]; lia) (C1.le (by decide)) S391 (fun v6 news6 s6 hR6 S6 => ?_) (fun x => x.elim)
          have hnd := nd3 S391.nd
          obtain ⟨news7, S7, R7⟩ := hR6.out3 S6 hnd.1 (fun q hq => hnd.2 q (.tail _ (.tail _ (.tail _ (.tail _ (.tail _ (.tail _ (ledB_mem (hkeep q hq) bs')))))))) (by simp [hLI.1])
          clear S6 hR6 S391; (with_reducible refine k_sn ?_); refine ⟨_, _, ?_, S7⟩; refine ⟨by lia, hm1, hm2, p', _, pre ++ [none], _, news7, i, tk, .error e0, rfl, R7, .inl (by lia), hHs.snoc rfl, by simp [hfl], q4, hcat⟩
      | false =>
        refine r_orderN ?_; refine r_asg S192 fun s402 S402 => ?_; clear S192; refine r_orderN ?_; refine r_asg S402 fun s404 S404 => ?_; clear S402; refine r_order0 ?_; k_unfold; k_fold; refine r_cons ?_; refine plainObj_wpAny_Assign_Attribute ?_; refine r_loc S404 rfl ?_; refine r_loc S404 hm1 ?_; refine r_set_at C1 S404 (.tail _ (.tail _ (.tail _ (.tail _ (.head _))))) (.tl (.tl (.tl (.tl (.tl .hd))))) fun s410 S410 => ?_; clear S404; refine seq_next ?_; (with_reducible refine k_if ?_); refine wpAny_isTrue_Compare1 ?_; refine r_call ?_; refine r_bui C1 S410 (gb_len w) (by boot_by_name) (by decide) ?_; refine r_callB ?_; refine spliced_more ?_; refine r_attr ?_; refine r_loc S410 hm1 ?_; refine r_get C1 S410 (own_353_blocks w) (.tail _ (.tail _ (.tail _ (.tail _ (.head _))))) (.tail _ (.tail _ (.tail _ (.tail _ (.tail _ (.head _)))))) rfl rfl fun s421 S421 => ?_; clear S410; refine spliced_none ?_; refine r_len S421 (.tail _ (.tail _ (.tail _ (.tail _ (.tail _ (.tail _ (.tail _ (.head _)))))))) (by (simp only [decide_eq_true_eq, List.length_append, List.length_cons, List.length_nil, List.length_reverse, List.length_replicate]; lia)) fun t423 s423 S423 => ?_; clear S421; refine r_int S423 fun t424 s424 S424 => ?_; clear S423; refine eq_int ?_; refine wpAny_truthy_bool ?_; refine t_neg (by simp only [beq_iff_eq, decide_eq_true_eq, List.length_append, List.length_cons, List.length_nil]; lia) ?_; refine wpAny_execs_nil ?_; refine seq_next ?_; (with_reducible refine k_as ?_); refine Subscript_ ?_; refine r_attr ?_; refine r_loc S424 hm1 ?_; refine r_get C1 S424 (own_353_blocks w) (.tail _ (.tail _ (.tail _ (.tail _ (.head _))))) (.tail _ (.tail _ (.tail _ (.tail _ (.tail _ (.head _)))))) rfl rfl fun s435 S435 => ?_; clear S424; (with_reducible refine q_ev g0 S435 fun τ438 α438 s438 S438 => ?_; clear S435); refine r_last S438 (.tail _ (.tail _ (.tail _ (.tail _ (.tail _ (.tail _ (.tail _ (.head _)))))))) (by lia) ?_; (with_reducible refine k_st S438 fun s440 S440 => ?_; clear S438; refine k_ex ?_); refine r_meth ?_; refine r_loc S440 hm2 ?_; refine r_getml S440 (.tail _ (.tail _ (.tail _ (.head _)))) PySem.F.slot_list_append PySem.F.type_list_append ?_; refine r_callB ?_; refine spliced_more ?_; refine wpAny_IfExp ?_; refine isTrue_or ?_; refine isTrue_plain ?_; (with_reducible refine q_atr C1 S440 (own_157_is_dead w) (M1 (M1 (M1 (M1 (M1 (M1 (M1 (M1 M0)))))))) (M1 (M1 (M1 (M1 (M1 (M1 (M1 (M1 (M1 M0))))))))) fun s454 S454 => ?_; clear S440); refine wpAny_truthy_bool ?_; refine t_ff ?_; refine isTrue_or ?_; refine isTrue_plain ?_; (with_reducible refine q_atr C1 S454 (own_157_is_buried w) (M1 (M1 (M1 (M1 (M1 (M1 (M1 (M1 M0)))))))) (M1 (M1 (M1 (M1 (M1 (M1 (M1 (M1 (M1 M0))))))))) fun s461 S461 => ?_; clear S454); refine wpAny_truthy_bool ?_; refine t_ff ?_; refine isTrue_or_nil ?_; refine t_ff ?_; refine r_call ?_; refine r_bui C1 S461 (gb_len w) (by boot_by_name) (by decide) ?_; refine r_callB ?_; refine spliced_more ?_; refine r_attr ?_; refine r_loc S461 hm1 ?_; refine r_get C1 S461 (own_353_values w) (.tail _ (.tail _ (.tail _ (.tail _ (.head _))))) (.tail _ (.tail _ (.tail _ (.tail _ (.tail _ (.head _)))))) rfl rfl fun s472 S472 => ?_; clear S461; refine spliced_none ?_; refine r_len S472 (.tail _ (.tail _ (.tail _ (.tail _ (.tail _ (.tail _ (.head _))))))) (by lia) fun t474 s474 S474 => ?_; clear S472; refine spliced_none ?_; refine r_append S474 (.tl (.tl (.tl .hd))) (by (rw [PySem.sizeLine_eq]; lia)) fun s476 S476 => ?_; clear S474; refine seq_next ?_; (with_reducible refine k_ex ?_); refine r_meth ?_; refine r_loc S476 hm1 ?_; refine r_getm C1 S476 (meth_353_step w) (.tail _ (.tail _ (.tail _ (.tail _ (.head _))))) (.tail _ (.tail _ (.tail _ (.tail _ (.tail _ (.head _)))))) rfl ?_; refine r_callK (keep_287 w) ?_; (with_reducible refine q_sp0 g0 S476 ?_); refine ⟨C1.inK S476, ?_⟩; rename St _ _ _ _ _ _ => S490
        have S491 := S490.tail
        clear S490
        have hrep := Rep.around S491 hvals hlen (blks := ⟨ba, bd, e1, code0, tc, pa, kp, ra, kr, h, th, false, kk'⟩ :: bs') hbs0 hbt hkeep
        cases hck with
        | bad q1 q2 q3 =>
          exact step_bad so hrep.keep1 hmem hints q3 (by dsimp only; lia) (by rw [List.length_cons, List.length_map]; lia) (C1.le (by decide)) S491 (fun _ _ _ h => h.elim) (fun _ v s' R' => x_loop C1 R' fun s'' R'' => x_held C1 R'' F1 (kE _ _ hcat _))
        | @step n0 c0 h0 d0 bs0 at0 row0 rows0 p' hs0 q1 q2 q3 q4 =>
          refine step_ok (so.mono fun q hq => .tail _ (.tail _ (.tail _ hq))) hrep (.tail _ (.tail _ (.tail _ hmem))) hints q3 (by dsimp only; lia) (by rw [List.length_cons, List.length_map]; lia) (C1.le (by decide)) S491 (fun v6 news6 s6 hR6 S6 => ?_) (fun x => x.elim)
          have hnd := nd3 S491.nd
          obtain ⟨news7, S7, R7⟩ := hR6.out3 S6 hnd.1 (fun q hq => hnd.2 q (.tail _ (.tail _ (.tail _ (.tail _ (.tail _ (.tail _ (ledB_mem (hkeep q hq) bs')))))))) (by simp [hLI.1])
          clear S6 hR6 S491; (with_reducible refine k_sn ?_); refine ⟨_, _, ?_, S7⟩; refine ⟨by lia, hm1, hm2, p', _, pre ++ [some np], _, news7, i, tk, .ok hs0, rfl, R7, .inl (by lia), hHs.snoc ⟨_, by rw [hlen]⟩, by simp [hfl], q4, by simpa [Cat] using hcat⟩
        | @stepE n0 c0 h0 d0 bs0 at0 row0 rows0 p' e0 q1 q2 q3 q4 =>
          refine step_ok (so.mono fun q hq => .tail _ (.tail _ (.tail _ hq))) hrep (.tail _ (.tail _ (.tail _ hmem))) hints q3 (by dsimp only; lia) (by rw [List.length_cons, List.length_map]; lia) (C1.le (by decide)) S491 (fun v6 news6 s6 hR6 S6 => ?_) (fun x => x.elim)
          have hnd := nd3 S491.nd
          obtain ⟨news7, S7, R7⟩ := hR6.out3 S6 hnd.1 (fun q hq => hnd.2 q (.tail _ (.tail _ (.tail _ (.tail _ (.tail _ (.tail _ (ledB_mem (hkeep q hq) bs')))))))) (by simp [hLI.1])
          clear S6 hR6 S491; (with_reducible refine k_sn ?_); refine ⟨_, _, ?_, S7⟩; refine ⟨by lia, hm1, hm2, p', _, pre ++ [some np], _, news7, i, tk, .error e0, rfl, R7, .inl (by lia), hHs.snoc ⟨_, by rw [hlen]⟩, by simp [hfl], q4, hcat⟩
  · rintro m₁ news₁ s₁ ⟨hle, hm1, hm2, p, found, pre, fk, news₂, a, ta', Ri, rfl, hRep, ha, hHs, hfl, hck, hcat⟩ S₁
    rw [hrows.len, List.drop_length] at hck
    have hpos : rows.length ≠ 0 := fun h => hne (List.eq_nil_of_length_eq_zero h)
    have hrl := hrows.len
    obtain ⟨vals, kv, kb, blks, fx, hperm, hvals, hlen, hbs, hbt, hkeep⟩ := hRep
    have S₂ := S₁.perm (.cons _ hperm)
    clear S₁ hperm
    obtain ⟨np, bsp⟩ := p
    dsimp only at hlen hbs
    rcases blks with _ | ⟨b, bs'⟩
    · simp only [List.map_nil] at hbs
      subst hbs
      dsimp only [ledB, refB] at S₂
      refine seq_next ?_; (with_reducible refine k_if ?_); refine wpAny_isTrue_Compare1 ?_; refine r_call ?_; refine r_bui C1 S₂ (gb_len w) (by boot_by_name) (by decide) ?_; refine r_callB ?_; refine spliced_more ?_; refine r_attr ?_; refine r_loc S₂ hm1 ?_; refine r_get C1 S₂ (own_353_blocks w) (.tail _ (.head _)) (.tail _ (.tail _ (.head _))) rfl rfl fun s3011 S3011 => ?_; clear S₂; refine spliced_none ?_; refine r_len S3011 (.tail _ (.tail _ (.tail _ (.tail _ (.head _))))) (by decide) fun t3013 s3013 S3013 => ?_; clear S3011; refine r_int S3013 fun t3014 s3014 S3014 => ?_; clear S3013; refine gt_int ?_; refine wpAny_truthy_bool ?_; refine t_neg (by simp only [beq_iff_eq, decide_eq_true_eq, List.length_append, List.length_cons, List.length_nil]; lia) ?_; refine wpAny_execs_nil ?_; refine seq_next ?_; (with_reducible refine k_rt ?_); refine r_loc S3014 hm2 ?_; refine seq_ret ?_; k_unfold; refine r_leave S3014 fun S3014 => ?_; rename St _ _ _ _ _ _ => S3090
      cases hck with
      | done => exact kQ _ _ _ _ _ _ hcat (by rw [List.append_nil]; exact hHs) (fun q hq => .tail _ (.tail _ (.tail _ (.tail _ (hkeep q hq))))) (by assumption)
    · rw [List.map_cons] at hbs
      subst hbs
      have hz2 : (refB bs').length ≤ 900 := by
        rw [refB_len]
        cases hck with
        | left h => rw [List.length_map] at h; lia
      dsimp only [refB] at S₂
      refine seq_next ?_; (with_reducible refine k_if ?_); refine wpAny_isTrue_Compare1 ?_; refine r_call ?_; refine r_bui C1 S₂ (gb_len w) (by boot_by_name) (by decide) ?_; refine r_callB ?_; refine spliced_more ?_; refine r_attr ?_; refine r_loc S₂ hm1 ?_; refine r_get C1 S₂ (own_353_blocks w) (.tail _ (.head _)) (.tail _ (.tail _ (.head _))) rfl rfl fun s4011 S4011 => ?_; clear S₂; refine spliced_none ?_; refine r_len S4011 (.tail _ (.tail _ (.tail _ (.tail _ (.head _))))) (by (simp only [decide_eq_true_eq, List.length_append, List.length_cons, List.length_nil, List.length_reverse, List.length_replicate]; lia)) fun t4013 s4013 S4013 => ?_; clear S4011; refine r_int S4013 fun t4014 s4014 S4014 => ?_; clear S4013; refine gt_int ?_; refine wpAny_truthy_bool ?_; refine t_pos (by simp only [beq_iff_eq, decide_eq_true_eq, List.length_append, List.length_cons, List.length_nil]; lia) ?_; (with_reducible refine k_ex ?_); refine r_meth ?_; refine r_loc S4014 hm1 ?_; refine r_getm C1 S4014 (meth_353_fail w) (.tail _ (.head _)) (.tail _ (.tail _ (.head _))) rfl ?_; refine r_callK (keep_182 w) ?_; (with_reducible refine q_sp g0 S4014 fun τ4025 α4025 s4025 S4025 => ?_; clear S4014); refine ⟨C1.inK S4025, ?_⟩; rename St _ _ _ _ _ _ => S4090
      have heq : R = .error ("type mismatch", a) := by
        cases hck with
        | left _ =>
          have : a = ((rows.length : Nat) : Int) - 1 := by lia
          rw [this]
          exact hcat
      exact x_fail (C1.le (by decide)) S4090.rot_1_2 (fun q hq => .tail _ (.tail _ (.tail _ (ledB_mem (hkeep q hq) (b :: bs'))))) fun v s' R' => x_on C1 R' F1 (kE _ _ heq _)
end
end Mine
end
section
open PySem PySem.W PyProof.Rows PySem.Calls PySem.Spec
set_option maxHeartbeats 1000000
namespace Mine

theorem r_tupSame {w : World} {A : Around} {c : Shared} {g : Heap} {L : Addr} {m : Loc} {news : Led} {s : Shared} {E : Value → Shared → Prop} {t : Addr} {vs : List Value} {k' : Nat} {Q : Value → Shared → Prop} (S : St c g L m news s) (ht : (t, tup vs k') ∈ news) (k : Q (.ref t) s) : wpAny (model PRG w) A (call (.type "tuple") [.ref t]) Q E s := by
  exact call_tuple_tup (items := vs.toArray) ⟨_, S.get ht, rfl, _, rfl⟩ k
theorem r_addT0 {w : World} {A : Around} {c : Shared} {g : Heap} {L : Addr} {m : Loc} {news : Led} {s : Shared} {E : Value → Shared → Prop} {t b : Addr} {vs : List Value} {k' k2 : Nat} {Q : Value → Shared → Prop} (S : St c g L m news s) (ht : (t, tup [] k') ∈ news) (hb : (b, tup vs k2) ∈ news) (hz : vs.length ≤ 1000) (k : Q (.ref b) s) : wpAny (model PRG w) A (binaryOp .Add (.ref t) (.ref b)) Q E s := by
  exact kde_addT0 (its := #[]) (its2 := vs.toArray) S.fr S.nw ⟨_, S.get ht, rfl, _, rfl⟩ ⟨_, S.get hb, rfl, _, rfl⟩ rfl (by simp; lia) k
section
variable {w : World} {c : Shared} {me md kl fl ll rl vl bl : Addr} {e0 : Nat → Int × Tok} {fni : Int} {tfn : Tok} {kd : Nat} {at_ : Int} {ta : Tok} {keep : Led} {news rest : Led}
theorem c_Func {w : World} {base : Heap} {outer : List Env} {env : Env} {A : Around} {c : Shared} {g : Heap} {L : Addr} {m : Loc} {news : Led} {s : Shared} {Q E : Value → Shared → Prop} {v1 v2 v3 : Value} (C : Cx w base outer env A g L 2) (S : St c g L m news s)
    (k : ∀ x dx h1 t1 h2 t2 h3 t3 s', St c g L m ((x, instObj 388 dx) :: (dx, dictOf [⟨h1, .str "kind" t1, v1⟩, ⟨h2, .str "locals" t2, v2⟩, ⟨h3, .str "body" t3, v3⟩] 3) :: news) s' → Q (.ref x) s') :
    wpAny (model PRG w) A (call (.ref 388) [v1, v2, v3]) Q E s := by
  refine r_inst C S (by kernel_rfl) (fI := 378) (by kernel_rfl) (by kernel_rfl) fun x dx s2 C2 S2 => ?_; refine' r_code C2 S2 (binds := [("body", v3), ("locals_now", v2), ("kind", v1), ("self", .ref x)]) ?ho ?hcd ?hb ?hl ?_ ?c1 ?c2 ?c3 ?c4
  case ho => k_is
  case hcd => k_is
  case hb => exact BindsTo.of_eq rfl
  case hl => exact locs rfl
  case c1 => decide
  case c2 => exact rfl
  case c3 => exact rfl
  case c4 => exact rfl
  intro g1 L1 s1 C1 S1 F1; k_fold; refine r_cons ?_; refine plainObj_wpAny_Assign_Attribute ?_; refine r_loc S1 rfl ?_; refine r_loc S1 rfl ?_; refine r_setNew C1 S1 (so_388 w "kind" (by kernel_rfl)) (.head _) rfl (fun _ _ => rfl) (fun _ _ => (.tl .hd)) (Nat.le_of_ble_eq_true rfl) fun h5 t5 s5 S5 => ?_; simp only [List.nil_append, List.cons_append] at S5; clear S1; refine seq_next ?_; refine r_cons ?_; refine plainObj_wpAny_Assign_Attribute ?_; refine r_loc S5 rfl ?_; refine r_loc S5 rfl ?_; refine r_setNew C1 S5 (so_388 w "locals" (by kernel_rfl)) (.head _) rfl (fun _ _ => rfl) (fun _ _ => (.tl .hd)) (Nat.le_of_ble_eq_true rfl) fun h11 t11 s11 S11 => ?_; simp only [List.nil_append, List.cons_append] at S11; clear S5; refine seq_next ?_; refine r_cons ?_; refine plainObj_wpAny_Assign_Attribute ?_; refine r_loc S11 rfl ?_; refine r_loc S11 rfl ?_; refine r_setNew C1 S11 (so_388 w "body" (by kernel_rfl)) (.head _) rfl (fun _ _ => rfl) (fun _ _ => (.tl .hd)) (Nat.le_of_ble_eq_true rfl) fun h17 t17 s17 S17 => ?_; simp only [List.nil_append, List.cons_append] at S17; clear S11; (with_reducible refine k_sn ?_); k_unfold; refine r_leave S17 fun S17 => ?_; exact ⟨rfl, k x dx _ _ _ _ _ _ _ (by assumption)⟩
theorem c_SC {w : World} {base : Heap} {outer : List Env} {env : Env} {A : Around} {c : Shared} {g : Heap} {L : Addr} {m : Loc} {news : Led} {s : Shared} {Q E : Value → Shared → Prop} {v1 v2 v3 v4 v5 : Value} (C : Cx w base outer env A g L 5) (S : St c g L m news s)
    (k : ∀ me md e0 kd vl kv bl kb ba bd e1 tc p th kbd t0 s', St c g L m ((me, instObj 353 md) :: (md, dictOf (sEnt e0 v1 v2 v3 v4 v5 (.ref vl) (.ref bl) (.int 0 t0)) kd) :: (vl, lst [] kv) :: (bl, lst [.ref ba] kb) :: (ba, instObj 157 bd) :: (bd, dictOf (bEnt e1 (.int (-1) tc) (.ref p) v5 (.int 0 th) (.bool false) (.bool false)) kbd) :: (p, tup [] 0) :: news) s' → Q (.ref me) s') :
    wpAny (model PRG w) A (call (.ref 353) [v1, v2, v3, v4, v5]) Q E s := by
  refine r_inst C S (by kernel_rfl) (fI := 175) (by kernel_rfl) (by kernel_rfl) fun x dx s2 C2 S2 => ?_; refine' r_code C2 S2 (binds := [("results", v5), ("places", v4), ("function", v3), ("funcs", v2), ("kinds", v1), ("self", .ref x)]) ?ho ?hcd ?hb ?hl ?_ ?c1 ?c2 ?c3 ?c4
  case ho => k_is
  case hcd => k_is
  case hb => exact BindsTo.of_eq rfl
  case hl => exact locs rfl
  case c1 => decide
  case c2 => exact rfl
  case c3 => exact rfl
  case c4 => exact rfl
  intro g1 L1 s1 C1 S1 F1; k_fold; refine r_cons ?_; refine plainObj_wpAny_Assign_Attribute ?_; refine r_loc S1 rfl ?_; refine r_loc S1 rfl ?_; refine r_setNew C1 S1 (so_353 w "kinds" (by kernel_rfl)) (.head _) rfl (fun _ _ => rfl) (fun _ _ => (.tl .hd)) (Nat.le_of_ble_eq_true rfl) fun h105 t105 s105 S105 => ?_; simp only [List.nil_append, List.cons_append] at S105; clear S1; refine seq_next ?_; refine r_cons ?_; refine plainObj_wpAny_Assign_Attribute ?_; refine r_loc S105 rfl ?_; refine r_loc S105 rfl ?_; refine r_setNew C1 S105 (so_353 w "funcs" (by kernel_rfl)) (.head _) rfl (fun _ _ => rfl) (fun _ _ => (.tl .hd)) (Nat.le_of_ble_eq_true rfl) fun h111 t111 s111 S111 => ?_; simp only [List.nil_append, List.cons_append] at S111; clear S105; refine seq_next ?_; refine r_cons ?_; refine plainObj_wpAny_Assign_Attribute ?_; refine r_loc S111 rfl ?_; refine r_loc S111 rfl ?_; refine r_setNew C1 S111 (so_353 w "function" (by kernel_rfl)) (.head _) rfl (fun _ _ => rfl) (fun _ _ => (.tl .hd)) (Nat.le_of_ble_eq_true rfl) fun h117 t117 s117 S117 => ?_; simp only [List.nil_append, List.cons_append] at S117; clear S111; refine seq_next ?_; refine r_cons ?_; refine plainObj_wpAny_Assign_Attribute ?_; refine r_loc S117 rfl ?_; refine r_loc S117 rfl ?_; refine r_setNew C1 S117 (so_353 w "locals" (by kernel_rfl)) (.head _) rfl (fun _ _ => rfl) (fun _ _ => (.tl .hd)) (Nat.le_of_ble_eq_true rfl) fun h123 t123 s123 S123 => ?_; simp only [List.nil_append, List.cons_append] at S123; clear S117; refine seq_next ?_; refine r_cons ?_; refine plainObj_wpAny_Assign_Attribute ?_; refine r_loc S123 rfl ?_; refine r_loc S123 rfl ?_; refine r_setNew C1 S123 (so_353 w "results" (by kernel_rfl)) (.head _) rfl (fun _ _ => rfl) (fun _ _ => (.tl .hd)) (Nat.le_of_ble_eq_true rfl) fun h129 t129 s129 S129 => ?_; simp only [List.nil_append, List.cons_append] at S129; clear S123; refine seq_next ?_; refine r_cons ?_; refine plainObj_wpAny_Assign_Attribute ?_; (with_reducible refine q_ev g0 S129 fun τ135 α135 s135 S135 => ?_; clear S129); refine r_loc S135 rfl ?_; refine r_setNew C1 S135 (so_353 w "values" (by kernel_rfl)) (.tail _ (.head _)) rfl (fun _ _ => rfl) (fun _ _ => (.tl (.tl .hd))) (Nat.le_of_ble_eq_true rfl) fun h137 t137 s137 S137 => ?_; simp only [List.nil_append, List.cons_append] at S137; clear S135; refine seq_next ?_; refine r_cons ?_; refine plainObj_wpAny_Assign_Attribute ?_; refine List_ ?_; refine spliced_more ?_; (with_reducible refine q_call C1 (gk C1 (gl_FUNCTION w) g0) S137 (gl_Block w) (keep_157 w) fun τ155 α155 s155 S155 => ?_; clear S137); refine c_Block (C1.le (by decide)) S155 fun x160 dx160 e160 kd160 s160 S160 => ?_; clear S155; refine spliced_none ?_; refine r_list S160 (Nat.le_of_ble_eq_true rfl) fun a162 s162 S162 => ?_; clear S160; refine r_loc S162 rfl ?_; refine r_setNew C1 S162 (so_353 w "blocks" (by kernel_rfl)) (.tail _ (.tail _ (.tail _ (.tail _ (.tail _ (.head _)))))) rfl (fun _ _ => rfl) (fun _ _ => (.tl (.tl (.tl (.tl (.tl (.tl .hd))))))) (Nat.le_of_ble_eq_true rfl) fun h164 t164 s164 S164 => ?_; simp only [List.nil_append, List.cons_append] at S164; clear S162; refine seq_next ?_; refine r_cons ?_; refine plainObj_wpAny_Assign_Attribute ?_; refine r_int S164 fun t168 s168 S168 => ?_; clear S164; refine r_loc S168 rfl ?_; refine r_setNew C1 S168 (so_353 w "at" (by kernel_rfl)) (.tail _ (.tail _ (.tail _ (.tail _ (.tail _ (.head _)))))) rfl (fun _ _ => rfl) (fun _ _ => (.tl (.tl (.tl (.tl (.tl (.tl .hd))))))) (Nat.le_of_ble_eq_true rfl) fun h170 t170 s170 S170 => ?_; simp only [List.nil_append, List.cons_append] at S170; clear S168; (with_reducible refine k_sn ?_); k_unfold; refine r_leave S170 fun S170 => ?_; rename St _ _ _ _ _ _ => S190
  have S191 := S190.rot_5_2
  have S192 := S191.perm (.cons _ (.cons _ (List.perm_middle (l₁ := [_, _, _, _]))))
  exact ⟨rfl, k x dx (fun i => [(h105,t105),(h111,t111),(h117,t117),(h123,t123),(h129,t129),(h137,t137),(h164,t164),(h170,t170)].getD i (0,0)) _ _ _ _ _ _ _ _ _ _ _ _ _ _ S192⟩
theorem c_core {w : World} {base : Heap} {outer : List Env} {env : Env} {A : Around} {c : Shared} {g : Heap} {L : Addr} {m : Loc} {news : Led} {s : Shared} {Q E : Value → Shared → Prop} {fo fd : Addr} {h1 h2 h3 : Int} {t1 t2 t3 t4 : Tok} {ka p0 r0 : Addr} {kk k0 k1 k2 fk lk kb0 K F P : Nat} {kfd : Nat} {tj : Tok} {lvs refs : List Value} {bdy : Addr} {rows : List (List Int)} {R : Except (Str × Int) (List (Option Nat))} (C : Cx w base outer env A g L 12) (S : St c g L m news s)
    (hfo : (fo, instObj 388 fd) ∈ news) (hfd : (fd, dictOf [⟨h1, .str "kind" t1, .int 0 t4⟩, ⟨h2, .str "locals" t2, .ref ll⟩, ⟨h3, .str "body" t3, .ref bdy⟩] kfd) ∈ news)
    (hkk : (kl, lst (List.replicate K (.ref ka)) kk) ∈ news) (hka : (ka, tup [.ref p0, .ref r0] k0) ∈ news) (hp0 : (p0, tup [] k1) ∈ news) (hr0 : (r0, tup [] k2) ∈ news)
    (hff : (fl, lst (List.replicate F (.int ((K : Int) - 1) tj)) fk) ∈ news) (hll : (ll, tup lvs lk) ∈ news) (hlv : lvs.length = P) (hli : ∀ v ∈ lvs, I32V v) (hb : (bdy, lst refs kb0) ∈ news)
    (hK1 : 1 ≤ K) (hK2 : K ≤ 1000) (hF : F ≤ 1000) (hP : P ≤ 1000) (hrows : RowsAre news refs rows) (hz : rows.length ≤ 500) (hne : rows ≠ []) (ck : Chk K F P ⟨0, [(-1, 0, false)]⟩ 0 rows R)
    (kQ : ∀ fl' found fk' news' hs s', R = .ok hs → HsAre found hs → (∀ q ∈ news, q ∈ news') → St c g L m ((fl', lst found fk') :: news') s' → Q (.ref fl') s')
    (kE : ∀ why a, R = .error (why, a) → ∀ v s', RX base (env :: outer) c g L m news why (.int fni tfn) a .none v s' → E v s') :
    wpAny (model PRG w) A (call (.ref 364) [.ref kl, .ref fl, .int fni tfn, .ref fo]) Q E s := by
  refine' r_def C S (binds := [("func", .ref fo), ("index", .int fni tfn), ("funcs", .ref fl), ("kinds", .ref kl)]) ?ho ?hcd ?hb ?hl ?_ ?c1 ?c2 ?c3 ?c4
  case ho => k_is
  case hcd => k_is
  case hb => exact BindsTo.of_eq rfl
  case hl => exact locs rfl
  case c1 => decide
  case c2 => exact rfl
  case c3 => exact rfl
  case c4 => exact rfl
  intro g1 L1 s1 C1 S1 F1; k_fold; (with_reducible refine k_if ?_); refine isTrue_not ?_; refine isTrue_chain ?_; refine r_int S1 fun t205 s205 S205 => ?_; clear S1; refine test_link ?_; (with_reducible refine q_atr C1 S205 (own_388_kind w) (hfo) (hfd) fun s209 S209 => ?_; clear S205); refine le_int ?_; refine wpAny_truthy_bool ?_; refine t_pos (by simp only [beq_iff_eq, decide_eq_true_eq]; lia) ?_; refine test_last ?_; (with_reducible refine q_callB0 C1 g0 S209 (bb_len w) .B ?_); refine r_len S209 (hkk) (by (simp only [decide_eq_true_eq, List.length_append, List.length_cons, List.length_nil, List.length_reverse, List.length_replicate]; lia)) fun t220 s220 S220 => ?_; clear S209; refine lt_int ?_; refine wpAny_truthy_bool ?_; refine t_neg (by simp only [Bool.not_eq_true', decide_eq_false_iff_not, Decidable.not_not, List.length_replicate]; lia) ?_; refine wpAny_execs_nil ?_; refine seq_next ?_; refine r_cons ?_; refine Assign_Tuple ?_; refine Subscript_ ?_; refine r_loc S220 rfl ?_; (with_reducible refine q_atr C1 S220 (own_388_kind w) (hfo) (hfd) fun s232 S232 => ?_; clear S220); refine r_item S232 hkk (by decide) (by decide) (by rw [List.getElem?_replicate]; exact if_pos (by lia)) ?_; refine r_unpackT C1 S232 (hka) rfl rfl fun s234 S234 => ?_; clear S232; refine r_orderN ?_; refine r_asg S234 fun s236 S236 => ?_; clear S234; refine r_orderN ?_; refine r_asg S236 fun s238 S238 => ?_; clear S236; refine r_order0 ?_; refine seq_next ?_; (with_reducible refine k_rt ?_); refine r_meth (pl := pure false) ?_; refine r_call ?_; refine r_glb C1 S238 (gl_StackCheck w) ?_; refine r_callK (keep_353 w) ?_; refine spliced_more ?_; refine r_loc S238 rfl ?_; refine spliced_more ?_; refine r_loc S238 rfl ?_; refine spliced_more ?_; refine r_loc S238 rfl ?_; refine spliced_more ?_; refine wpAny_BinOp ?_; (with_reducible refine q_callB0 C1 g0 S238 (bb_tuple w) .T ?_); refine r_tupSame S238 (by repeat (first | exact List.Mem.head _ | refine List.Mem.tail _ ?_ | assumption)) ?_; refine r_call ?_; refine r_bui C1 S238 (gb_tuple w) (by boot_by_name) (by decide) ?_; refine r_callT ?_; refine spliced_more ?_; (with_reducible refine q_atr C1 S238 (own_388_locals w) (hfo) (hfd) fun s268 S268 => ?_; clear S238); refine spliced_none ?_; refine r_tupSame S268 (by repeat (first | exact List.Mem.head _ | refine List.Mem.tail _ ?_ | assumption)) ?_; refine r_addT0 S268 (by repeat (first | exact List.Mem.head _ | refine List.Mem.tail _ ?_ | assumption)) (by repeat (first | exact List.Mem.head _ | refine List.Mem.tail _ ?_ | assumption)) (by lia) ?_; refine spliced_more ?_; (with_reducible refine q_callB0 C1 g0 S268 (bb_tuple w) .T ?_); refine r_tupSame S268 (by repeat (first | exact List.Mem.head _ | refine List.Mem.tail _ ?_ | assumption)) ?_; refine spliced_none ?_; refine ⟨C1.inK S268, ?_⟩; refine c_SC (C1.le (by decide)) S268 fun me md e0 kd vl kv bl kb ba bd e1 tc p th kbd ta s282 S282 => ?_; clear S268; refine r_getm C1 S282 (meth_353_check w) (.head _) (.tail _ (.head _)) rfl ?_; refine r_callK (keep_280 w) ?_; refine spliced_more ?_; (with_reducible refine q_atr C1 S282 (own_388_body w) (M1 (M1 (M1 (M1 (M1 (M1 (M1 (hfo)))))))) (M1 (M1 (M1 (M1 (M1 (M1 (M1 (hfd)))))))) fun s288 S288 => ?_; clear S282); refine spliced_none ?_; refine ⟨C1.inK S288, ?_⟩; rename St _ _ _ _ _ _ => S290
  have hm : ∀ q ∈ news, q ∈ (p, tup [] 0) :: news := fun q hq => .tail _ hq
  refine c_check (keep := news) (C1.le (by decide)) S290 ⟨⟨kk, ka, k0, p0, k1, r0, k2, hkk, hka, hp0, hr0⟩, ⟨fk, tj, hff⟩, ⟨lvs, lk, hll, hlv, hli⟩, ⟨k2, hr0⟩, hK1, hK2, hF, hP⟩
    ⟨[], kv, kb, [⟨ba, bd, e1, -1, tc, p, 0, r0, k2, 0, th, false, kbd⟩], (p, tup [] 0) :: news, .refl _, (fun _ h => nomatch h), rfl, rfl, bt_cons (fun _ h => nomatch h) (.head _) (.tail _ hr0), hm⟩ hb hrows hz hne ck (fun fl' found fk' news' hs s' h1 h2 h3 S' => ?_) (fun why a h v s' R' => x_on C1 R' F1 (kE why a h _))
  refine seq_ret ?_; k_unfold; refine r_leave S' fun S' => ?_; exact kQ _ _ _ _ _ _ h1 h2 h3 (by assumption)
end
end Mine
end
section
open PySem PySem.W PyProof.Rows PySem.Calls PySem.Spec
set_option maxHeartbeats 1000000
namespace Mine

section
theorem c_emit {w : World} {base : Heap} {outer : List Env} {env : Env} {A : Around} {c : Shared} {g : Heap} {L : Addr} {m : Loc} {rest : Led} {s : Shared} {Q E : Value → Shared → Prop} {wd b hs r : Addr} {o : Obj} {hi ch : Int} {t1 t2 : Tok} {de : Bool} {fr du fn : Value} {bits hits : List Value} {nb nh : Nat} (C : Cx w base outer env A g L 3)
    (S : St c g L m ((wd, o) :: (b, lst bits nb) :: (hs, lst hits nh) :: rest) s) (hd : WDict w o (.ref b) (.ref hs) (.int hi t1) (.bool de) fr du fn)
    (hb : bits.length < 1000) (hh : hits.length < 1000)
    (k : ∀ o' t' nb' nh' s', WDict w o' (.ref b) (.ref hs) (.int (hi + ch) t') (.bool de) fr du fn →
      St c g L m ((wd, o') :: (b, lst (bits ++ [.ref r]) nb') :: (hs, lst (hits ++ [if de then .none else .int hi t1]) nh') :: rest) s' → Q .none s') :
    wpAny (model PRG w) A (call (.ref 413) [.ref wd, .ref r, .int ch t2]) Q E s := by
  refine' r_def C S (binds := [("change", .int ch t2), ("row", .ref r), ("world", .ref wd)]) ?ho ?hcd ?hb ?hl ?_ ?c1 ?c2 ?c3 ?c4
  case ho => k_is
  case hcd => k_is
  case hb => exact BindsTo.of_eq rfl
  case hl => exact locs rfl
  case c1 => decide
  case c2 => exact rfl
  case c3 => exact rfl
  case c4 => exact rfl
  intro g1 L1 s1 C1 S1 F1; k_fold
  cases de with
  | true =>
    (with_reducible refine k_ex ?_); refine r_meth (pl := pure false) ?_; refine Subscript_ ?_; refine r_loc S1 rfl ?_; refine r_str S1 fun t106 s106 S106 => ?_; clear S1; refine r_dget S106 (.head _) (by assumption) rfl fun s107 S107 => ?_; clear S106; refine r_getml S107 (.tail _ (.tail _ (.head _))) PySem.F.slot_list_append PySem.F.type_list_append ?_; refine r_callB ?_; refine spliced_more ?_; refine wpAny_IfExp ?_; refine isTrue_plain ?_; refine Subscript_ ?_; refine r_loc S107 rfl ?_; refine r_str S107 fun t115 s115 S115 => ?_; clear S107; refine r_dget S115 (.head _) (by assumption) rfl fun s116 S116 => ?_; clear S115; refine wpAny_truthy_bool ?_; refine t_tt ?_; refine r_none ?_; refine spliced_none ?_; refine r_append S116 (.tl (.tl .hd)) (by (rw [PySem.sizeLine_eq]; lia)) fun s121 S121 => ?_; clear S116; refine seq_next ?_; (with_reducible refine k_ex ?_); refine r_meth (pl := pure false) ?_; refine Subscript_ ?_; refine r_loc S121 rfl ?_; refine r_str S121 fun t128 s128 S128 => ?_; clear S121; refine r_dget S128 (.head _) (by assumption) rfl fun s129 S129 => ?_; clear S128; refine r_getml S129 (.tail _ (.head _)) PySem.F.slot_list_append PySem.F.type_list_append ?_; refine r_callB ?_; (with_reducible refine q_sp0 g0 S129 ?_); refine r_append S129 (.tl .hd) (by (rw [PySem.sizeLine_eq]; lia)) fun s135 S135 => ?_; clear S129; refine seq_next ?_; refine r_cons ?_; refine wpAny_Assign_Subscript ?_; refine wpAny_BinOp ?_; refine Subscript_ ?_; refine r_loc S135 rfl ?_; refine r_str S135 fun t142 s142 S142 => ?_; clear S135; refine r_dget S142 (.head _) (by assumption) rfl fun s143 S143 => ?_; clear S142; refine r_loc S143 rfl ?_; refine r_add S143 fun t145 s145 S145 => ?_; clear S143; refine r_loc S145 rfl ?_; refine r_str S145 fun t147 s147 S147 => ?_; clear S145; refine r_wset_high S147 (by assumption) (fun o' => .hd) fun o148 s148 hd148 S148 => ?_; clear S147; (with_reducible refine k_sn ?_); k_unfold; refine r_leave S148 fun S148 => ?_; exact k _ _ _ _ _ (by assumption) (by assumption)
  | false =>
    (with_reducible refine k_ex ?_); refine r_meth (pl := pure false) ?_; refine Subscript_ ?_; refine r_loc S1 rfl ?_; refine r_str S1 fun t206 s206 S206 => ?_; clear S1; refine r_dget S206 (.head _) (by assumption) rfl fun s207 S207 => ?_; clear S206; refine r_getml S207 (.tail _ (.tail _ (.head _))) PySem.F.slot_list_append PySem.F.type_list_append ?_; refine r_callB ?_; refine spliced_more ?_; refine wpAny_IfExp ?_; refine isTrue_plain ?_; refine Subscript_ ?_; refine r_loc S207 rfl ?_; refine r_str S207 fun t215 s215 S215 => ?_; clear S207; refine r_dget S215 (.head _) (by assumption) rfl fun s216 S216 => ?_; clear S215; refine wpAny_truthy_bool ?_; refine t_ff ?_; refine Subscript_ ?_; refine r_loc S216 rfl ?_; refine r_str S216 fun t221 s221 S221 => ?_; clear S216; refine r_dget S221 (.head _) (by assumption) rfl fun s222 S222 => ?_; clear S221; refine spliced_none ?_; refine r_append S222 (.tl (.tl .hd)) (by (rw [PySem.sizeLine_eq]; lia)) fun s224 S224 => ?_; clear S222; refine seq_next ?_; (with_reducible refine k_ex ?_); refine r_meth (pl := pure false) ?_; refine Subscript_ ?_; refine r_loc S224 rfl ?_; refine r_str S224 fun t231 s231 S231 => ?_; clear S224; refine r_dget S231 (.head _) (by assumption) rfl fun s232 S232 => ?_; clear S231; refine r_getml S232 (.tail _ (.head _)) PySem.F.slot_list_append PySem.F.type_list_append ?_; refine r_callB ?_; (with_reducible refine q_sp0 g0 S232 ?_); refine r_append S232 (.tl .hd) (by (rw [PySem.sizeLine_eq]; lia)) fun s238 S238 => ?_; clear S232; refine seq_next ?_; refine r_cons ?_; refine wpAny_Assign_Subscript ?_; refine wpAny_BinOp ?_; refine Subscript_ ?_; refine r_loc S238 rfl ?_; refine r_str S238 fun t245 s245 S245 => ?_; clear S238; refine r_dget S245 (.head _) (by assumption) rfl fun s246 S246 => ?_; clear S245; refine r_loc S246 rfl ?_; refine r_add S246 fun t248 s248 S248 => ?_; clear S246; refine r_loc S248 rfl ?_; refine r_str S248 fun t250 s250 S250 => ?_; clear S248; refine r_wset_high S250 (by assumption) (fun o' => .hd) fun o251 s251 hd251 S251 => ?_; clear S250; (with_reducible refine k_sn ?_); k_unfold; refine r_leave S251 fun S251 => ?_; exact k _ _ _ _ _ (by assumption) (by assumption)
end
end Mine
end
section
open PySem PySem.W PyProof.Rows PySem.Calls PySem.Spec
set_option maxHeartbeats 1000000
namespace Mine

theorem eqv_list_nil {ns : List Int} : PyData.eqv (.list (ns.map PyData.int)) (.list []) = decide (ns = []) := by
  cases ns with
  | nil => decide
  | cons x ns => rfl
theorem r_neNil {w : World} {base : Heap} {outer : List Env} {env : Env} {A : Around} {c : Shared} {g : Heap} {L : Addr} {n : Nat} {m : Loc} {news : Led} {s : Shared} {E : Value → Shared → Prop} {a t : Addr} {vs : List Value} {ns : List Int} {k1 k2 : Nat} {b : Bool} {Q : Value → Shared → Prop} (C : Cx w base outer env A g L n) (S : St c g L m ((a, lst [] k1) :: news) s) (ht : (t, lst vs k2) ∈ news) (hi : IntsAre vs ns) (hb : decide (ns = []) = !b) (k : St c g L m news s → Q (.bool b) s) :
    wpAny (model PRG w) A (compareOp .NotEq (.ref t) (.ref a)) Q E s := by
  have := C.un
  have hk := k S.tail
  have hb' : b = !(!b) := by cases b <;> rfl
  rw [hb'] at hk
  exact r_ned (da := .list (ns.map PyData.int)) (db := .list []) (r := !b) (.list (S.get (.tail _ ht)) rfl rfl (IntsAre.reads _ hi)) (.list (S.get (.head _)) rfl rfl .nil) (shaped_ints ns) (by decide) (by show _ + 64 < 9900; lia) (eqv_list_nil.trans hb) hk
section
theorem c_next0 {w : World} {base : Heap} {outer : List Env} {env : Env} {A : Around} {c : Shared} {g : Heap} {L : Addr} {m : Loc} {news : Led} {s : Shared} {Q E : Value → Shared → Prop} {tp : Addr} {nt : Nat} (C : Cx w base outer env A g L 1) (S : St c g L m news s) (ht : (tp, lst [] nt) ∈ news)
    (k : ∀ t s', St c g L m news s' → Q (.int 0 t) s') :
    wpAny (model PRG w) A (call (.ref 406) [.ref tp]) Q E s := by
  refine' r_def C S (binds := [("tape", .ref tp)]) ?ho ?hcd ?hb ?hl ?_ ?c1 ?c2 ?c3 ?c4
  case ho => k_is
  case hcd => k_is
  case hb => exact BindsTo.of_eq rfl
  case hl => exact locs rfl
  case c1 => decide
  case c2 => exact rfl
  case c3 => exact rfl
  case c4 => exact rfl
  intro g1 L1 s1 C1 S1 F1; k_fold; (with_reducible refine k_rt ?_); refine wpAny_IfExp ?_; refine wpAny_isTrue_Compare1 ?_; refine r_loc S1 rfl ?_; (with_reducible refine q_ev g0 S1 fun τ8 α8 s8 S8 => ?_; clear S1); rename St _ _ _ _ _ _ => S90; refine r_neNil (ns := []) (b := false) C1 S90 ht .nil (by decide) fun S91 => ?_; clear S90; refine wpAny_truthy_bool ?_; refine t_ff ?_; refine r_int S91 fun t53 s53 S53 => ?_; clear S91; refine seq_ret ?_; k_unfold; refine r_leave S53 fun S53 => ?_; exact k _ _ (by assumption)
theorem c_next1 {w : World} {base : Heap} {outer : List Env} {env : Env} {A : Around} {c : Shared} {g : Heap} {L : Addr} {m : Loc} {news : Led} {s : Shared} {Q E : Value → Shared → Prop} {tp : Addr} {nt : Nat} {tvs : List Value} {ns : List Int} {x : Int} {tx : Tok} {news' : Led} (C : Cx w base outer env A g L 1) (S : St c g L m news s) (U : At (tp, lst (tvs ++ [.int x tx]) nt) (tp, lst tvs (nt + 1)) news news') (hi : IntsAre (tvs ++ [.int x tx]) (ns ++ [x])) (hz : tvs.length ≤ 100000)
    (k : ∀ s', St c g L m news' s' → Q (.int x tx) s') :
    wpAny (model PRG w) A (call (.ref 406) [.ref tp]) Q E s := by
  refine' r_def C S (binds := [("tape", .ref tp)]) ?ho ?hcd ?hb ?hl ?_ ?c1 ?c2 ?c3 ?c4
  case ho => k_is
  case hcd => k_is
  case hb => exact BindsTo.of_eq rfl
  case hl => exact locs rfl
  case c1 => decide
  case c2 => exact rfl
  case c3 => exact rfl
  case c4 => exact rfl
  intro g1 L1 s1 C1 S1 F1; k_fold; (with_reducible refine k_rt ?_); refine wpAny_IfExp ?_; refine wpAny_isTrue_Compare1 ?_; refine r_loc S1 rfl ?_; (with_reducible refine q_ev g0 S1 fun τ108 α108 s108 S108 => ?_; clear S1); rename St _ _ _ _ _ _ => S190; refine r_neNil (ns := ns ++ [x]) (b := true) C1 S190 U.mem hi (by simp) fun S191 => ?_; clear S190; refine wpAny_truthy_bool ?_; refine t_tt ?_; refine r_meth ?_; refine r_loc S191 rfl ?_; rename St _ _ _ _ _ _ => S192; refine r_getml S192 U.mem PySem.F.slot_list_pop PySem.F.type_list_pop ?_; refine r_callB0 ?_; rename St _ _ _ _ _ _ => S193; refine r_pop S193 U (by rw [PySem.sizeLine_eq]; lia) fun s194 S194 => ?_; refine seq_ret ?_; k_unfold; refine r_leave S194 fun S194 => ?_; exact k _ (by assumption)
end
end Mine
end
section
open PySem PySem.W PyProof.Rows PySem.Calls PySem.Spec
set_option maxHeartbeats 1000000
namespace Mine

section
theorem c_bad0 {w : World} {base : Heap} {outer : List Env} {env : Env} {A : Around} {c : Shared} {g : Heap} {L : Addr} {m : Loc} {rest : Led} {s : Shared} {Q E : Value → Shared → Prop} {wd b : Addr} {o : Obj} {why : Str} {tw : Tok} {vhs vhi vde vfr : Value} {fni : Int} {tfn : Tok} {bits : List Value} {nb : Nat} (C : Cx w base outer env A g L 1)
    (S : St c g L m ((wd, o) :: rest) s) (hd : WDict w o (.ref b) vhs vhi vde vfr .none (.int fni tfn)) (hb : (b, lst bits nb) ∈ rest) (hz : bits.length ≤ 1000)
    (k : ∀ o' d t s', WDict w o' (.ref b) vhs vhi vde vfr (.ref d) (.int fni tfn) → St c g L m ((wd, o') :: (d, tup [.str why tw, .int fni tfn, .int bits.length t] 0) :: rest) s' → Q .none s') :
    wpAny (model PRG w) A (call (.ref 420) [.ref wd, .str why tw]) Q E s := by
  refine' r_def C S (binds := [("why", .str why tw), ("world", .ref wd)]) ?ho ?hcd ?hb ?hl ?_ ?c1 ?c2 ?c3 ?c4
  case ho => k_is
  case hcd => k_is
  case hb => exact BindsTo.of_eq rfl
  case hl => exact locs rfl
  case c1 => decide
  case c2 => exact rfl
  case c3 => exact rfl
  case c4 => exact rfl
  intro g1 L1 s1 C1 S1 F1; k_fold; (with_reducible refine k_if ?_); refine wpAny_isTrue_Compare1 ?_; refine Subscript_ ?_; refine r_loc S1 rfl ?_; refine r_str S1 fun t6 s6 S6 => ?_; clear S1; refine r_dget S6 (.head _) (by assumption) rfl fun s7 S7 => ?_; clear S6; refine r_none ?_; refine is_none_none ?_; refine wpAny_truthy_bool ?_; refine t_tt ?_; refine r_cons ?_; refine wpAny_Assign_Subscript ?_; refine Tuple_ ?_; refine spliced_more ?_; refine r_loc S7 rfl ?_; refine spliced_more ?_; refine Subscript_ ?_; refine r_loc S7 rfl ?_; refine r_str S7 fun t20 s20 S20 => ?_; clear S7; refine r_dget S20 (.head _) (by assumption) rfl fun s21 S21 => ?_; clear S20; refine spliced_more ?_; refine r_call ?_; refine r_bui C1 S21 (gb_len w) (by boot_by_name) (by decide) ?_; refine r_callB ?_; refine spliced_more ?_; refine Subscript_ ?_; refine r_loc S21 rfl ?_; refine r_str S21 fun t29 s29 S29 => ?_; clear S21; refine r_dget S29 (.head _) (by assumption) rfl fun s30 S30 => ?_; clear S29; refine spliced_none ?_; refine r_len S30 (.tail _ (hb)) (by lia) fun t32 s32 S32 => ?_; clear S30; refine spliced_none ?_; refine r_tuple S32 (Nat.le_of_ble_eq_true rfl) fun a34 s34 S34 => ?_; clear S32; refine r_loc S34 rfl ?_; refine r_str S34 fun t36 s36 S36 => ?_; clear S34; refine r_wset_due S36 (by assumption) (fun o' => (.tl .hd)) fun o37 s37 hd37 S37 => ?_; clear S36; (with_reducible refine k_sn ?_; refine k_sn ?_); k_unfold; refine r_leave S37 fun S37 => ?_; rename St _ _ _ _ _ _ => S90; exact k _ _ _ _ (by assumption) S90.rot_1_1
theorem c_bad1 {w : World} {base : Heap} {outer : List Env} {env : Env} {A : Around} {c : Shared} {g : Heap} {L : Addr} {m : Loc} {rest : Led} {s : Shared} {Q E : Value → Shared → Prop} {wd : Addr} {o : Obj} {why : Str} {tw : Tok} {vb vhs vhi vde vfr vfn : Value} {d : Addr} (C : Cx w base outer env A g L 1)
    (S : St c g L m ((wd, o) :: rest) s) (hd : WDict w o vb vhs vhi vde vfr (.ref d) vfn)
    (k : ∀ s', St c g L m ((wd, o) :: rest) s' → Q .none s') :
    wpAny (model PRG w) A (call (.ref 420) [.ref wd, .str why tw]) Q E s := by
  refine' r_def C S (binds := [("why", .str why tw), ("world", .ref wd)]) ?ho ?hcd ?hb ?hl ?_ ?c1 ?c2 ?c3 ?c4
  case ho => k_is
  case hcd => k_is
  case hb => exact BindsTo.of_eq rfl
  case hl => exact locs rfl
  case c1 => decide
  case c2 => exact rfl
  case c3 => exact rfl
  case c4 => exact rfl
  intro g1 L1 s1 C1 S1 F1; k_fold; (with_reducible refine k_if ?_); refine wpAny_isTrue_Compare1 ?_; refine Subscript_ ?_; refine r_loc S1 rfl ?_; refine r_str S1 fun t106 s106 S106 => ?_; clear S1; refine r_dget S106 (.head _) (by assumption) rfl fun s107 S107 => ?_; clear S106; refine r_none ?_; refine is_none_ne (by simp) ?_; refine wpAny_truthy_bool ?_; refine t_ff ?_; refine wpAny_execs_nil ?_; (with_reducible refine k_sn ?_); k_unfold; refine r_leave S107 fun S107 => ?_; exact k _ (by assumption)
end
end Mine
end
section
open PySem PySem.W PyProof.Rows PySem.Calls PySem.Spec
set_option maxHeartbeats 1000000
namespace Mine

section
theorem c_next {w : World} {base : Heap} {outer : List Env} {env : Env} {A : Around} {c : Shared} {g : Heap} {L : Addr} {m : Loc} {rest : Led} {s : Shared} {Q E : Value → Shared → Prop} {tp : Addr} {nt : Nat} {tvs : List Value} {ns : List Int} (C : Cx w base outer env A g L 1) (S : St c g L m ((tp, lst tvs nt) :: rest) s) (hi : IntsAre tvs ns) (hz : tvs.length ≤ 100000)
    (k : ∀ x t tvs' ns' nt' s', IntsAre tvs' ns' → tvs'.length ≤ 100000 → St c g L m ((tp, lst tvs' nt') :: rest) s' → Q (.int x t) s') :
    wpAny (model PRG w) A (call (.ref 406) [.ref tp]) Q E s := by
  rcases List.eq_nil_or_concat tvs with rfl | ⟨vs, v, rfl⟩
  · exact c_next0 C S (.head _) fun t s' S' => k _ _ _ _ _ _ .nil (by decide) S'
  · rw [List.concat_eq_append] at *
    obtain ⟨ns1, x, tx, rfl, rfl, h1⟩ : ∃ ns1 x tx, ns = ns1 ++ [x] ∧ v = .int x tx ∧ IntsAre vs ns1 := by
      clear S hz k C
      induction vs generalizing ns with
      | nil =>
        cases hi with
        | cons n t h =>
          cases h
          exact ⟨[], n, t, rfl, rfl, .nil⟩
      | cons a vs ih =>
        cases hi with
        | cons n t h =>
          obtain ⟨ns1, x, tx, rfl, e, h1⟩ := ih h
          exact ⟨n :: ns1, x, tx, rfl, e, .cons n t h1⟩
    exact c_next1 C S .hd hi (by simp at hz; lia) fun s' S' => k _ _ _ _ _ _ h1 (by simp at hz; lia) S'
end
end Mine
end
section
open PySem PySem.W PyProof.Rows PySem.Calls PySem.Spec
set_option maxHeartbeats 1000000
namespace Mine

section
theorem fmod3 (x : Int) : x.fmod 3 = 0 ∨ x.fmod 3 = 1 ∨ x.fmod 3 = 2 := by
  have h1 := Int.fmod_nonneg_of_pos x (b := 3) (by decide)
  have h2 := Int.fmod_lt_of_pos x (b := 3) (by decide)
  lia
theorem c_spot {w : World} {base : Heap} {outer : List Env} {env : Env} {A : Around} {c : Shared} {g : Heap} {L : Addr} {m : Loc} {rest : Led} {s : Shared} {Q E : Value → Shared → Prop} {tp : Addr} {nt : Nat} {tvs : List Value} {ns : List Int} {many : Int} {tm : Tok} (C : Cx w base outer env A g L 2) (S : St c g L m ((tp, lst tvs nt) :: rest) s) (hi : IntsAre tvs ns) (hz : tvs.length ≤ 100000)
    (k : ∀ v t tvs' ns' nt' s', v = many - 1 ∨ v = many ∨ v = many + 5 → IntsAre tvs' ns' → tvs'.length ≤ 100000 → St c g L m ((tp, lst tvs' nt') :: rest) s' → Q (.int v t) s') :
    wpAny (model PRG w) A (call (.ref 441) [.ref tp, .int many tm]) Q E s := by
  refine' r_def C S (binds := [("many", .int many tm), ("tape", .ref tp)]) ?ho ?hcd ?hb ?hl ?_ ?c1 ?c2 ?c3 ?c4
  case ho => k_is
  case hcd => k_is
  case hb => exact BindsTo.of_eq rfl
  case hl => exact locs rfl
  case c1 => decide
  case c2 => exact rfl
  case c3 => exact rfl
  case c4 => exact rfl
  intro g1 L1 s1 C1 S1 F1; k_fold; (with_reducible refine k_rt ?_); refine Subscript_ ?_; (with_reducible refine q_ev g0 S1 fun τ18 α18 s18 S18 => ?_; clear S1); refine wpAny_BinOp ?_; (with_reducible refine q_call0 C1 g0 S18 (gl_law_next w) (keep_406 w) ?_); rename St _ _ _ _ _ _ => S90; refine c_next (C1.le (by decide)) S90.rot_1_1 hi hz fun x t tvs' ns' nt' s91 hi' hz' S91 => ?_; refine r_int S91 fun t51 s51 S51 => ?_; clear S91; refine r_mod S51 (by decide) fun t52 s52 S52 => ?_; clear S51; rename St _ _ _ _ _ _ => S92
  rcases fmod3 x with hx | hx | hx
  · rw [hx]
    refine r_item S92 (.tail _ (.head _)) (by decide) (by decide) rfl ?_; refine seq_ret ?_; k_unfold; refine r_leave S92 fun S92 => ?_; rename St _ _ _ _ _ _ => S190; exact k _ _ _ _ _ _ (.inl rfl) hi' hz' (S190.drop (.tl .hd))
  · rw [hx]
    refine r_item S92 (.tail _ (.head _)) (by decide) (by decide) rfl ?_; refine seq_ret ?_; k_unfold; refine r_leave S92 fun S92 => ?_; rename St _ _ _ _ _ _ => S290; exact k _ _ _ _ _ _ (.inr (.inl rfl)) hi' hz' (S290.drop (.tl .hd))
  · rw [hx]
    refine r_item S92 (.tail _ (.head _)) (by decide) (by decide) rfl ?_; refine seq_ret ?_; k_unfold; refine r_leave S92 fun S92 => ?_; rename St _ _ _ _ _ _ => S390; exact k _ _ _ _ _ _ (.inr (.inr rfl)) hi' hz' (S390.drop (.tl .hd))
end
end Mine
end
section
open PySem PySem.W PyProof.Rows PySem.Calls PySem.Spec
set_option maxHeartbeats 2000000
namespace Mine
inductive Run (K F P : Nat) : PS → List (List Int) → List (Option Nat) → PS → Prop
  | nil {p} : Run K F P p [] [] p
  | cons {n c0 h0 d bs row rows p' hs q} : n ≤ 800 → bs.length ≤ 800 → StepR K F P ⟨n, (c0, h0, d) :: bs⟩ row p' → Run K F P p' rows hs q → Run K F P ⟨n, (c0, h0, d) :: bs⟩ (row :: rows) ((if d then none else some n) :: hs) q
theorem Run.snoc {K F P : Nat} {p : PS} {rows : List (List Int)} {hs : List (Option Nat)} {n : Nat} {c0 : Int} {h0 : Nat} {d : Bool} {bs : List (Int × Nat × Bool)} {row : List Int} {q : PS} (R : Run K F P p rows hs ⟨n, (c0, h0, d) :: bs⟩) (h1 : n ≤ 800) (h2 : bs.length ≤ 800) (st : StepR K F P ⟨n, (c0, h0, d) :: bs⟩ row q) :
    Run K F P p (rows ++ [row]) (hs ++ [if d then none else some n]) q := by
  generalize hr : (⟨n, (c0, h0, d) :: bs⟩ : PS) = r at R
  induction R with
  | nil => subst hr; exact .cons h1 h2 st .nil
  | cons a b s _ ih => exact .cons a b s (ih hr)
theorem Run.chkE {K F P : Nat} {p q : PS} {rows more : List (List Int)} {hs : List (Option Nat)} {e : Str × Int} (R : Run K F P p rows hs q) : ∀ {at_ : Nat}, Chk K F P q (at_ + rows.length) more (.error e) → Chk K F P p at_ (rows ++ more) (.error e) := by
  induction R with
  | nil => intro at_ h; exact h
  | cons a b s _ ih =>
    intro at_ h; refine .stepE a b s (ih ?_)
    rw [List.length_cons] at h
    rw [Nat.add_assoc, Nat.add_comm 1]
    exact h
theorem Run.chkO {K F P : Nat} {p q : PS} {rows more : List (List Int)} {hs hs' : List (Option Nat)} (R : Run K F P p rows hs q) : ∀ {at_ : Nat}, Chk K F P q (at_ + rows.length) more (.ok hs') → Chk K F P p at_ (rows ++ more) (.ok (hs ++ hs')) := by
  induction R with
  | nil => intro at_ h; exact h
  | cons a b s _ ih =>
    intro at_ h; refine .step a b s (ih ?_)
    rw [List.length_cons] at h
    rw [Nat.add_assoc, Nat.add_comm 1]
    exact h
end Mine
end
section
open PySem PySem.W PyProof.Rows PySem.Calls PySem.Spec
set_option maxHeartbeats 2000000
namespace Mine
structure Fm where
  sort : Int
  code : Int
  over : Nat
  base : Nat
noncomputable def blocksOf (fs : List Fm) : List (Int × Nat × Bool) := fs.map (fun f => (f.code, f.base, false)) ++ [(-1, 0, false)]
noncomputable def markTop (d : Bool) : List (Int × Nat × Bool) → List (Int × Nat × Bool)
  | [] => []
  | (c, h, _) :: r => (c, h, d) :: r
noncomputable def topH (fs : List Fm) : Nat := match fs with
  | [] => 0
  | f :: _ => f.base
structure WI (K F P : Nat) (rows : List (List Int)) (hs : List (Option Nat)) (high : Nat) (dead : Bool) (fs : List Fm) (due : Option (Str × Int)) : Prop where
  len : hs.length = rows.length
  run : due = none → ∃ n, Run K F P ⟨0, [(-1, 0, false)]⟩ rows hs ⟨n, markTop dead (blocksOf fs)⟩ ∧ (dead = false → n = high ∧ topH fs ≤ n) ∧ (dead = true → n = topH fs)
  bad : ∀ e, due = some e → ∀ more, Chk K F P ⟨0, [(-1, 0, false)]⟩ 0 (rows ++ more) (.error e)
theorem markTop_false (fs : List Fm) : markTop false (blocksOf fs) = blocksOf fs := by
  cases fs with
  | nil => rfl
  | cons f fs => rfl
theorem blocksOf_cons (fs : List Fm) : ∃ c0 h0 bs, blocksOf fs = (c0, h0, false) :: bs ∧ bs.length = fs.length ∧ h0 = topH fs := by
  cases fs with
  | nil => exact ⟨-1, 0, [], rfl, rfl, rfl⟩
  | cons f fs => exact ⟨f.code, f.base, blocksOf fs, rfl, by simp [blocksOf], rfl⟩
section
variable {K F P : Nat} {rows : List (List Int)} {hs : List (Option Nat)} {high high' : Nat} {fs fs' : List Fm} {row : List Int} {why : Str}
noncomputable def PS1 (K F P : Nat) (d : Bool) (high : Nat) (fs : List Fm) (row : List Int) (d' : Bool) (high' : Nat) (fs' : List Fm) : Prop :=
  StepR K F P ⟨if d then topH fs else high, markTop d (blocksOf fs)⟩ row ⟨if d' then topH fs' else high', markTop d' (blocksOf fs')⟩ ∧ (d' = false → topH fs' ≤ high')
theorem WI.on {d d' : Bool} {due : Option (Str × Int)} (W : WI K F P rows hs high d fs due) (hb : high ≤ 800) (ht : topH fs ≤ 800) (hf : fs.length ≤ 800) (st : due = none → PS1 K F P d high fs row d' high' fs') :
    WI K F P (rows ++ [row]) (hs ++ [if d then none else some high]) high' d' fs' due := by
  refine ⟨by simp [W.len], fun hd => ?_, fun e h more => ?_⟩
  · obtain ⟨n, R, e1, e2⟩ := W.run hd
    obtain ⟨st, h1⟩ := st hd
    obtain ⟨c0, h0, bs, e, e3, e4⟩ := blocksOf_cons fs
    have hn : n = if d then topH fs else high := by
      cases d with
      | true => exact e2 rfl
      | false => exact (e1 rfl).1
    rw [← hn] at st
    rw [e] at R st
    have hn8 : n ≤ 800 := by rw [hn]; split <;> assumption
    have hh : (if d = true then none else some high) = (if d = true then none else some n) := by
      cases d with
      | true => rfl
      | false => rw [hn]; rfl
    rw [hh]
    refine ⟨_, R.snoc hn8 (by lia) st, fun h => ?_, fun h => ?_⟩
    · subst h; exact ⟨rfl, h1 rfl⟩
    · subst h; rfl
  · rw [List.append_assoc]
    exact W.bad e h _
theorem WI.fail {d' : Bool} {x : Option Nat} (W : WI K F P rows hs high false fs none) (hb : high ≤ 800) (hf : fs.length ≤ 800) (st : StepX K F P ⟨high, blocksOf fs⟩ row why) :
    WI K F P (rows ++ [row]) (hs ++ [x]) high' d' fs' (some (why, (rows.length : Int))) := by
  obtain ⟨n, R, e1, _⟩ := W.run rfl
  obtain ⟨rfl, ht⟩ := e1 rfl
  obtain ⟨c0, h0, bs, e, e2, _⟩ := blocksOf_cons fs
  rw [markTop_false] at R
  rw [e] at R st
  refine ⟨by simp [W.len], (fun h => nomatch h), fun e h more => ?_⟩
  cases h
  rw [List.append_assoc]
  have c := Chk.bad (at_ := 0 + rows.length) (rows := more) hb (by lia) st
  rw [Nat.zero_add] at c
  exact R.chkE (by rw [Nat.zero_add]; exact c)
theorem blk_len (fs : List Fm) : (blocksOf fs).length = fs.length + 1 := by simp [blocksOf]
theorem top_open (fs : List Fm) : ∃ c0 bs, (∀ d, markTop d (blocksOf fs) = (c0, topH fs, d) :: bs) ∧ blocksOf fs = (c0, topH fs, false) :: bs ∧ bs.length = fs.length := by
  cases fs with
  | nil => exact ⟨-1, [], fun _ => rfl, rfl, rfl⟩
  | cons f fs => exact ⟨f.code, blocksOf fs, fun _ => rfl, rfl, by rw [blk_len]; rfl⟩
theorem ps_const {x : Int} (h : topH fs ≤ high) : PS1 K F P false high fs [65, x] false (high + 1) fs := by
  refine ⟨?_, fun _ => by lia⟩; exact .const
theorem ps_blk {code sort : Int} {over : Nat} (hc : code = 2 ∨ code = 3) (h : topH fs ≤ high) : PS1 K F P false high fs [code, -64] false high (⟨sort, code, over, high⟩ :: fs) := by
  refine ⟨?_, fun _ => Nat.le_refl _⟩
  obtain ⟨c0, bs, e1, e2, e3⟩ := top_open fs
  show StepR K F P ⟨high, markTop false (blocksOf fs)⟩ [code, -64] ⟨high, (code, high, false) :: blocksOf fs⟩
  rw [e1, e2]
  exact .blk0 hc h
theorem ps_blkT {code sort told : Int} {over : Nat} (hc : code = 2 ∨ code = 3) (h0 : 0 ≤ told) (h1 : told < K) (h : topH fs ≤ high) : PS1 K F P false high fs [code, told] false high (⟨sort, code, over, high⟩ :: fs) := by
  refine ⟨?_, fun _ => Nat.le_refl _⟩
  obtain ⟨c0, bs, e1, e2, e3⟩ := top_open fs
  show StepR K F P ⟨high, markTop false (blocksOf fs)⟩ [code, told] ⟨high, (code, high, false) :: blocksOf fs⟩
  rw [e1, e2]
  exact .blk1 hc h h0 h1
theorem ps_if {sort : Int} {over : Nat} (h : topH fs ≤ high) : PS1 K F P false (high + 1) fs [4, -64] false high (⟨sort, 4, over, high⟩ :: fs) := by
  refine ⟨?_, fun _ => Nat.le_refl _⟩
  obtain ⟨c0, bs, e1, e2, e3⟩ := top_open fs
  show StepR K F P ⟨high + 1, markTop false (blocksOf fs)⟩ [4, -64] ⟨high, (4, high, false) :: blocksOf fs⟩
  rw [e1, e2]
  exact .ifb h
theorem ps_els {sort sort' : Int} {over over' : Nat} : PS1 K F P false high (⟨sort, 4, over, high⟩ :: fs) [5] false high (⟨sort', 5, over', high⟩ :: fs) :=
  ⟨.els, fun _ => Nat.le_refl _⟩
theorem ps_fin {d : Bool} {f : Fm} (h : d = false → high = f.base) (h2 : topH fs ≤ f.base) : PS1 K F P d high (f :: fs) [11] false f.base fs := by
  refine ⟨?_, fun _ => h2⟩
  have e : (if d = true then topH (f :: fs) else high) = f.base := by
    cases d with
    | true => rfl
    | false => exact h rfl
  rw [e, markTop_false]
  exact .fin
theorem ps_drop (h : topH fs ≤ high) : PS1 K F P false (high + 1) fs [26] false high fs := by
  refine ⟨?_, fun _ => h⟩
  obtain ⟨c0, bs, e1, e2, e3⟩ := top_open fs
  show StepR K F P ⟨high + 1, markTop false (blocksOf fs)⟩ [26] ⟨high, markTop false (blocksOf fs)⟩
  rw [e1]
  exact .drop h
theorem ps_lget {p : Int} (h : topH fs ≤ high) (h0 : 0 ≤ p) (h1 : p < P) : PS1 K F P false high fs [32, p] false (high + 1) fs := by
  refine ⟨?_, fun _ => by lia⟩
  obtain ⟨c0, bs, e1, e2, e3⟩ := top_open fs
  show StepR K F P ⟨high, markTop false (blocksOf fs)⟩ [32, p] ⟨high + 1, markTop false (blocksOf fs)⟩
  rw [e1]
  exact .lget h0 h1
theorem ps_lset {p : Int} (h : topH fs ≤ high) (h0 : 0 ≤ p) (h1 : p < P) : PS1 K F P false (high + 1) fs [33, p] false high fs := by
  refine ⟨?_, fun _ => h⟩
  obtain ⟨c0, bs, e1, e2, e3⟩ := top_open fs
  show StepR K F P ⟨high + 1, markTop false (blocksOf fs)⟩ [33, p] ⟨high, markTop false (blocksOf fs)⟩
  rw [e1]
  exact .lset h h0 h1
theorem ps_ltee {p : Int} (h : topH fs ≤ high) (h0 : 0 ≤ p) (h1 : p < P) : PS1 K F P false (high + 1) fs [34, p] false (high + 1) fs := by
  refine ⟨?_, fun _ => by lia⟩
  obtain ⟨c0, bs, e1, e2, e3⟩ := top_open fs
  show StepR K F P ⟨high + 1, markTop false (blocksOf fs)⟩ [34, p] ⟨high + 1, markTop false (blocksOf fs)⟩
  rw [e1]
  exact .ltee h h0 h1
theorem ps_br {l : Int} (h : topH fs ≤ high) (h0 : 0 ≤ l) (h1 : l < fs.length + 1) : PS1 K F P false high fs [12, l] true high fs := by
  refine ⟨?_, fun h => nomatch h⟩
  obtain ⟨c0, bs, e1, e2, e3⟩ := top_open fs
  show StepR K F P ⟨high, markTop false (blocksOf fs)⟩ [12, l] ⟨topH fs, markTop true (blocksOf fs)⟩
  rw [e1, e1]
  exact .br h h0 (by lia)
theorem ps_brif {l : Int} (h : topH fs ≤ high) (h0 : 0 ≤ l) (h1 : l < fs.length + 1) : PS1 K F P false (high + 1) fs [13, l] false high fs := by
  refine ⟨?_, fun _ => h⟩
  obtain ⟨c0, bs, e1, e2, e3⟩ := top_open fs
  show StepR K F P ⟨high + 1, markTop false (blocksOf fs)⟩ [13, l] ⟨high, markTop false (blocksOf fs)⟩
  rw [e1]
  exact .brif h h0 (by lia)
theorem ps_brt {l l' : Int} (h : topH fs ≤ high) (h0 : 0 ≤ l) (h1 : l < fs.length + 1) (h2 : 0 ≤ l') (h3 : l' < fs.length + 1) : PS1 K F P false (high + 1) fs [14, l, l'] true high fs := by
  refine ⟨?_, fun h => nomatch h⟩
  obtain ⟨c0, bs, e1, e2, e3⟩ := top_open fs
  show StepR K F P ⟨high + 1, markTop false (blocksOf fs)⟩ [14, l, l'] ⟨topH fs, markTop true (blocksOf fs)⟩
  rw [e1, e1]
  exact .brt h h0 (by lia) h2 (by lia)
theorem ps_call {p : Int} (h : topH fs ≤ high) (h0 : 0 ≤ p) (h1 : p < F) : PS1 K F P false high fs [16, p] false high fs := by
  refine ⟨?_, fun _ => h⟩
  obtain ⟨c0, bs, e1, e2, e3⟩ := top_open fs
  show StepR K F P ⟨high, markTop false (blocksOf fs)⟩ [16, p] ⟨high, markTop false (blocksOf fs)⟩
  rw [e1]
  exact .call h h0 h1
theorem ps_tail {p : Int} (h : topH fs ≤ high) (h0 : 0 ≤ p) (h1 : p < F) : PS1 K F P false high fs [18, p] true high fs := by
  refine ⟨?_, fun h => nomatch h⟩
  obtain ⟨c0, bs, e1, e2, e3⟩ := top_open fs
  show StepR K F P ⟨high, markTop false (blocksOf fs)⟩ [18, p] ⟨topH fs, markTop true (blocksOf fs)⟩
  rw [e1, e1]
  exact .tail h h0 h1
theorem ps_sel27 (h : topH fs ≤ high) : PS1 K F P false (high + 3) fs [27] false (high + 1) fs := by
  refine ⟨?_, fun _ => by lia⟩
  obtain ⟨c0, bs, e1, e2, e3⟩ := top_open fs
  show StepR K F P ⟨high + 3, markTop false (blocksOf fs)⟩ [27] ⟨high + 1, markTop false (blocksOf fs)⟩
  rw [e1]
  exact .sel27 h
theorem ps_sel28 (h : topH fs ≤ high) : PS1 K F P false (high + 3) fs [28, -1] false (high + 1) fs := by
  refine ⟨?_, fun _ => by lia⟩
  obtain ⟨c0, bs, e1, e2, e3⟩ := top_open fs
  show StepR K F P ⟨high + 3, markTop false (blocksOf fs)⟩ [28, -1] ⟨high + 1, markTop false (blocksOf fs)⟩
  rw [e1]
  exact .sel28 h
end
end Mine
end
section
open PySem PySem.W PyProof.Rows PySem.Calls PySem.Spec
set_option maxHeartbeats 2000000
namespace Mine
theorem RowsAre.snoc {keep : Led} {refs : List Value} {rows : List (List Int)} {ins : Addr} {vs : List Value} {ki : Nat} {row : List Int} (H : RowsAre keep refs rows) (h1 : (ins, tup vs ki) ∈ keep) (h2 : IntsAre vs row) : RowsAre keep (refs ++ [.ref ins]) (rows ++ [row]) := by
  induction H with
  | nil => exact .cons h1 h2 .nil
  | cons a b _ ih => exact .cons a b ih
inductive FmsAre (fx : Led) : List Value → List Fm → Prop
  | nil : FmsAre fx [] []
  | cons {fa k : Nat} {t1 t2 t3 : Tok} {vs : List Value} {f : Fm} {fs : List Fm} : (fa, lst [.int f.sort t1, .int f.over t2, .int f.base t3] k) ∈ fx → FmsAre fx vs fs → FmsAre fx (vs ++ [.ref fa]) (f :: fs)
theorem FmsAre.len {fx : Led} {vs : List Value} {fs : List Fm} (H : FmsAre fx vs fs) : vs.length = fs.length := by
  induction H with
  | nil => rfl
  | cons _ _ ih => simp [ih]
theorem FmsAre.mono {fx fx' : Led} {vs : List Value} {fs : List Fm} (H : FmsAre fx vs fs) (h : ∀ q ∈ fx, q ∈ fx') : FmsAre fx' vs fs := by
  induction H with
  | nil => exact .nil
  | cons a _ ih => exact .cons (h _ a) ih
noncomputable def DueIs (fx : Led) (fni : Int) (v : Value) : Option (Str × Int) → Prop
  | none => v = .none
  | some (why, at_) => ∃ d k t1 t2 t3, v = .ref d ∧ (d, tup [.str why t1, .int fni t2, .int at_ t3] k) ∈ fx
theorem DueIs.mono {fx fx' : Led} {fni : Int} {v : Value} {due : Option (Str × Int)} (H : DueIs fx fni v due) (h : ∀ q ∈ fx, q ∈ fx') : DueIs fx' fni v due := by
  cases due with
  | none => exact H
  | some e => obtain ⟨d, k, t1, t2, t3, e1, e2⟩ := H; exact ⟨d, k, t1, t2, t3, e1, h _ e2⟩
noncomputable def WRep (w : World) (wd b hsa fr tp : Addr) (fni : Int) (tfn : Tok) (rows : List (List Int)) (hs : List (Option Nat)) (high : Nat) (dead : Bool) (fs : List Fm) (due : Option (Str × Int)) (news : Led) : Prop :=
  ∃ o hi bits hits frs tvs ns nb nh nf nt vdu fx, news.Perm ((wd, o) :: (b, lst bits nb) :: (hsa, lst hits nh) :: (fr, lst frs nf) :: (tp, lst tvs nt) :: fx) ∧
    WDict w o (.ref b) (.ref hsa) (.int high hi) (.bool dead) (.ref fr) vdu (.int fni tfn) ∧ RowsAre fx bits rows ∧ HsAre hits hs ∧ FmsAre fx frs fs ∧ IntsAre tvs ns ∧ tvs.length ≤ 100000 ∧ DueIs fx fni vdu due
end Mine
end
section
open PySem PySem.W PyProof.Rows PySem.Calls PySem.Spec
set_option maxHeartbeats 2000000
namespace Mine
theorem pm {a b c d t : Addr × Obj} {news fx : Led} (pre : Led) (hp : news.Perm (a :: b :: c :: d :: t :: fx)) : (pre ++ news).Perm (a :: b :: c :: d :: t :: (pre ++ fx)) :=
  (hp.append_left pre).trans (List.perm_append_comm_assoc pre [a, b, c, d, t] fx)
theorem pmB {a b c d t : Addr × Obj} {fx : Led} (pre : Led) : (a :: b :: c :: d :: t :: (pre ++ fx)).Perm (pre ++ (a :: b :: c :: d :: t :: fx)) := (pm pre (.refl _)).symm
structure WE where
  wd : Addr
  b : Addr
  hsa : Addr
  fr : Addr
  tp : Addr
  fni : Int
  tfn : Tok
  K : Nat
  F : Nat
  P : Nat
noncomputable abbrev WR (w : World) (e : WE) (rows : List (List Int)) (hs : List (Option Nat)) (high : Nat) (dead : Bool) (fs : List Fm) (due : Option (Str × Int)) (news : Led) : Prop := WRep w e.wd e.b e.hsa e.fr e.tp e.fni e.tfn rows hs high dead fs due news
section
variable {w : World} {base : Heap} {outer : List Env} {env : Env} {A : Around} {c : Shared} {g : Heap} {L : Addr} {n : Nat} {m : Loc} {news pre : Led} {s : Shared} {Q E : Value → Shared → Prop} {e : WE} {rows : List (List Int)} {hs : List (Option Nat)} {high high' : Nat} {dead : Bool} {fs : List Fm} {due : Option (Str × Int)}
theorem WRep.absorb {q : Addr × Obj} (W : WR w e rows hs high dead fs due news) : WR w e rows hs high dead fs due (q :: news) := by
  obtain ⟨o, hi, bits, hits, frs, tvs, ns, nb, nh, nf, nt, vdu, fx, hp, hd, hR, hH, hF, hT, hTz, hD⟩ := W
  have hsub : ∀ q' ∈ fx, q' ∈ q :: fx := fun q hq => .tail _ hq
  exact ⟨o, hi, bits, hits, frs, tvs, ns, nb, nh, nf, nt, vdu, q :: fx, (List.Perm.cons _ hp).trans (List.perm_append_comm_assoc [q] [_, _, _, _, _] fx), hd, hR.mono hsub, hH, hF.mono hsub, hT, hTz, hD.mono hsub⟩
theorem c_emitW {r : Addr} {vs : List Value} {ki : Nat} {row : List Int} {ch : Int} {t2 : Tok}
    (C : Cx w base outer env A g L 3) (S : St c g L m ((r, tup vs ki) :: (pre ++ news)) s) (W : WR w e rows hs high dead fs due news) (hr : IntsAre vs row) (hz : rows.length < 900) (hz2 : hs.length < 900) (hch : (high : Int) + ch = high')
    (k : ∀ news' s', WR w e (rows ++ [row]) (hs ++ [if dead then none else some high]) high' dead fs due news' → St c g L m (pre ++ news') s' → Q .none s') :
    wpAny (model PRG w) A (call (.ref 413) [.ref e.wd, .ref r, .int ch t2]) Q E s := by
  obtain ⟨o, hi, bits, hits, frs, tvs, ns, nb, nh, nf, nt, vdu, fx, hp, hd, hR, hH, hF, hT, hTz, hD⟩ := W
  have S1 := (S.perm (.cons _ (pm pre hp))).rot_1_5
  refine c_emit C S1 hd (by rw [hR.len]; lia) (by rw [hH.len]; lia) fun o' t' nb' nh' s' hd' S2 => ?_
  rw [hch] at hd'
  have hsub : ∀ q ∈ fx, q ∈ (r, tup vs ki) :: fx := fun q hq => .tail _ hq
  refine k ((e.wd, o') :: (e.b, lst (bits ++ [Value.ref r]) nb') :: (e.hsa, lst (hits ++ [if dead = true then Value.none else Value.int high hi]) nh') :: (e.fr, lst frs nf) :: (e.tp, lst tvs nt) :: (r, tup vs ki) :: fx) s' ⟨o', t', _, _, frs, tvs, ns, nb', nh', nf, nt, vdu, (r, tup vs ki) :: fx, .refl _, hd', (hR.mono hsub).snoc (.head _) hr, hH.snoc (v := if dead = true then Value.none else Value.int high hi) ?_, hF.mono hsub, hT, hTz, hD.mono hsub⟩ (S2.perm ?_)
  · cases dead with
    | true => rfl
    | false => exact ⟨hi, rfl⟩
  · refine List.Perm.trans ?_ (pmB pre); exact .cons _ (.cons _ (.cons _ (.cons _ (.cons _ (List.perm_middle (l₁ := pre) (l₂ := fx)).symm))))
theorem c_badW0 {tw : Tok} {why : Str}
    (C : Cx w base outer env A g L 1) (S : St c g L m (pre ++ news) s) (W : WR w e rows hs high dead fs none news) (hz : rows.length < 900)
    (k : ∀ news' s', WR w e rows hs high dead fs (some (why, (rows.length : Int))) news' → St c g L m (pre ++ news') s' → Q .none s') :
    wpAny (model PRG w) A (call (.ref 420) [.ref e.wd, .str why tw]) Q E s := by
  obtain ⟨o, hi, bits, hits, frs, tvs, ns, nb, nh, nf, nt, vdu, fx, hp, hd, hR, hH, hF, hT, hTz, hD⟩ := W
  have hD' : vdu = .none := hD
  subst hD'
  refine c_bad0 C (S.perm (pm pre hp)) hd (.head _) (by rw [hR.len]; lia) fun o' d t s' hd' S2 => ?_
  have hsub : ∀ q ∈ fx, q ∈ (d, tup [.str why tw, .int e.fni e.tfn, .int bits.length t] 0) :: fx := fun q hq => .tail _ hq
  refine k _ s' ⟨o', hi, bits, hits, frs, tvs, ns, nb, nh, nf, nt, .ref d, (d, tup [.str why tw, .int e.fni e.tfn, .int bits.length t] 0) :: fx, .refl _, hd', hR.mono hsub, hH, hF.mono hsub, hT, hTz, d, 0, tw, e.tfn, t, rfl, ?_⟩ (S2.perm ?_)
  · rw [← hR.len]
    exact .head _
  · refine List.Perm.trans ?_ (pmB pre); exact .cons _ ((List.perm_append_comm_assoc [_] [_, _, _, _] (pre ++ fx)).trans (.cons _ (.cons _ (.cons _ (.cons _ (List.perm_middle (l₁ := pre) (l₂ := fx)).symm)))))
theorem c_badW1 {tw : Tok} {why : Str} {x : Str × Int}
    (C : Cx w base outer env A g L 1) (S : St c g L m (pre ++ news) s) (W : WR w e rows hs high dead fs (some x) news)
    (k : ∀ news' s', WR w e rows hs high dead fs (some x) news' → St c g L m (pre ++ news') s' → Q .none s') :
    wpAny (model PRG w) A (call (.ref 420) [.ref e.wd, .str why tw]) Q E s := by
  obtain ⟨o, hi, bits, hits, frs, tvs, ns, nb, nh, nf, nt, vdu, fx, hp, hd, hR, hH, hF, hT, hTz, hD⟩ := W
  obtain ⟨d, k', t1, t2, t3, rfl, hm⟩ := hD
  refine c_bad1 C (S.perm (pm pre hp)) hd fun s' S2 => ?_; exact k _ s' ⟨o, hi, bits, hits, frs, tvs, ns, nb, nh, nf, nt, .ref d, fx, .refl _, hd, hR, hH, hF, hT, hTz, d, k', t1, t2, t3, rfl, hm⟩ (S2.perm (pmB pre))
theorem c_nextW (C : Cx w base outer env A g L 1) (S : St c g L m (pre ++ news) s) (W : WR w e rows hs high dead fs due news)
    (k : ∀ x t news' s', WR w e rows hs high dead fs due news' → St c g L m (pre ++ news') s' → Q (.int x t) s') :
    wpAny (model PRG w) A (call (.ref 406) [.ref e.tp]) Q E s := by
  obtain ⟨o, hi, bits, hits, frs, tvs, ns, nb, nh, nf, nt, vdu, fx, hp, hd, hR, hH, hF, hT, hTz, hD⟩ := W
  refine c_next C ((S.perm (pm pre hp)).perm (List.perm_append_comm_assoc [_, _, _, _] [_] (pre ++ fx))) hT hTz fun x t tvs' ns' nt' s' hT' hTz' S2 => ?_; exact k x t _ s' ⟨o, hi, bits, hits, frs, tvs', ns', nb, nh, nf, nt', vdu, fx, .refl _, hd, hR, hH, hF, hT', hTz', hD⟩ ((S2.perm (List.perm_append_comm_assoc [_] [_, _, _, _] (pre ++ fx))).perm (pmB pre))
theorem c_spotW {many : Int} {tm : Tok} (C : Cx w base outer env A g L 2) (S : St c g L m (pre ++ news) s) (W : WR w e rows hs high dead fs due news)
    (k : ∀ v t news' s', v = many - 1 ∨ v = many ∨ v = many + 5 → WR w e rows hs high dead fs due news' → St c g L m (pre ++ news') s' → Q (.int v t) s') :
    wpAny (model PRG w) A (call (.ref 441) [.ref e.tp, .int many tm]) Q E s := by
  obtain ⟨o, hi, bits, hits, frs, tvs, ns, nb, nh, nf, nt, vdu, fx, hp, hd, hR, hH, hF, hT, hTz, hD⟩ := W
  refine c_spot C ((S.perm (pm pre hp)).perm (List.perm_append_comm_assoc [_, _, _, _] [_] (pre ++ fx))) hT hTz fun x t tvs' ns' nt' s' hv hT' hTz' S2 => ?_; exact k x t _ s' hv ⟨o, hi, bits, hits, frs, tvs', ns', nb, nh, nf, nt', vdu, fx, .refl _, hd, hR, hH, hF, hT', hTz', hD⟩ ((S2.perm (List.perm_append_comm_assoc [_] [_, _, _, _] (pre ++ fx))).perm (pmB pre))
section
variable {value slice : Expr} {t : Tok}
theorem g_frames (S : St c g L m (pre ++ news) s) (W : WR w e rows hs high dead fs due news) (k : ∀ s', St c g L m (pre ++ news) s' → Q (.ref e.fr) s')
    (hs' : subscripted slice false (.ref e.wd) (.str "frames" t) = operate [.ref e.wd, .str "frames" t] (getItem (.ref e.wd) (.str "frames" t)) := by with_unfolding_all rfl) :
    wpAny (model PRG w) A (subscriptTail value slice (.ref e.wd) (.str "frames" t)) Q E s := by
  obtain ⟨o, hi, bits, hits, frs, tvs, ns, nb, nh, nf, nt, vdu, fx, hp, hd, hR, hH, hF, hT, hTz, hD⟩ := W
  exact r_dget S (List.mem_append_right _ (hp.mem_iff.mpr (.head _))) hd rfl k hs'
theorem g_body (S : St c g L m (pre ++ news) s) (W : WR w e rows hs high dead fs due news) (k : ∀ s', St c g L m (pre ++ news) s' → Q (.ref e.b) s')
    (hs' : subscripted slice false (.ref e.wd) (.str "body" t) = operate [.ref e.wd, .str "body" t] (getItem (.ref e.wd) (.str "body" t)) := by with_unfolding_all rfl) :
    wpAny (model PRG w) A (subscriptTail value slice (.ref e.wd) (.str "body" t)) Q E s := by
  obtain ⟨o, hi, bits, hits, frs, tvs, ns, nb, nh, nf, nt, vdu, fx, hp, hd, hR, hH, hF, hT, hTz, hD⟩ := W
  exact r_dget S (List.mem_append_right _ (hp.mem_iff.mpr (.head _))) hd rfl k hs'
theorem g_heights (S : St c g L m (pre ++ news) s) (W : WR w e rows hs high dead fs due news) (k : ∀ s', St c g L m (pre ++ news) s' → Q (.ref e.hsa) s')
    (hs' : subscripted slice false (.ref e.wd) (.str "heights" t) = operate [.ref e.wd, .str "heights" t] (getItem (.ref e.wd) (.str "heights" t)) := by with_unfolding_all rfl) :
    wpAny (model PRG w) A (subscriptTail value slice (.ref e.wd) (.str "heights" t)) Q E s := by
  obtain ⟨o, hi, bits, hits, frs, tvs, ns, nb, nh, nf, nt, vdu, fx, hp, hd, hR, hH, hF, hT, hTz, hD⟩ := W
  exact r_dget S (List.mem_append_right _ (hp.mem_iff.mpr (.head _))) hd rfl k hs'
theorem g_high (S : St c g L m (pre ++ news) s) (W : WR w e rows hs high dead fs due news) (k : ∀ t s', St c g L m (pre ++ news) s' → Q (.int high t) s')
    (hs' : subscripted slice false (.ref e.wd) (.str "high" t) = operate [.ref e.wd, .str "high" t] (getItem (.ref e.wd) (.str "high" t)) := by with_unfolding_all rfl) :
    wpAny (model PRG w) A (subscriptTail value slice (.ref e.wd) (.str "high" t)) Q E s := by
  obtain ⟨o, hi, bits, hits, frs, tvs, ns, nb, nh, nf, nt, vdu, fx, hp, hd, hR, hH, hF, hT, hTz, hD⟩ := W
  exact r_dget S (List.mem_append_right _ (hp.mem_iff.mpr (.head _))) hd rfl (k hi) hs'
theorem g_due0 (S : St c g L m (pre ++ news) s) (W : WR w e rows hs high dead fs none news) (k : ∀ s', St c g L m (pre ++ news) s' → Q .none s')
    (hs' : subscripted slice false (.ref e.wd) (.str "due" t) = operate [.ref e.wd, .str "due" t] (getItem (.ref e.wd) (.str "due" t)) := by with_unfolding_all rfl) :
    wpAny (model PRG w) A (subscriptTail value slice (.ref e.wd) (.str "due" t)) Q E s := by
  obtain ⟨o, hi, bits, hits, frs, tvs, ns, nb, nh, nf, nt, vdu, fx, hp, hd, hR, hH, hF, hT, hTz, hD⟩ := W
  have hD' : vdu = .none := hD
  subst hD'
  exact r_dget S (List.mem_append_right _ (hp.mem_iff.mpr (.head _))) hd rfl k hs'
theorem g_due1 {x : Str × Int} (S : St c g L m (pre ++ news) s) (W : WR w e rows hs high dead fs (some x) news) (k : ∀ d k' t1 t2 t3 s', (d, tup [.str x.1 t1, .int e.fni t2, .int x.2 t3] k') ∈ news → St c g L m (pre ++ news) s' → Q (.ref d) s')
    (hs' : subscripted slice false (.ref e.wd) (.str "due" t) = operate [.ref e.wd, .str "due" t] (getItem (.ref e.wd) (.str "due" t)) := by with_unfolding_all rfl) :
    wpAny (model PRG w) A (subscriptTail value slice (.ref e.wd) (.str "due" t)) Q E s := by
  obtain ⟨o, hi, bits, hits, frs, tvs, ns, nb, nh, nf, nt, vdu, fx, hp, hd, hR, hH, hF, hT, hTz, hD⟩ := W
  obtain ⟨d, k', t1, t2, t3, rfl, hm⟩ := hD
  exact r_dget S (List.mem_append_right _ (hp.mem_iff.mpr (.head _))) hd rfl (fun s' => k d k' t1 t2 t3 s' (hp.mem_iff.mpr (.tail _ (.tail _ (.tail _ (.tail _ (.tail _ hm))))))) hs'
end
theorem s_dead {t : Tok} {d' : Bool} {Q : Unit → Shared → Prop} (S : St c g L m (pre ++ news) s) (W : WR w e rows hs high dead fs due news) (k : ∀ news' s', WR w e rows hs high d' fs due news' → St c g L m (pre ++ news') s' → Q () s') :
    wpAny (model PRG w) A (setItem (.ref e.wd) (.str "dead" t) (.bool d')) Q E s := by
  obtain ⟨o, hi, bits, hits, frs, tvs, ns, nb, nh, nf, nt, vdu, fx, hp, hd, hR, hH, hF, hT, hTz, hD⟩ := W
  exact r_wset_dead (S.perm (pm pre hp)) hd (fun _ => .hd) fun o' s' hd' S2 => k _ s' ⟨o', hi, bits, hits, frs, tvs, ns, nb, nh, nf, nt, vdu, fx, .refl _, hd', hR, hH, hF, hT, hTz, hD⟩ (S2.perm (pmB pre))
theorem s_high {t t' : Tok} {h' : Nat} {Q : Unit → Shared → Prop} (S : St c g L m (pre ++ news) s) (W : WR w e rows hs high dead fs due news) (k : ∀ news' s', WR w e rows hs h' dead fs due news' → St c g L m (pre ++ news') s' → Q () s') :
    wpAny (model PRG w) A (setItem (.ref e.wd) (.str "high" t) (.int h' t')) Q E s := by
  obtain ⟨o, hi, bits, hits, frs, tvs, ns, nb, nh, nf, nt, vdu, fx, hp, hd, hR, hH, hF, hT, hTz, hD⟩ := W
  exact r_wset_high (S.perm (pm pre hp)) hd (fun _ => .hd) fun o' s' hd' S2 => k _ s' ⟨o', t', bits, hits, frs, tvs, ns, nb, nh, nf, nt, vdu, fx, .refl _, hd', hR, hH, hF, hT, hTz, hD⟩ (S2.perm (pmB pre))
theorem s_due {t : Tok} {d k' : Nat} {t1 t2 t3 : Tok} {x : Str × Int} {Q : Unit → Shared → Prop} (S : St c g L m ((d, tup [.str x.1 t1, .int e.fni t2, .int x.2 t3] k') :: (pre ++ news)) s) (W : WR w e rows hs high dead fs due news) (k : ∀ news' s', WR w e rows hs high dead fs (some x) news' → St c g L m (pre ++ news') s' → Q () s') :
    wpAny (model PRG w) A (setItem (.ref e.wd) (.str "due" t) (.ref d)) Q E s := by
  have S := S.perm (List.perm_middle (l₁ := pre)).symm
  obtain ⟨o, hi, bits, hits, frs, tvs, ns, nb, nh, nf, nt, vdu, fx, hp, hd, hR, hH, hF, hT, hTz, _⟩ := WRep.absorb (q := (d, tup [.str x.1 t1, .int e.fni t2, .int x.2 t3] k')) W
  refine r_wset_due (S.perm (pm pre hp)) hd (fun _ => .hd) fun o' s' hd' S2 => k _ s' ⟨o', hi, bits, hits, frs, tvs, ns, nb, nh, nf, nt, .ref d, fx, .refl _, hd', hR, hH, hF, hT, hTz, d, k', t1, t2, t3, rfl, ?_⟩ (S2.perm (pmB pre))
  have hm := hp.mem_iff.mp (List.Mem.head _)
  have ne : ∀ (o₁ o₂ : Obj), o₁.cls ≠ o₂.cls → ∀ a, ((d, o₁) : Addr × Obj) ≠ (a, o₂) := fun o₁ o₂ h a q => h (congrArg (fun z => z.2.cls) q)
  rcases List.mem_cons.mp hm with q | hm
  · exfalso
    have : (tup [.str x.1 t1, .int e.fni t2, .int x.2 t3] k') = o := congrArg Prod.snd q
    subst this
    obtain ⟨_, _, _, q, _⟩ := hd
    cases q
  · rcases List.mem_cons.mp hm with q | hm
    · exact absurd q (ne _ _ (by simp) _)
    · rcases List.mem_cons.mp hm with q | hm
      · exact absurd q (ne _ _ (by simp) _)
      · rcases List.mem_cons.mp hm with q | hm
        · exact absurd q (ne _ _ (by simp) _)
        · rcases List.mem_cons.mp hm with q | hm
          · exact absurd q (ne _ _ (by simp) _)
          · exact hm
theorem l_frames (S : St c g L m (pre ++ news) s) (W : WR w e rows hs high dead fs due news) (hz : fs.length ≤ 100) (k : ∀ t s', St c g L m (pre ++ news) s' → Q (.int fs.length t) s') :
    wpAny (model PRG w) A (call (.builtin "len") [.ref e.fr]) Q E s := by
  obtain ⟨o, hi, bits, hits, frs, tvs, ns, nb, nh, nf, nt, vdu, fx, hp, hd, hR, hH, hF, hT, hTz, hD⟩ := W
  refine r_len S (List.mem_append_right _ (hp.mem_iff.mpr (.tail _ (.tail _ (.tail _ (.head _)))))) (by rw [hF.len]; lia) ?_
  rw [hF.len]
  exact k
theorem l_body (S : St c g L m (pre ++ news) s) (W : WR w e rows hs high dead fs due news) (hz : rows.length ≤ 1000) (k : ∀ t s', St c g L m (pre ++ news) s' → Q (.int rows.length t) s') :
    wpAny (model PRG w) A (call (.builtin "len") [.ref e.b]) Q E s := by
  obtain ⟨o, hi, bits, hits, frs, tvs, ns, nb, nh, nf, nt, vdu, fx, hp, hd, hR, hH, hF, hT, hTz, hD⟩ := W
  refine r_len S (List.mem_append_right _ (hp.mem_iff.mpr (.tail _ (.head _)))) (by rw [hR.len]; lia) ?_
  rw [hR.len]
  exact k
end
end Mine
end
section
open PySem PySem.W PyProof.Rows PySem.Calls PySem.Spec
set_option maxHeartbeats 2000000
namespace Mine
section
variable {w : World} {base : Heap} {outer : List Env} {env : Env} {A : Around} {c : Shared} {g g' : Heap} {L L' : Addr} {n : Nat} {m m' : Loc} {news news' : Led} {s : Shared} {E : Value → Shared → Prop}
theorem r_unpackItems {t : Addr} {vs : List Value} {kt k : Nat} {Q : List Value → Shared → Prop} (C : Cx w base outer env A g L n) (S : St c g L m ((t, tup vs kt) :: news) s) (hk : k = vs.length) (h : ∀ s', St c g L m news s' → Q vs s') :
    wpAny (model PRG w) A (unpackItems (.ref t) k none) Q E s := by
  subst hk
  have e : vs.length = vs.toArray.size := by simp
  rw [e]
  exact unpackItems_tuple (items := vs.toArray) C.hn ⟨_, S.get (.head _), rfl, _, rfl⟩ fun h' he => h _ (S.tail.extNew (tk := s.toks) he)
theorem At.same {x : Addr × Obj} {l l' : Led} (U : At x x l l') : l = l' := by
  obtain ⟨pre, post, rfl, rfl⟩ := U.split
  rfl
theorem ints_snoc {vs : List Value} {v : Value} {ns : List Int} (hi : IntsAre (vs ++ [v]) ns) : ∃ ns1 x tx, ns = ns1 ++ [x] ∧ v = .int x tx ∧ IntsAre vs ns1 := by
  induction vs generalizing ns with
  | nil =>
    cases hi with
    | cons n t h =>
      cases h
      exact ⟨[], n, t, rfl, rfl, .nil⟩
  | cons a vs ih =>
    cases hi with
    | cons n t h =>
      obtain ⟨ns1, x, tx, rfl, e, h1⟩ := ih h
      exact ⟨n :: ns1, x, tx, rfl, e, .cons n t h1⟩
theorem c_nextU {tp : Addr} {nt : Nat} {tvs : List Value} {ns : List Int} {news' : List Value → Nat → Led} {Q : Value → Shared → Prop} (C : Cx w base outer env A g L 1) (S : St c g L m news s) (U : ∀ vs' n', At (tp, lst tvs nt) (tp, lst vs' n') news (news' vs' n')) (hi : IntsAre tvs ns) (hz : tvs.length ≤ 100000)
    (k : ∀ x t tvs' ns' nt' s', IntsAre tvs' ns' → tvs'.length ≤ 100000 → St c g L m (news' tvs' nt') s' → Q (.int x t) s') :
    wpAny (model PRG w) A (call (.ref 406) [.ref tp]) Q E s := by
  rcases List.eq_nil_or_concat tvs with rfl | ⟨vs, v, rfl⟩
  · have e := (U [] nt).same
    exact c_next0 C S (U [] nt).mem fun t s' S' => k _ _ _ _ _ _ .nil (by decide) (e ▸ S')
  · rw [List.concat_eq_append] at *
    obtain ⟨ns1, x, tx, rfl, rfl, h1⟩ := ints_snoc hi
    exact c_next1 C S (U _ _) hi (by simp at hz; lia) fun s' S' => k _ _ _ _ _ _ h1 (by simp at hz; lia) S'
theorem r_orderB {x : Str} {fs : List (Value → Sem Unit)} {v : Value} {vs : List Value} {Q : Unit → Shared → Prop} (k : wpAny (model PRG w) A (storeName env x v) (fun _ s' => wpAny (model PRG w) A (assignInOrder fs vs) Q E s') E s) :
    wpAny (model PRG w) A (assignInOrder (bindName env x :: fs) (v :: vs)) Q E s := r_orderC (bindName_ k)
end
end Mine
end
section
open PySem PySem.W PyProof.Rows PySem.Calls PySem.Spec
set_option maxHeartbeats 2000000
namespace Mine
noncomputable def LW (w : World) (e : WE) (lo B high : Nat) (dW dI : Bool) (fsW fsI : List Fm) (D : Bool) (news : Led) : Prop :=
  ∃ rows hs due, WR w e rows hs high dW fsW due news ∧ WI e.K e.F e.P rows hs high dI fsI due ∧ due.isSome = D ∧ lo ≤ rows.length ∧ rows.length ≤ B
noncomputable def LP (w : World) (e : WE) (lo B high : Nat) (fsW fsI : List Fm) (why : Str) (news : Led) : Prop :=
  ∃ rows hs, WR w e rows hs high false fsW (some (why, (rows.length : Int))) news ∧ WI e.K e.F e.P rows hs high false fsI none ∧ lo ≤ rows.length ∧ rows.length ≤ B
section
variable {w : World} {base : Heap} {outer : List Env} {env : Env} {A : Around} {c : Shared} {g : Heap} {L : Addr} {n : Nat} {m : Loc} {news pre : Led} {s : Shared} {Q E : Value → Shared → Prop} {e : WE} {lo B high high' : Nat} {dW dI d d' : Bool} {fs fsW fsI fsI' : List Fm} {D : Bool} {why : Str}
theorem LW.le {B' : Nat} (W : LW w e lo B high dW dI fsW fsI D news) (h : B ≤ B') : LW w e lo B' high dW dI fsW fsI D news := by
  obtain ⟨rows, hs, due, W1, W2, h1, h2, h3⟩ := W
  exact ⟨rows, hs, due, W1, W2, h1, h2, by lia⟩
theorem LW.lo0 {lo' : Nat} (W : LW w e lo B high dW dI fsW fsI D news) (h : lo' ≤ lo) : LW w e lo' B high dW dI fsW fsI D news := by
  obtain ⟨rows, hs, due, W1, W2, h1, h2, h3⟩ := W
  exact ⟨rows, hs, due, W1, W2, h1, by lia, h3⟩
theorem LW.absorb {q : Addr × Obj} (W : LW w e lo B high dW dI fsW fsI D news) : LW w e lo B high dW dI fsW fsI D (q :: news) := by
  obtain ⟨rows, hs, due, W1, W2, h1, h2, h3⟩ := W
  exact ⟨rows, hs, due, W1.absorb, W2, h1, h2, h3⟩
theorem c_emitL {r : Addr} {vs : List Value} {ki : Nat} {row : List Int} {ch : Int} {t2 : Tok}
    (C : Cx w base outer env A g L 3) (S : St c g L m ((r, tup vs ki) :: (pre ++ news)) s) (W : LW w e lo B high d d fsW fsI D news) (hr : IntsAre vs row) (hch : (high : Int) + ch = high')
    (hB : B ≤ 300) (hh : high ≤ 300) (ht : topH fsI ≤ 300) (hf : fsI.length ≤ 300) (st : D = false → PS1 e.K e.F e.P d high fsI row d' high' fsI')
    (k : ∀ news' s', LW w e 1 (B + 1) high' d d' fsW fsI' D news' → St c g L m (pre ++ news') s' → Q .none s') :
    wpAny (model PRG w) A (call (.ref 413) [.ref e.wd, .ref r, .int ch t2]) Q E s := by
  obtain ⟨rows, hs, due, W1, W2, h1, h2, h3⟩ := W
  refine c_emitW C S W1 hr (by lia) (by rw [W2.len]; lia) hch fun news' s' W' S' => k news' s' ⟨_, _, due, W', W2.on (by lia) (by lia) (by lia) (fun h => st (by rw [← h1, h]; rfl)), h1, ?_, ?_⟩ S'
  · rw [List.length_append]; exact Nat.le_add_left _ _
  · rw [List.length_append]; exact Nat.add_le_add_right h3 1
theorem c_failL {r : Addr} {vs : List Value} {ki : Nat} {row : List Int} {ch : Int} {t2 : Tok} (d' : Bool) (fsI' : List Fm)
    (C : Cx w base outer env A g L 3) (S : St c g L m ((r, tup vs ki) :: (pre ++ news)) s) (W : LP w e lo B high fsW fsI why news) (hr : IntsAre vs row) (hch : (high : Int) + ch = high')
    (hB : B ≤ 300) (hh : high ≤ 300) (hf : fsI.length ≤ 300) (st : StepX e.K e.F e.P ⟨high, blocksOf fsI⟩ row why)
    (k : ∀ news' s', LW w e 1 (B + 1) high' false d' fsW fsI' true news' → St c g L m (pre ++ news') s' → Q .none s') :
    wpAny (model PRG w) A (call (.ref 413) [.ref e.wd, .ref r, .int ch t2]) Q E s := by
  obtain ⟨rows, hs, W1, W2, h2, h3⟩ := W
  refine c_emitW C S W1 hr (by lia) (by rw [W2.len]; lia) hch fun news' s' W' S' => k news' s' ⟨_, _, _, W', W2.fail (by lia) (by lia) st, rfl, ?_, ?_⟩ S'
  · rw [List.length_append]; exact Nat.le_add_left _ _
  · rw [List.length_append]; exact Nat.add_le_add_right h3 1
theorem c_badL {tw : Tok} (C : Cx w base outer env A g L 1) (S : St c g L m (pre ++ news) s) (W : LW w e lo B high false false fsW fsI false news) (hB : B ≤ 300)
    (k : ∀ news' s', LP w e lo B high fsW fsI why news' → St c g L m (pre ++ news') s' → Q .none s') :
    wpAny (model PRG w) A (call (.ref 420) [.ref e.wd, .str why tw]) Q E s := by
  obtain ⟨rows, hs, due, W1, W2, h1, h2, h3⟩ := W
  cases due with
  | some x => cases h1
  | none => exact c_badW0 C S W1 (by lia) fun news' s' W' S' => k news' s' ⟨rows, hs, W', W2, h2, h3⟩ S'
theorem c_nextL (C : Cx w base outer env A g L 1) (S : St c g L m (pre ++ news) s) (W : LW w e lo B high dW dI fsW fsI D news)
    (k : ∀ x t news' s', LW w e lo B high dW dI fsW fsI D news' → St c g L m (pre ++ news') s' → Q (.int x t) s') :
    wpAny (model PRG w) A (call (.ref 406) [.ref e.tp]) Q E s := by
  obtain ⟨rows, hs, due, W1, W2, h1, h2, h3⟩ := W
  exact c_nextW C S W1 fun x t news' s' W' S' => k x t news' s' ⟨rows, hs, due, W', W2, h1, h2, h3⟩ S'
theorem c_nextP (C : Cx w base outer env A g L 1) (S : St c g L m (pre ++ news) s) (W : LP w e lo B high fsW fsI why news)
    (k : ∀ x t news' s', LP w e lo B high fsW fsI why news' → St c g L m (pre ++ news') s' → Q (.int x t) s') :
    wpAny (model PRG w) A (call (.ref 406) [.ref e.tp]) Q E s := by
  obtain ⟨rows, hs, W1, W2, h2, h3⟩ := W
  exact c_nextW C S W1 fun x t news' s' W' S' => k x t news' s' ⟨rows, hs, W', W2, h2, h3⟩ S'
theorem c_spotL {many : Int} {tm : Tok} (C : Cx w base outer env A g L 2) (S : St c g L m (pre ++ news) s) (W : LW w e lo B high dW dI fsW fsI D news)
    (k : ∀ v t news' s', v = many - 1 ∨ v = many ∨ v = many + 5 → LW w e lo B high dW dI fsW fsI D news' → St c g L m (pre ++ news') s' → Q (.int v t) s') :
    wpAny (model PRG w) A (call (.ref 441) [.ref e.tp, .int many tm]) Q E s := by
  obtain ⟨rows, hs, due, W1, W2, h1, h2, h3⟩ := W
  exact c_spotW C S W1 fun v t news' s' hv W' S' => k v t news' s' hv ⟨rows, hs, due, W', W2, h1, h2, h3⟩ S'
section
variable {value slice : Expr} {t : Tok}
theorem gl_frames (S : St c g L m (pre ++ news) s) (W : LW w e lo B high dW dI fsW fsI D news) (k : ∀ s', St c g L m (pre ++ news) s' → Q (.ref e.fr) s')
    (hs' : subscripted slice false (.ref e.wd) (.str "frames" t) = operate [.ref e.wd, .str "frames" t] (getItem (.ref e.wd) (.str "frames" t)) := by with_unfolding_all rfl) :
    wpAny (model PRG w) A (subscriptTail value slice (.ref e.wd) (.str "frames" t)) Q E s := by
  obtain ⟨rows, hs, due, W1, _⟩ := W
  exact g_frames S W1 k hs'
theorem gl_high (S : St c g L m (pre ++ news) s) (W : LW w e lo B high dW dI fsW fsI D news) (k : ∀ t s', St c g L m (pre ++ news) s' → Q (.int high t) s')
    (hs' : subscripted slice false (.ref e.wd) (.str "high" t) = operate [.ref e.wd, .str "high" t] (getItem (.ref e.wd) (.str "high" t)) := by with_unfolding_all rfl) :
    wpAny (model PRG w) A (subscriptTail value slice (.ref e.wd) (.str "high" t)) Q E s := by
  obtain ⟨rows, hs, due, W1, _⟩ := W
  exact g_high S W1 k hs'
end
theorem sl_dead {t : Tok} {Q : Unit → Shared → Prop} (S : St c g L m (pre ++ news) s) (W : LW w e lo B high dW dI fsW fsI D news) (k : ∀ news' s', LW w e lo B high d' dI fsW fsI D news' → St c g L m (pre ++ news') s' → Q () s') :
    wpAny (model PRG w) A (setItem (.ref e.wd) (.str "dead" t) (.bool d')) Q E s := by
  obtain ⟨rows, hs, due, W1, W2, h1, h2, h3⟩ := W
  exact s_dead S W1 fun news' s' W' S' => k news' s' ⟨rows, hs, due, W', W2, h1, h2, h3⟩ S'
theorem sl_high {t t' : Tok} {Q : Unit → Shared → Prop} (S : St c g L m (pre ++ news) s) (W : LW w e lo B high dW dI fsW fsI D news) (k : ∀ news' s', LW w e lo B high dW dI fsW fsI D news' → St c g L m (pre ++ news') s' → Q () s') :
    wpAny (model PRG w) A (setItem (.ref e.wd) (.str "high" t) (.int high t')) Q E s := by
  obtain ⟨rows, hs, due, W1, W2, h1, h2, h3⟩ := W
  exact s_high S W1 fun news' s' W' S' => k news' s' ⟨rows, hs, due, W', W2, h1, h2, h3⟩ S'
theorem ll_frames (S : St c g L m (pre ++ news) s) (W : LW w e lo B high dW dI fsW fsI D news) (hz : fsW.length ≤ 100) (k : ∀ t s', St c g L m (pre ++ news) s' → Q (.int fsW.length t) s') :
    wpAny (model PRG w) A (call (.builtin "len") [.ref e.fr]) Q E s := by
  obtain ⟨rows, hs, due, W1, _⟩ := W
  exact l_frames S W1 hz k
theorem gm_frames {name : Str} {id : String} {pl : Sem Bool} {Q : Value × List Value → Shared → Prop} (S : St c g L m (pre ++ news) s) (W : LW w e lo B high dW dI fsW fsI D news) (slot : Slot "list" name id) (hty : typeOf (.builtin id) = pure (.type "method_descriptor")) (k : Q (.builtin id, [.ref e.fr]) s) :
    wpAny (model PRG w) A (getMethod (.ref e.fr) name pl) Q E s := by
  obtain ⟨rows, hs, due, ⟨o, hi, bits, hits, frs, tvs, ns, nb, nh, nf, nt, vdu, fx, hp, hd, hR, hH, hF, hT, hTz, hD⟩, W2, h1, h2, h3⟩ := W
  exact r_getml S (List.mem_append_right _ (hp.mem_iff.mpr (.tail _ (.tail _ (.tail _ (.head _)))))) slot hty k
theorem al_frames {f : Fm} {fa kf : Nat} {t1 t2 t3 : Tok} (S : St c g L m ((fa, lst [.int f.sort t1, .int f.over t2, .int f.base t3] kf) :: (pre ++ news)) s) (W : LW w e lo B high dW dI fsW fsI D news) (hz : fsW.length ≤ 100)
    (k : ∀ news' s', LW w e lo B high dW dI (f :: fsW) fsI D news' → St c g L m (pre ++ news') s' → Q .none s') :
    wpAny (model PRG w) A (call (.builtin "list.append") [.ref e.fr, .ref fa]) Q E s := by
  obtain ⟨rows, hs, due, ⟨o, hi, bits, hits, frs, tvs, ns, nb, nh, nf, nt, vdu, fx, hp, hd, hR, hH, hF, hT, hTz, hD⟩, W2, h1, h2, h3⟩ := W
  have S1 := S.perm (.cons _ (pm pre hp))
  refine r_append S1 (.tl (.tl (.tl (.tl .hd)))) (by rw [hF.len, sizeLine_eq]; lia) fun s' S2 => ?_
  have hsub : ∀ q ∈ fx, q ∈ (fa, lst [.int f.sort t1, .int f.over t2, .int f.base t3] kf) :: fx := fun q hq => .tail _ hq
  refine k _ s' ⟨rows, hs, due, ⟨o, hi, bits, hits, frs ++ [.ref fa], tvs, ns, nb, nh, nf + 1, nt, vdu, (fa, lst [.int f.sort t1, .int f.over t2, .int f.base t3] kf) :: fx, .refl _, hd, hR.mono hsub, hH, .cons (.head _) (hF.mono hsub), hT, hTz, hD.mono hsub⟩, W2, h1, h2, h3⟩ (S2.perm ?_); refine List.Perm.trans ?_ (pmB pre); exact (List.perm_append_comm_assoc [_] [_, _, _, _, _] (pre ++ fx)).trans (.cons _ (.cons _ (.cons _ (.cons _ (.cons _ (List.perm_middle (l₁ := pre) (l₂ := fx)).symm)))))
theorem pl_frames {f : Fm} {fs : List Fm} (S : St c g L m (pre ++ news) s) (W : LW w e lo B high dW dI (f :: fs) fsI D news) (hz : fs.length ≤ 100)
    (k : ∀ fa kf t1 t2 t3 news' s', (fa, lst [.int f.sort t1, .int f.over t2, .int f.base t3] kf) ∈ news' → LW w e lo B high dW dI fs fsI D news' → St c g L m (pre ++ news') s' → Q (.ref fa) s') :
    wpAny (model PRG w) A (call (.builtin "list.pop") [.ref e.fr]) Q E s := by
  obtain ⟨rows, hs, due, ⟨o, hi, bits, hits, frs, tvs, ns, nb, nh, nf, nt, vdu, fx, hp, hd, hR, hH, hF, hT, hTz, hD⟩, W2, h1, h2, h3⟩ := W
  cases hF with
  | @cons fa kf t1 t2 t3 vs _ _ hm hF =>
    refine r_pop (S.perm (pm pre hp)) (.tl (.tl (.tl .hd))) (by rw [hF.len, sizeLine_eq]; lia) fun s' S2 => ?_; exact k fa kf t1 t2 t3 _ s' (.tail _ (.tail _ (.tail _ (.tail _ (.tail _ hm))))) ⟨rows, hs, due, ⟨o, hi, bits, hits, vs, tvs, ns, nb, nh, nf + 1, nt, vdu, fx, .refl _, hd, hR, hH, hF, hT, hTz, hD⟩, W2, h1, h2, h3⟩ (S2.perm (pmB pre))
theorem il_frames {value slice : Expr} {u : Tok} {f : Fm} {fs : List Fm} (S : St c g L m (pre ++ news) s) (W : LW w e lo B high dW dI (f :: fs) fsI D news) (hz : fs.length ≤ 100)
    (k : ∀ fa kf t1 t2 t3, (fa, lst [.int f.sort t1, .int f.over t2, .int f.base t3] kf) ∈ news → Q (.ref fa) s)
    (hs : subscripted slice false (.ref e.fr) (.int (-1) u) = operate [.ref e.fr, .int (-1) u] (getItem (.ref e.fr) (.int (-1) u)) := by with_unfolding_all rfl) :
    wpAny (model PRG w) A (subscriptTail value slice (.ref e.fr) (.int (-1) u)) Q E s := by
  obtain ⟨rows, hs, due, ⟨o, hi, bits, hits, frs, tvs, ns, nb, nh, nf, nt, vdu, fx, hp, hd, hR, hH, hF, hT, hTz, hD⟩, W2, h1, h2, h3⟩ := W
  cases hF with
  | @cons fa kf t1 t2 t3 vs _ _ hm hF =>
    exact r_last S (List.mem_append_right _ (hp.mem_iff.mpr (.tail _ (.tail _ (.tail _ (.head _)))))) (by rw [hF.len]; lia) (k fa kf t1 t2 t3 (hp.mem_iff.mpr (.tail _ (.tail _ (.tail _ (.tail _ (.tail _ hm))))))) (by assumption)
end
end Mine
end
section
open PySem PySem.W PyProof.Rows PySem.Calls PySem.Spec
set_option maxHeartbeats 2000000
namespace Mine
section
variable {prog : Program} {w : World} {A : Around} {E : Value → Shared → Prop} {s : Shared}
theorem draw_list {it t : Addr} {items : Array Value} (hne : t ≠ it) : ∀ (n i : Nat) (s : Shared) (Q : List Value → Shared → Prop), s.heap.IsListIter it t i → s.heap.IsList t items → i + n ≤ items.size →
    (∀ h', h'.IsListIter it t (i + n) → Heap.SameBut it s.heap h' → Q ((items.toList.drop i).take n) { s with heap := h' }) → wpAny (model prog w) A (draw (.ref it) n) Q E s
  | 0, i, s, Q, hit, _, _, hQ => by
    show wpAny _ _ (pure []) Q E s
    exact wpAny_pure (by simpa using hQ s.heap hit (Heap.SameBut.refl ..))
  | n + 1, i, s, Q, hit, ht, hle, hQ => by
    have hlt : i < items.size := by lia
    show wpAny _ _ (pyNext (.ref it) >>= _) Q E s
    refine wpAny_bind (wpAny_pyNext_list_item hit ht (x := items[i]) (by simp [hlt]) fun h₁ hit₁ hs₁ => ?_)
    have ht₁ : h₁.IsList t items := by
      obtain ⟨ol, hol, hc, nl, hdl⟩ := ht
      exact ⟨ol, (hs₁.2 t hne).trans hol, hc, nl, hdl⟩
    refine wpAny_bind (wpAny_holding (draw_list hne n (i + 1) _ _ hit₁ ht₁ (by lia) fun h₂ hit₂ hs₂ => wpAny_pure ?_))
    have hd : items.toList.drop i = items[i] :: items.toList.drop (i + 1) := by simp [List.drop_eq_getElem_cons, hlt]
    have := hQ h₂ (by rw [show i + (n + 1) = i + 1 + n by lia]; exact hit₂) (hs₁.trans hs₂)
    rw [hd, List.take_succ_cons] at this
    exact this
theorem unpackItems_list {t : Addr} {items : Array Value} {Q : List Value → Shared → Prop} (hh : A.handled = none) (ht : s.heap.IsList t items)
    (hQ : ∀ h', Heap.ExtBut s.heap.objs.size s.heap h' → Q items.toList { s with heap := h' }) : wpAny (model prog w) A (unpackItems (.ref t) items.size none) Q E s := by
  have hlt : t ≠ s.heap.objs.size := by obtain ⟨o, ho, _⟩ := ht; exact Nat.ne_of_lt (Heap.lt_size ho)
  have keepL : ∀ {h₁ h₂ : Heap}, Heap.ExtBut s.heap.objs.size h₁ h₂ → h₁.IsList t items → h₂.IsList t items := fun hx ⟨ol, hol, hc, nl, hdl⟩ => ⟨ol, hx t ol hlt hol, hc, nl, hdl⟩
  have htp : ∀ o, (s.heap.push o).IsList t items := fun o => by
    obtain ⟨ol, hol, hc, nl, hdl⟩ := ht
    exact ⟨ol, Heap.get?_push_of_some _ hol, hc, nl, hdl⟩
  unfold unpackItems
  refine wpAny_bind ?_
  · unfold notIterableAtAll
    refine wpAny_bind (wpAny_specialOf ht.typeIs slot_list_iter.lookup ?_); refine wpAny_pure ?_
    simp only [Bool.false_eq_true, if_false]
    refine wpAny_bind (wpAny_holding (wpAny_pyIter_list ht ?_)); refine wpAny_bind (wpAny_holding (draw_list hlt items.size 0 _ _ ⟨_, Heap.get?_push_size _ rfl, rfl, rfl⟩ (htp _) (by lia) fun h₁ hit₁ hs₁ => ?_))
    have hall : List.take items.size (List.drop 0 items.toList) = items.toList := by
      rw [List.drop_zero]; exact List.take_of_length_le (by simp)
    rw [hall]
    rw [if_neg (by simp)]
    have ht₁ : h₁.IsList t items := keepL hs₁.extBut (htp _)
    refine wpAny_bind (wpAny_holding (wpAny_pyNext_list_end hh hit₁ ht₁ (by simp) fun h₂ he₂ => ?_))
    simp only [Option.isSome_none, Bool.false_eq_true, if_false]
    refine wpAny_pure (hQ h₂ fun b o hb e => he₂ b o hb (hs₁.extBut b o hb (Heap.get?_push_of_some _ e)))
theorem assign_Tuple_list {env : Env} {elts : List Expr} {x1} {pos : Pos} {t : Addr} {items : Array Value} {Q : Unit → Shared → Prop} (hh : A.handled = none) (ht : s.heap.IsList t items)
    (hn : (assignEach elts env).length = items.size) (hstar : (assignEach elts env).findIdx? (·.1) = none)
    (h : ∀ h', Heap.ExtBut s.heap.objs.size s.heap h' → wpAny (model prog w) A (assignInOrder ((assignEach elts env).map (·.2)) items.toList) Q E { s with heap := h' }) :
    wpAny (model prog w) A (assign (.Tuple elts x1 pos) env (.ref t)) Q E s := by
  rw [PyProof.Rows.assign_Tuple]
  refine wpAny_bind (wpAny_standAt ?_)
  unfold unpack
  rw [hn, hstar]
  exact wpAny_bind (wpAny_holding (unpackItems_list hh ht h))
end
section
variable {w : World} {base : Heap} {outer : List Env} {env : Env} {A : Around} {c : Shared} {g : Heap} {L : Addr} {n : Nat} {m : Loc} {news : Led} {s : Shared} {E : Value → Shared → Prop}
theorem r_unpackL {elts : List Expr} {k0} {pos : Pos} {t : Addr} {vs : List Value} {kt : Nat} {Q : Unit → Shared → Prop} (C : Cx w base outer env A g L n) (S : St c g L m news s) (ht : (t, lst vs kt) ∈ news)
    (hn : (assignEach elts env).length = vs.length) (hstar : (assignEach elts env).findIdx? (·.1) = none)
    (k : ∀ s', St c g L m news s' → wpAny (model PRG w) A (assignInOrder ((assignEach elts env).map (·.2)) vs) Q E s') :
    wpAny (model PRG w) A (assign (.Tuple elts k0 pos) env (.ref t)) Q E s :=
  assign_Tuple_list (items := vs.toArray) C.hn ⟨_, S.get ht, rfl, _, rfl⟩ (by simpa using hn) hstar fun h' hx => k _ (S.extNew (tk := s.toks) hx)
variable {pre : Led} {e : WE} {lo B high high' : Nat} {dW dI d d' : Bool} {fs fsW fsI fsI' : List Fm} {D : Bool} {why : Str} {Q : Value → Shared → Prop}
theorem c_dropL {r : Addr} {t t2 : Tok} {ki : Nat} (C : Cx w base outer env A g L 3) (S : St c g L m ((r, tup [.int 26 t] ki) :: (pre ++ news)) s) (W : LW w e lo B (high + 1) false false fsW fsI D news) (hB : B ≤ 300) (hh : high ≤ 200) (ht : topH fsI ≤ high) (hf : fsI.length ≤ 300)
    (k : ∀ news' s', LW w e 1 (B + 1) high false false fsW fsI D news' → St c g L m (pre ++ news') s' → Q .none s') :
    wpAny (model PRG w) A (call (.ref 413) [.ref e.wd, .ref r, .int (-1) t2]) Q E s :=
  c_emitL C S W (.cons _ _ .nil) (by rw [Int.natCast_succ]; exact Int.add_neg_cancel_right _ _) hB (by lia) (by lia) hf (fun _ => ps_drop ht) k
theorem c_constL {r : Addr} {x : Int} {t t1 t2 : Tok} {ki : Nat} (C : Cx w base outer env A g L 3) (S : St c g L m ((r, tup [.int 65 t, .int x t1] ki) :: (pre ++ news)) s) (W : LW w e lo B high false false fsW fsI D news) (hB : B ≤ 300) (hh : high ≤ 200) (ht : topH fsI ≤ high) (hf : fsI.length ≤ 300)
    (k : ∀ news' s', LW w e 1 (B + 1) (high + 1) false false fsW fsI D news' → St c g L m (pre ++ news') s' → Q .none s') :
    wpAny (model PRG w) A (call (.ref 413) [.ref e.wd, .ref r, .int 1 t2]) Q E s :=
  c_emitL C S W (.cons _ _ (.cons _ _ .nil)) (Int.natCast_succ _).symm hB (by lia) (by lia) hf (fun _ => ps_const ht) k
end
end Mine
end
section
open PySem PySem.W PyProof.Rows PySem.Calls PySem.Spec
set_option maxHeartbeats 1000000
namespace Mine

theorem r_intBool {w : World} {A : Around} {c : Shared} {g : Heap} {L : Addr} {m : Loc} {news : Led} {s : Shared} {E : Value → Shared → Prop} {b : Bool} {Q : Value → Shared → Prop} (S : St c g L m news s) (k : ∀ t s', St c g L m news s' → Q (.int (if b then 1 else 0) t) s') : wpAny (model PRG w) A (call (.type "int") [.bool b]) Q E s := by
  exact call_int_bool (k _ _ S.tok)
theorem r_pick4 {w : World} {A : Around} {c : Shared} {g : Heap} {L : Addr} {m : Loc} {news : Led} {s : Shared} {Q E : Value → Shared → Prop} {value slice : Expr} {a : Addr} {t1 t2 t3 t4 u : Tok} {k' so : Nat} (S : St c g L m news s) (ha : (a, lst [.int 2 t1, .int 3 t2, .int 4 t3, .int 4 t4] k') ∈ news) (h : so < 4)
    (k : ∀ code tc, code = (if so = 0 then 2 else if so = 1 then 3 else (4 : Int)) → Q (.int code tc) s)
    (hs : subscripted slice false (.ref a) (.int so u) = operate [.ref a, .int so u] (getItem (.ref a) (.int so u)) := by with_unfolding_all rfl) :
    wpAny (model PRG w) A (subscriptTail value slice (.ref a) (.int so u)) Q E s := by
  obtain ⟨code, tc, hx, hc⟩ : ∃ (code : Int) (tc : Tok), ([.int 2 t1, .int 3 t2, .int 4 t3, .int 4 t4] : List Value)[((so : Int)).toNat]? = some (.int code tc) ∧ code = (if so = 0 then 2 else if so = 1 then 3 else (4 : Int)) := by
    rcases so with _ | _ | _ | _ | so
    · exact ⟨_, _, rfl, rfl⟩
    · exact ⟨_, _, rfl, rfl⟩
    · exact ⟨_, _, rfl, rfl⟩
    · exact ⟨_, _, rfl, rfl⟩
    · lia
  exact r_item S ha (by lia) (by lia) hx (k code tc hc) hs
theorem fmodN (x : Int) (k : Nat) (hk : 0 < k) : ∃ n : Nat, x.fmod k = n ∧ n < k := by
  have h1 := Int.fmod_nonneg_of_pos x (b := k) (by lia)
  have h2 := Int.fmod_lt_of_pos x (b := k) (by lia)
  exact ⟨(x.fmod k).toNat, by lia, by lia⟩
section
theorem c_openL {w : World} {base : Heap} {outer : List Env} {env : Env} {A : Around} {c : Shared} {g : Heap} {L : Addr} {m : Loc} {news : Led} {s : Shared} {Q E : Value → Shared → Prop} {pre : Led} {e : WE} {lo B high : Nat} {fs : List Fm} (C : Cx w base outer env A g L 5)
    (S : St c g L m (pre ++ news) s) (W : LW w e lo B high false false fs fs false news) (hB : B ≤ 200) (hh : high = topH fs) (hz2 : high ≤ 100) (hz3 : fs.length ≤ 50)
    (k : ∀ f news' s', LW w e 1 (B + 5) f.base false false (f :: fs) (f :: fs) false news' → f.base = high + f.over → f.over ≤ 2 → (f.sort = 2 ↔ f.code = 4) → St c g L m (pre ++ news') s' → Q .none s') :
    wpAny (model PRG w) A (call (.ref 427) [.ref e.tp, .ref e.wd]) Q E s := by
  refine' r_def C S (binds := [("world", .ref e.wd), ("tape", .ref e.tp)]) ?ho ?hcd ?hb ?hl ?_ ?c1 ?c2 ?c3 ?c4
  case ho => k_is
  case hcd => k_is
  case hb => exact BindsTo.of_eq rfl
  case hl => exact locs rfl
  case c1 => decide
  case c2 => exact rfl
  case c3 => exact rfl
  case c4 => exact rfl
  intro g1 L1 s1 C1 S1 F1; k_fold; refine r_cons ?_; refine Assign_Tuple_swapped ?_; refine Tuple_ ?_; refine spliced_more ?_; refine wpAny_BinOp ?_; (with_reducible refine q_call0 C1 g0 S1 (gl_law_next w) (keep_406 w) ?_); refine c_nextL (pre := pre) (C1.le (by decide)) S1 W fun x13 t13 news13 s13 W S13 => ?_; (try simp only [cA, nA] at S13); clear S1; refine r_int S13 fun t14 s14 S14 => ?_; clear S13; refine r_mod S14 (by decide) fun t15 s15 S15 => ?_; clear S14; refine spliced_more ?_; refine wpAny_BinOp ?_; (with_reducible refine q_call0 C1 g0 S15 (gl_law_next w) (keep_406 w) ?_); refine c_nextL (pre := pre) (C1.le (by decide)) S15 W fun x25 t25 news25 s25 W S25 => ?_; (try simp only [cA, nA] at S25); clear S15; refine r_int S25 fun t26 s26 S26 => ?_; clear S25; refine r_mod S26 (by decide) fun t27 s27 S27 => ?_; clear S26; refine spliced_none ?_; refine r_tuple S27 (Nat.le_of_ble_eq_true rfl) fun a29 s29 S29 => ?_; clear S27; refine r_unpackItems C1 S29 rfl fun s30 S30 => ?_; clear S29; refine r_orderB ?_; refine r_store S30 fun s32 S32 => ?_; clear S30; refine r_orderB ?_; refine r_store S32 fun s34 S34 => ?_; clear S32; refine r_order0 ?_; refine seq_next ?_; refine r_cons ?_; refine wpAny_For ?_; refine r_call ?_; refine r_bui C1 S34 (gb_range w) (by boot_by_name) (by decide) ?_; refine r_callT ?_; refine spliced_more ?_; refine wpAny_BinOp ?_; refine r_loc S34 rfl ?_; (with_reducible refine q_callB C1 g0 S34 (bb_int w) .T fun τ51 α51 s51 S51 => ?_; clear S34); refine r_intBool S51 fun t54 s54 S54 => ?_; clear S51; refine r_add S54 fun t55 s55 S55 => ?_; clear S54; refine spliced_none ?_; refine r_range1 S55 fun r57 t57 u57 v57 s57 S57 => ?_; clear S55
  obtain ⟨ov, hov, hov2⟩ := fmodN x25 3 (by decide)
  obtain ⟨so, hso, hso2⟩ := fmodN x13 4 (by decide)
  obtain ⟨z, hz, hzz⟩ : ∃ z : Nat, (if decide ((1 : Int) < x13.fmod 4) = true then (1 : Int) else 0) = z ∧ ((z = 1 ∧ 1 < so) ∨ (z = 0 ∧ so ≤ 1)) := by
    by_cases h : (1 : Int) < x13.fmod 4
    · exact ⟨1, by rw [if_pos (by simpa using h)]; rfl, .inl ⟨rfl, by have : x13.fmod 4 = so := hso; lia⟩⟩
    · exact ⟨0, by rw [if_neg (by simpa using h)]; rfl, .inr ⟨rfl, by have : x13.fmod 4 = so := hso; lia⟩⟩
  have hov' : x25.fmod 3 = ov := hov
  have hso' : x13.fmod 4 = so := hso
  rw [show (x25.fmod 3 + if decide (x13.fmod 4 > 1) = true then (1 : Int) else 0) = ((ov + z : Nat) : Int) from by rw [hov']; show (ov : Int) + _ = _; rw [hz]; lia, hov', hso'] at S57
  clear hov hso hz hov' hso'; refine r_iterRange S57 .hd (small_up (k := ov + z) (by decide) (by lia) (by lia)).1 (small_up (k := ov + z) (by decide) (by lia) (by lia)).2 fun it s60 S60 => ?_; refine r_forRangeF (I := fun i news₁ => ∃ nw, news₁ = pre ++ nw ∧ LW w e 0 (B + i) (high + i) false false fs fs false nw) C1 S60 ⟨_, rfl, W.lo0 (Nat.zero_le _)⟩ (fun _ _ _ _ _ _ S k => r_asg S k) (fun i news₁ t61 s61 hi hI S61 => ?_) (fun m₁ news₁ s62 hm hI S62 => ?_)
  · try k_fold
    obtain ⟨nw, rfl, W⟩ := hI
    try k_fold
    (with_reducible refine k_ex ?_; refine q_call C1 g0 S61 (gl_law_emit w) (keep_413 w) fun τ117 α117 s117 S117 => ?_; clear S61); refine c_emitL (pre := _ :: pre) (C1.le (by decide)) S117 W (.cons _ _ (.cons _ _ .nil)) (Int.natCast_succ _).symm (by lia) (by lia) (by lia) (by lia) (fun _ => ps_const (by lia)) fun news120 s120 W S120 => ?_; (try simp only [cA, nA] at S120); clear S117; (with_reducible refine k_sn ?_); rename St _ _ _ _ _ _ => S190; exact ⟨_, ⟨_, rfl, W.lo0 (Nat.zero_le _)⟩, S190⟩
  · try k_fold
    obtain ⟨nw, rfl, W⟩ := hI
    refine seq_next ?_
    try k_fold
    (with_reducible refine k_ex ?_); refine r_call ?_; refine r_glb C1 S62 (gl_law_emit w) ?_; refine r_callK (keep_413 w) ?_; refine spliced_more ?_; refine r_loc S62 ((hm _ (by decide)).trans rfl) ?_; refine spliced_more ?_; refine Tuple_ ?_; refine spliced_more ?_; refine Subscript_ ?_; (with_reducible refine q_ev g0 S62 fun τ223 α223 s223 S223 => ?_; clear S62); refine r_loc S223 ((hm _ (by decide)).trans rfl) ?_; refine r_pick4 S223 (.head _) hso2 fun code tc hcode => ?_; (with_reducible refine q_sp g0 S223 fun τ229 α229 s229 S229 => ?_; clear S223); refine r_tuple S229 (Nat.le_of_ble_eq_true rfl) fun a231 s231 S231 => ?_; clear S229; refine spliced_more ?_; refine wpAny_BinOp ?_; refine r_int S231 fun t234 s234 S234 => ?_; clear S231; refine r_call ?_; refine r_bui C1 S234 (gb_int w) (by boot_by_name) (by decide) ?_; refine r_callT ?_; refine spliced_more ?_; refine wpAny_Compare1 ?_; refine r_loc S234 ((hm _ (by decide)).trans rfl) ?_; refine r_int S234 fun t241 s241 S241 => ?_; clear S234; refine gt_int ?_; refine spliced_none ?_; refine r_intBool S241 fun t244 s244 S244 => ?_; clear S241; refine r_sub S244 fun t245 s245 S245 => ?_; clear S244; refine spliced_none ?_; refine ⟨C1.inK S245, ?_⟩; rename St _ _ _ _ _ _ => S290
    obtain hs1 | hs2 | hs3 : so ≤ 1 ∨ so = 2 ∨ so = 3 := by lia
    · obtain rfl : z = 0 := by lia
      have hc2 : code = 2 ∨ code = 3 := by
        obtain h | h : so = 0 ∨ so = 1 := by lia
        · subst h; exact .inl hcode
        · subst h; exact .inr hcode
      refine c_emitL (pre := _ :: pre) (high' := high + ov) (d' := false) (fsI' := ⟨so, code, ov, high + ov⟩ :: fs) (C1.le (by decide)) S290 W (.cons _ _ (.cons _ _ .nil)) (by rw [if_neg (by simp only [decide_eq_true_eq]; lia)]; lia) (by lia) (by lia) (by lia) (by lia) (fun _ => ps_blk hc2 (by lia)) fun news291 s291 W S291 => ?_; (try simp only [cA, nA] at S291); refine seq_next ?_; (with_reducible refine k_if ?_); refine wpAny_isTrue_Compare1 ?_; refine r_loc S291 ((hm _ (by decide)).trans rfl) ?_; refine r_int S291 fun t306 s306 S306 => ?_; clear S291; refine eq_int ?_; refine wpAny_truthy_bool ?_; refine t_neg (by simp only [beq_iff_eq, decide_eq_true_eq]; lia) ?_; refine wpAny_execs_nil ?_; refine seq_next ?_; (with_reducible refine k_ex ?_); refine r_meth (pl := pure false) ?_; refine Subscript_ ?_; refine r_loc S306 ((hm _ (by decide)).trans rfl) ?_; refine r_str S306 fun t317 s317 S317 => ?_; clear S306; refine gl_frames (pre := _ :: pre) S317 W fun s318 S318 => ?_; (try simp only [cA, nA] at S318); clear S317; refine gm_frames (pre := _ :: pre) S318 W PySem.F.slot_list_append PySem.F.type_list_append ?_; refine r_callB ?_; refine spliced_more ?_; refine List_ ?_; refine spliced_more ?_; refine r_loc S318 ((hm _ (by decide)).trans rfl) ?_; refine spliced_more ?_; refine r_loc S318 ((hm _ (by decide)).trans rfl) ?_; refine spliced_more ?_; refine Subscript_ ?_; refine r_loc S318 ((hm _ (by decide)).trans rfl) ?_; refine r_str S318 fun t330 s330 S330 => ?_; clear S318; refine gl_high (pre := _ :: pre) S330 W fun t331 s331 S331 => ?_; (try simp only [cA, nA] at S331); clear S330; refine spliced_none ?_; refine r_list S331 (Nat.le_of_ble_eq_true rfl) fun a333 s333 S333 => ?_; clear S331; refine spliced_none ?_; refine al_frames (f := ⟨so, code, ov, high + ov⟩) (pre := _ :: pre) S333 W (by lia) fun news335 s335 W S335 => ?_; (try simp only [cA, nA] at S335); clear S333; (with_reducible refine k_sn ?_); k_unfold; refine r_leave S335 fun S335 => ?_; rename St _ _ _ _ _ _ => S390; exact k ⟨so, code, ov, high + ov⟩ _ _ (LW.le (B' := B + 5) W (by lia)) rfl (by show ov ≤ 2; lia) (by show ((so : Int) = 2 ↔ code = 4); lia) S390.tail
    · obtain rfl : z = 1 := by lia
      subst hs2
      have hc2 : code = 4 := hcode
      subst hc2
      refine c_emitL (pre := _ :: pre) (high' := high + ov) (d' := false) (fsI' := ⟨2, 4, ov, high + ov⟩ :: fs) (C1.le (by decide)) S290 W (.cons _ _ (.cons _ _ .nil)) (by rw [if_pos (by decide)]; lia) (by lia) (by lia) (by lia) (by lia) (fun _ => ps_if (by show topH fs ≤ high + ov; lia)) fun news291 s291 W S291 => ?_; (try simp only [cA, nA] at S291); refine seq_next ?_; (with_reducible refine k_if ?_); refine wpAny_isTrue_Compare1 ?_; refine r_loc S291 ((hm _ (by decide)).trans rfl) ?_; refine r_int S291 fun t406 s406 S406 => ?_; clear S291; refine eq_int ?_; refine wpAny_truthy_bool ?_; refine t_neg (by simp only [beq_iff_eq, decide_eq_true_eq]; lia) ?_; refine wpAny_execs_nil ?_; refine seq_next ?_; (with_reducible refine k_ex ?_); refine r_meth (pl := pure false) ?_; refine Subscript_ ?_; refine r_loc S406 ((hm _ (by decide)).trans rfl) ?_; refine r_str S406 fun t417 s417 S417 => ?_; clear S406; refine gl_frames (pre := _ :: pre) S417 W fun s418 S418 => ?_; (try simp only [cA, nA] at S418); clear S417; refine gm_frames (pre := _ :: pre) S418 W PySem.F.slot_list_append PySem.F.type_list_append ?_; refine r_callB ?_; refine spliced_more ?_; refine List_ ?_; refine spliced_more ?_; refine r_loc S418 ((hm _ (by decide)).trans rfl) ?_; refine spliced_more ?_; refine r_loc S418 ((hm _ (by decide)).trans rfl) ?_; refine spliced_more ?_; refine Subscript_ ?_; refine r_loc S418 ((hm _ (by decide)).trans rfl) ?_; refine r_str S418 fun t430 s430 S430 => ?_; clear S418; refine gl_high (pre := _ :: pre) S430 W fun t431 s431 S431 => ?_; (try simp only [cA, nA] at S431); clear S430; refine spliced_none ?_; refine r_list S431 (Nat.le_of_ble_eq_true rfl) fun a433 s433 S433 => ?_; clear S431; refine spliced_none ?_; refine al_frames (f := ⟨2, 4, ov, high + ov⟩) (pre := _ :: pre) S433 W (by lia) fun news435 s435 W S435 => ?_; (try simp only [cA, nA] at S435); clear S433; (with_reducible refine k_sn ?_); k_unfold; refine r_leave S435 fun S435 => ?_; rename St _ _ _ _ _ _ => S490; exact k ⟨2, 4, ov, high + ov⟩ _ _ (LW.le (B' := B + 5) W (by lia)) rfl (by show ov ≤ 2; lia) (by show ((2 : Int) = 2 ↔ (4 : Int) = 4); decide) S490.tail
    · obtain rfl : z = 1 := by lia
      subst hs3
      have hc2 : code = 4 := hcode
      subst hc2
      refine c_emitL (pre := _ :: pre) (high' := high + ov) (d' := false) (fsI' := ⟨3, 4, ov, high + ov⟩ :: fs) (C1.le (by decide)) S290 W (.cons _ _ (.cons _ _ .nil)) (by rw [if_pos (by decide)]; lia) (by lia) (by lia) (by lia) (by lia) (fun _ => ps_if (by show topH fs ≤ high + ov; lia)) fun news291 s291 W S291 => ?_; (try simp only [cA, nA] at S291); refine seq_next ?_; (with_reducible refine k_if ?_); refine wpAny_isTrue_Compare1 ?_; refine r_loc S291 ((hm _ (by decide)).trans rfl) ?_; refine r_int S291 fun t506 s506 S506 => ?_; clear S291; refine eq_int ?_; refine wpAny_truthy_bool ?_; refine t_pos (by simp only [beq_iff_eq, decide_eq_true_eq]; lia) ?_; (with_reducible refine k_ex ?_); refine r_call ?_; refine r_glb C1 S506 (gl_law_emit w) ?_; refine r_callK (keep_413 w) ?_; refine spliced_more ?_; refine r_loc S506 ((hm _ (by decide)).trans rfl) ?_; (with_reducible refine q_sp g0 S506 fun τ524 α524 s524 S524 => ?_; clear S506); refine ⟨C1.inK S524, ?_⟩; rename St _ _ _ _ _ _ => S590; refine c_emitL (pre := _ :: pre) (high' := high + ov) (d' := false) (fsI' := ⟨3, 5, ov, high + ov⟩ :: fs) (C1.le (by decide)) S590 W (.cons _ _ .nil) (Int.add_zero _) (by lia) (by lia) (by show high + ov ≤ 300; lia) (by show fs.length + 1 ≤ 300; lia) (fun _ => ps_els) fun news591 s591 W S591 => ?_; (try simp only [cA, nA] at S591); (with_reducible refine k_sn ?_); refine seq_next ?_; (with_reducible refine k_ex ?_); refine r_meth (pl := pure false) ?_; refine Subscript_ ?_; refine r_loc S591 ((hm _ (by decide)).trans rfl) ?_; refine r_str S591 fun t609 s609 S609 => ?_; clear S591; refine gl_frames (pre := _ :: pre) S609 W fun s610 S610 => ?_; (try simp only [cA, nA] at S610); clear S609; refine gm_frames (pre := _ :: pre) S610 W PySem.F.slot_list_append PySem.F.type_list_append ?_; refine r_callB ?_; refine spliced_more ?_; refine List_ ?_; refine spliced_more ?_; refine r_loc S610 ((hm _ (by decide)).trans rfl) ?_; refine spliced_more ?_; refine r_loc S610 ((hm _ (by decide)).trans rfl) ?_; refine spliced_more ?_; refine Subscript_ ?_; refine r_loc S610 ((hm _ (by decide)).trans rfl) ?_; refine r_str S610 fun t622 s622 S622 => ?_; clear S610; refine gl_high (pre := _ :: pre) S622 W fun t623 s623 S623 => ?_; (try simp only [cA, nA] at S623); clear S622; refine spliced_none ?_; refine r_list S623 (Nat.le_of_ble_eq_true rfl) fun a625 s625 S625 => ?_; clear S623; refine spliced_none ?_; refine al_frames (f := ⟨3, 5, ov, high + ov⟩) (pre := _ :: pre) S625 W (by lia) fun news627 s627 W S627 => ?_; (try simp only [cA, nA] at S627); clear S625; (with_reducible refine k_sn ?_); k_unfold; refine r_leave S627 fun S627 => ?_; rename St _ _ _ _ _ _ => S690; exact k ⟨3, 5, ov, high + ov⟩ _ _ (LW.le (B' := B + 5) W (by lia)) rfl (by show ov ≤ 2; lia) (by show ((3 : Int) = 2 ↔ (5 : Int) = 4); decide) S690.tail
end
end Mine
end
section
open PySem PySem.W PyProof.Rows PySem.Calls PySem.Spec
set_option maxHeartbeats 1000000
namespace Mine

section
theorem c_closeL {w : World} {base : Heap} {outer : List Env} {env : Env} {A : Around} {c : Shared} {g : Heap} {L : Addr} {m : Loc} {news : Led} {s : Shared} {Q E : Value → Shared → Prop} {pre : Led} {e : WE} {lo B : Nat} {d D : Bool} {f f' : Fm} {fsW fsI : List Fm} (C : Cx w base outer env A g L 5)
    (S : St c g L m (pre ++ news) s) (W : LW w e lo B f.base d d (f :: fsW) (f' :: fsI) D news) (hB : B ≤ 200) (hf : f'.base = f.base) (ht : topH fsI = topH fsW) (hb : f.base = topH fsW + f.over) (ho : f.over ≤ 2) (hz2 : f.base ≤ 100) (hz3 : fsW.length ≤ 50) (hz4 : fsI.length ≤ 50)
    (k : ∀ news' s', LW w e 1 (B + 3) (topH fsW) false false fsW fsI D news' → St c g L m (pre ++ news') s' → Q .none s') :
    wpAny (model PRG w) A (call (.ref 434) [.ref e.wd]) Q E s := by
  refine' r_def C S (binds := [("world", .ref e.wd)]) ?ho ?hcd ?hb ?hl ?_ ?c1 ?c2 ?c3 ?c4
  case ho => k_is
  case hcd => k_is
  case hb => exact BindsTo.of_eq rfl
  case hl => exact locs rfl
  case c1 => decide
  case c2 => exact rfl
  case c3 => exact rfl
  case c4 => exact rfl
  intro g1 L1 s1 C1 S1 F1; k_fold; refine r_cons ?_; refine Assign_Tuple ?_; refine r_meth (pl := pure false) ?_; refine Subscript_ ?_; refine r_loc S1 rfl ?_; refine r_str S1 fun t6 s6 S6 => ?_; clear S1; refine gl_frames (pre := pre) S6 W fun s7 S7 => ?_; (try simp only [cA, nA] at S7); clear S6; refine gm_frames (pre := pre) S7 W PySem.F.slot_list_pop PySem.F.type_list_pop ?_; refine r_callB0 ?_; refine pl_frames (pre := pre) S7 W (by lia) fun fa kf u1 u2 u3 news10 s10 hfa W S10 => ?_; (try simp only [cA, nA] at S10); clear S7; refine r_unpackL C1 S10 (List.mem_append_right _ hfa) rfl rfl fun s11 S11 => ?_; clear S10; refine r_orderN ?_; refine r_asg S11 fun s13 S13 => ?_; clear S11; refine r_orderN ?_; refine r_asg S13 fun s15 S15 => ?_; clear S13; refine r_orderN ?_; refine r_asg S15 fun s17 S17 => ?_; clear S15; refine r_order0 ?_; refine seq_next ?_; (with_reducible refine k_ex ?_; refine q_call C1 g0 S17 (gl_law_emit w) (keep_413 w) fun τ34 α34 s34 S34 => ?_; clear S17); rename St _ _ _ _ _ _ => S90; refine c_emitL (pre := pre) (high' := f.base) (d' := false) (fsI' := fsI) (C1.le (by decide)) S90 W (.cons _ _ .nil) (Int.add_zero _) (by lia) (by lia) (by show f'.base ≤ 300; lia) (by show fsI.length + 1 ≤ 300; lia) (fun _ => by rw [← hf]; exact ps_fin (fun _ => rfl) (by lia)) fun news91 s91 W S91 => ?_; (try simp only [cA, nA] at S91); refine seq_next ?_; refine r_cons ?_; refine Assign_Tuple ?_; (with_reducible refine q_ev g0 S91 fun τ110 α110 s110 S110 => ?_; clear S91); refine r_unpackT C1 S110 (.head _) rfl rfl fun s111 S111 => ?_; clear S110; refine r_orderN ?_; refine kas_sub ?_; refine r_loc S111 rfl ?_; refine r_str S111 fun t115 s115 S115 => ?_; clear S111; refine sl_dead (pre := _ :: pre) S115 W fun news116 s116 W S116 => ?_; (try simp only [cA, nA] at S116); clear S115; refine r_orderN ?_; refine kas_sub ?_; refine r_loc S116 rfl ?_; refine r_str S116 fun t120 s120 S120 => ?_; clear S116; refine sl_high (pre := _ :: pre) S120 W fun news121 s121 W S121 => ?_; (try simp only [cA, nA] at S121); clear S120; refine r_order0 ?_; refine seq_next ?_; refine r_cons ?_; refine wpAny_For ?_; (with_reducible refine q_callB0 C1 g0 S121 (bb_range w) .T ?_); refine r_range1 S121 fun r132 t132 u132 v132 s132 S132 => ?_; clear S121; rename St _ _ _ _ _ _ => S190; refine r_iterRange S190 .hd (small_up (k := f.over) (by decide) (by lia) (by lia)).1 (small_up (k := f.over) (by decide) (by lia) (by lia)).2 fun it s200 S200 => ?_; refine r_forRangeF (I := fun i news₁ => ∃ nw, news₁ = pre ++ nw ∧ LW w e 1 (B + 1 + i) (topH fsW + (f.over - i)) false false fsW fsI D nw) C1 (S200.drop (.tl .hd)) ⟨_, rfl, by rw [Nat.sub_zero, ← hb]; exact W⟩ (fun _ _ _ _ _ _ S k => r_asg S k) (fun i news₁ t201 s201 hi hI S201 => ?_) (fun m₁ news₁ s202 hm hI S202 => ?_)
  · try k_fold
    obtain ⟨nw, rfl, W⟩ := hI
    have ei : topH fsW + (f.over - i) = (topH fsW + (f.over - (i + 1))) + 1 := by lia
    rw [ei] at W
    try k_fold
    (with_reducible refine k_ex ?_; refine q_call C1 g0 S201 (gl_law_emit w) (keep_413 w) fun τ317 α317 s317 S317 => ?_; clear S201); refine c_dropL (pre := _ :: pre) (C1.le (by decide)) S317 W (by lia) (by lia) (by lia) (by lia) fun news320 s320 W S320 => ?_; (try simp only [cA, nA] at S320); clear S317; (with_reducible refine k_sn ?_); rename St _ _ _ _ _ _ => S390; exact ⟨_, ⟨_, rfl, W⟩, S390⟩
  · try k_fold
    obtain ⟨nw, rfl, W⟩ := hI
    rw [Nat.sub_self] at W
    try k_fold
    (with_reducible refine k_sn ?_); k_unfold; refine r_leave S202 fun S202 => ?_; exact k _ _ (LW.le W (by lia)) (by assumption)
end
end Mine
end
section
open PySem PySem.W PyProof.Rows PySem.Calls PySem.Spec
set_option maxHeartbeats 1000000
namespace Mine

section
set_option maxHeartbeats 6000000 in
theorem c_localL {w : World} {base : Heap} {outer : List Env} {env : Env} {A : Around} {c : Shared} {g : Heap} {L : Addr} {m : Loc} {news : Led} {s : Shared} {Q E : Value → Shared → Prop} {pre : Led} {e : WE} {lo B high : Nat} {fs : List Fm} {tm : Tok} (C : Cx w base outer env A g L 5)
    (S : St c g L m (pre ++ news) s) (W : LW w e lo B high false false fs fs false news) (hB : B ≤ 200) (hh : high = topH fs) (hz2 : high ≤ 100) (hz3 : fs.length ≤ 50)
    (k : ∀ D news' s', LW w e 1 (B + 4) high false false fs fs D news' → St c g L m (pre ++ news') s' → Q .none s') :
    wpAny (model PRG w) A (call (.ref 448) [.ref e.tp, .ref e.wd, .int e.P tm]) Q E s := by
  refine' r_def C S (binds := [("many", .int e.P tm), ("world", .ref e.wd), ("tape", .ref e.tp)]) ?ho ?hcd ?hb ?hl ?_ ?c1 ?c2 ?c3 ?c4
  case ho => k_is
  case hcd => k_is
  case hb => exact BindsTo.of_eq rfl
  case hl => exact locs rfl
  case c1 => decide
  case c2 => exact rfl
  case c3 => exact rfl
  case c4 => exact rfl
  intro g1 L1 s1 C1 S1 F1; k_fold; refine r_cons ?_; refine Assign_Tuple_swapped ?_; refine Tuple_ ?_; refine spliced_more ?_; refine wpAny_BinOp ?_; (with_reducible refine q_call0 C1 g0 S1 (gl_law_next w) (keep_406 w) ?_); refine c_nextL (pre := pre) (C1.le (by decide)) S1 W fun x13 t13 news13 s13 W S13 => ?_; (try simp only [cA, nA] at S13); clear S1; refine r_int S13 fun t14 s14 S14 => ?_; clear S13; refine r_mod S14 (by decide) fun t15 s15 S15 => ?_; clear S14; refine spliced_more ?_; (with_reducible refine q_call0 C1 g0 S15 (gl_law_spot w) (keep_441 w) ?_); refine c_spotL (pre := pre) (C1.le (by decide)) S15 W fun v26 t26 news26 s26 hv26 W S26 => ?_; (try simp only [cA, nA] at S26); clear S15; refine spliced_none ?_; refine r_tuple S26 (Nat.le_of_ble_eq_true rfl) fun a28 s28 S28 => ?_; clear S26; refine r_unpackItems C1 S28 rfl fun s29 S29 => ?_; clear S28; refine r_orderB ?_; refine r_store S29 fun s31 S31 => ?_; clear S29; refine r_orderB ?_; refine r_store S31 fun s33 S33 => ?_; clear S31; refine r_order0 ?_; refine seq_next ?_; (with_reducible refine q_if g0 S33 fun τ40 α40 s40 S40 => ?_; clear S33)
  obtain hv1 | hv2 | hv3 : v26 < 0 ∨ (0 ≤ v26 ∧ v26 < e.P) ∨ (e.P : Int) ≤ v26 := by lia
  · rcases fmod3 x13 with hx | hx | hx
    · rw [hx] at S40 ⊢
      refine t_neg (by simp only [beq_iff_eq, decide_eq_true_eq]; lia) ?_; refine wpAny_execs_nil ?_; refine seq_next ?_; (with_reducible refine k_if ?_); refine isTrue_not ?_; refine isTrue_chain ?_; refine r_int S40 fun t108 s108 S108 => ?_; clear S40; refine test_link ?_; refine r_loc S108 rfl ?_; refine le_int ?_; refine wpAny_truthy_bool ?_; refine t_neg (by simp only [beq_iff_eq, decide_eq_true_eq]; lia) ?_; refine t_tt ?_; (with_reducible refine k_ex ?_; refine q_call C1 g0 S108 (gl_law_bad w) (keep_420 w) fun τ123 α123 s123 S123 => ?_; clear S108); refine c_badL (pre := pre) (C1.le (by decide)) S123 W (by lia) fun news126 s126 W S126 => ?_; (try simp only [cA, nA] at S126); clear S123; (with_reducible refine k_sn ?_); refine seq_next ?_; (with_reducible refine k_ex ?_); refine r_call ?_; refine r_glb C1 S126 (gl_law_emit w) ?_; refine r_callK (keep_413 w) ?_; refine spliced_more ?_; refine r_loc S126 rfl ?_; refine spliced_more ?_; refine Tuple_ ?_; refine spliced_more ?_; refine wpAny_BinOp ?_; refine r_int S126 fun t141 s141 S141 => ?_; clear S126; refine Subscript_ ?_; (with_reducible refine q_ev g0 S141 fun τ151 α151 s151 S151 => ?_; clear S141); refine r_loc S151 rfl ?_; refine r_item S151 (.head _) (by decide) (by decide) rfl ?_; refine r_add S151 fun t154 s154 S154 => ?_; clear S151; (with_reducible refine q_sp0 g0 S154 ?_); refine r_tuple S154 (Nat.le_of_ble_eq_true rfl) fun a158 s158 S158 => ?_; clear S154; refine spliced_more ?_; refine Subscript_ ?_; (with_reducible refine q_ev g0 S158 fun τ171 α171 s171 S171 => ?_; clear S158); refine r_loc S171 rfl ?_; refine r_item S171 (.head _) (by decide) (by decide) rfl ?_; refine spliced_none ?_; refine ⟨C1.inK S171, ?_⟩; rename St _ _ _ _ _ _ => S200; refine c_failL (pre := _ :: _ :: pre) (high' := high + 1) false fs (C1.le (by decide)) S200.rot_1_1 W (.cons _ _ (.cons _ _ .nil)) (Int.natCast_succ _).symm (by lia) (by lia) (by lia) (.loc (.inl rfl) (.inl hv1)) fun news201 s201 W S201 => ?_; (try simp only [cA, nA] at S201); refine seq_next ?_; (with_reducible refine q_if g0 S201 fun τ306 α306 s306 S306 => ?_; clear S201); refine t_tt ?_; (with_reducible refine k_ex ?_; refine q_call C1 g0 S306 (gl_law_emit w) (keep_413 w) fun τ326 α326 s326 S326 => ?_; clear S306); refine c_dropL (pre := _ :: _ :: pre) (C1.le (by decide)) S326 W (by lia) (by lia) (by lia) (by lia) fun news329 s329 W S329 => ?_; (try simp only [cA, nA] at S329); clear S326; (with_reducible refine k_sn ?_; refine k_sn ?_); k_unfold; refine r_leave S329 fun S329 => ?_; rename St _ _ _ _ _ _ => S390; exact k _ _ _ (LW.le W (by lia)) S390.tail.tail
    · rw [hx] at S40 ⊢
      refine t_pos (by simp only [beq_iff_eq, decide_eq_true_eq]; lia) ?_; (with_reducible refine k_ex ?_; refine q_call C1 g0 S40 (gl_law_emit w) (keep_413 w) fun τ418 α418 s418 S418 => ?_; clear S40); refine c_constL (pre := pre) (C1.le (by decide)) S418 W (by lia) (by lia) (by lia) (by lia) fun news421 s421 W S421 => ?_; (try simp only [cA, nA] at S421); clear S418; (with_reducible refine k_sn ?_); refine seq_next ?_; (with_reducible refine k_if ?_); refine isTrue_not ?_; refine isTrue_chain ?_; refine r_int S421 fun t429 s429 S429 => ?_; clear S421; refine test_link ?_; refine r_loc S429 rfl ?_; refine le_int ?_; refine wpAny_truthy_bool ?_; refine t_neg (by simp only [beq_iff_eq, decide_eq_true_eq]; lia) ?_; refine t_tt ?_; (with_reducible refine k_ex ?_; refine q_call C1 g0 S429 (gl_law_bad w) (keep_420 w) fun τ444 α444 s444 S444 => ?_; clear S429); refine c_badL (pre := pre) (C1.le (by decide)) S444 W (by lia) fun news447 s447 W S447 => ?_; (try simp only [cA, nA] at S447); clear S444; (with_reducible refine k_sn ?_); refine seq_next ?_; (with_reducible refine k_ex ?_); refine r_call ?_; refine r_glb C1 S447 (gl_law_emit w) ?_; refine r_callK (keep_413 w) ?_; refine spliced_more ?_; refine r_loc S447 rfl ?_; refine spliced_more ?_; refine Tuple_ ?_; refine spliced_more ?_; refine wpAny_BinOp ?_; refine r_int S447 fun t462 s462 S462 => ?_; clear S447; refine Subscript_ ?_; (with_reducible refine q_ev g0 S462 fun τ472 α472 s472 S472 => ?_; clear S462); refine r_loc S472 rfl ?_; refine r_item S472 (.head _) (by decide) (by decide) rfl ?_; refine r_add S472 fun t475 s475 S475 => ?_; clear S472; (with_reducible refine q_sp0 g0 S475 ?_); refine r_tuple S475 (Nat.le_of_ble_eq_true rfl) fun a479 s479 S479 => ?_; clear S475; refine spliced_more ?_; refine Subscript_ ?_; (with_reducible refine q_ev g0 S479 fun τ492 α492 s492 S492 => ?_; clear S479); refine r_loc S492 rfl ?_; refine r_item S492 (.head _) (by decide) (by decide) rfl ?_; refine spliced_none ?_; refine ⟨C1.inK S492, ?_⟩; rename St _ _ _ _ _ _ => S500; refine c_failL (pre := _ :: _ :: pre) (high' := high) false fs (C1.le (by decide)) S500.rot_1_1 W (.cons _ _ (.cons _ _ .nil)) (by rw [Int.natCast_succ]; exact Int.add_neg_cancel_right _ _) (by lia) (by lia) (by lia) (.loc (.inr (.inl rfl)) (.inl hv1)) fun news501 s501 W S501 => ?_; (try simp only [cA, nA] at S501); refine seq_next ?_; (with_reducible refine q_if g0 S501 fun τ606 α606 s606 S606 => ?_; clear S501); refine t_ff ?_; refine wpAny_execs_nil ?_; (with_reducible refine k_sn ?_); k_unfold; refine r_leave S606 fun S606 => ?_; rename St _ _ _ _ _ _ => S690; exact k _ _ _ (LW.le W (by lia)) S690.tail.tail
    · rw [hx] at S40 ⊢
      refine t_pos (by simp only [beq_iff_eq, decide_eq_true_eq]; lia) ?_; (with_reducible refine k_ex ?_; refine q_call C1 g0 S40 (gl_law_emit w) (keep_413 w) fun τ718 α718 s718 S718 => ?_; clear S40); refine c_constL (pre := pre) (C1.le (by decide)) S718 W (by lia) (by lia) (by lia) (by lia) fun news721 s721 W S721 => ?_; (try simp only [cA, nA] at S721); clear S718; (with_reducible refine k_sn ?_); refine seq_next ?_; (with_reducible refine k_if ?_); refine isTrue_not ?_; refine isTrue_chain ?_; refine r_int S721 fun t729 s729 S729 => ?_; clear S721; refine test_link ?_; refine r_loc S729 rfl ?_; refine le_int ?_; refine wpAny_truthy_bool ?_; refine t_neg (by simp only [beq_iff_eq, decide_eq_true_eq]; lia) ?_; refine t_tt ?_; (with_reducible refine k_ex ?_; refine q_call C1 g0 S729 (gl_law_bad w) (keep_420 w) fun τ744 α744 s744 S744 => ?_; clear S729); refine c_badL (pre := pre) (C1.le (by decide)) S744 W (by lia) fun news747 s747 W S747 => ?_; (try simp only [cA, nA] at S747); clear S744; (with_reducible refine k_sn ?_); refine seq_next ?_; (with_reducible refine k_ex ?_); refine r_call ?_; refine r_glb C1 S747 (gl_law_emit w) ?_; refine r_callK (keep_413 w) ?_; refine spliced_more ?_; refine r_loc S747 rfl ?_; refine spliced_more ?_; refine Tuple_ ?_; refine spliced_more ?_; refine wpAny_BinOp ?_; refine r_int S747 fun t762 s762 S762 => ?_; clear S747; refine Subscript_ ?_; (with_reducible refine q_ev g0 S762 fun τ772 α772 s772 S772 => ?_; clear S762); refine r_loc S772 rfl ?_; refine r_item S772 (.head _) (by decide) (by decide) rfl ?_; refine r_add S772 fun t775 s775 S775 => ?_; clear S772; (with_reducible refine q_sp0 g0 S775 ?_); refine r_tuple S775 (Nat.le_of_ble_eq_true rfl) fun a779 s779 S779 => ?_; clear S775; refine spliced_more ?_; refine Subscript_ ?_; (with_reducible refine q_ev g0 S779 fun τ792 α792 s792 S792 => ?_; clear S779); refine r_loc S792 rfl ?_; refine r_item S792 (.head _) (by decide) (by decide) rfl ?_; refine spliced_none ?_; refine ⟨C1.inK S792, ?_⟩; rename St _ _ _ _ _ _ => S800; refine c_failL (pre := _ :: _ :: pre) (high' := high + 1) false fs (C1.le (by decide)) S800.rot_1_1 W (.cons _ _ (.cons _ _ .nil)) (Int.add_zero _) (by lia) (by lia) (by lia) (.loc (.inr (.inr rfl)) (.inl hv1)) fun news801 s801 W S801 => ?_; (try simp only [cA, nA] at S801); refine seq_next ?_; (with_reducible refine q_if g0 S801 fun τ906 α906 s906 S906 => ?_; clear S801); refine t_tt ?_; (with_reducible refine k_ex ?_; refine q_call C1 g0 S906 (gl_law_emit w) (keep_413 w) fun τ926 α926 s926 S926 => ?_; clear S906); refine c_dropL (pre := _ :: _ :: pre) (C1.le (by decide)) S926 W (by lia) (by lia) (by lia) (by lia) fun news929 s929 W S929 => ?_; (try simp only [cA, nA] at S929); clear S926; (with_reducible refine k_sn ?_; refine k_sn ?_); k_unfold; refine r_leave S929 fun S929 => ?_; rename St _ _ _ _ _ _ => S990; exact k _ _ _ (LW.le W (by lia)) S990.tail.tail
  · rcases fmod3 x13 with hx | hx | hx
    · rw [hx] at S40 ⊢
      refine t_neg (by simp only [beq_iff_eq, decide_eq_true_eq]; lia) ?_; refine wpAny_execs_nil ?_; refine seq_next ?_; (with_reducible refine k_if ?_); refine isTrue_not ?_; refine isTrue_chain ?_; refine r_int S40 fun t1008 s1008 S1008 => ?_; clear S40; refine test_link ?_; refine r_loc S1008 rfl ?_; refine le_int ?_; refine wpAny_truthy_bool ?_; refine t_pos (by simp only [beq_iff_eq, decide_eq_true_eq]; lia) ?_; refine test_last ?_; refine r_loc S1008 rfl ?_; refine lt_int ?_; refine wpAny_truthy_bool ?_; refine t_neg (by simp_all) ?_; refine wpAny_execs_nil ?_; refine seq_next ?_; (with_reducible refine k_ex ?_); refine r_call ?_; refine r_glb C1 S1008 (gl_law_emit w) ?_; refine r_callK (keep_413 w) ?_; refine spliced_more ?_; refine r_loc S1008 rfl ?_; refine spliced_more ?_; refine Tuple_ ?_; refine spliced_more ?_; refine wpAny_BinOp ?_; refine r_int S1008 fun t1032 s1032 S1032 => ?_; clear S1008; refine Subscript_ ?_; (with_reducible refine q_ev g0 S1032 fun τ1042 α1042 s1042 S1042 => ?_; clear S1032); refine r_loc S1042 rfl ?_; refine r_item S1042 (.head _) (by decide) (by decide) rfl ?_; refine r_add S1042 fun t1045 s1045 S1045 => ?_; clear S1042; (with_reducible refine q_sp0 g0 S1045 ?_); refine r_tuple S1045 (Nat.le_of_ble_eq_true rfl) fun a1049 s1049 S1049 => ?_; clear S1045; refine spliced_more ?_; refine Subscript_ ?_; (with_reducible refine q_ev g0 S1049 fun τ1062 α1062 s1062 S1062 => ?_; clear S1049); refine r_loc S1062 rfl ?_; refine r_item S1062 (.head _) (by decide) (by decide) rfl ?_; refine spliced_none ?_; refine ⟨C1.inK S1062, ?_⟩; rename St _ _ _ _ _ _ => S1100; refine c_emitL (pre := _ :: _ :: pre) (high' := high + 1) (d' := false) (fsI' := fs) (C1.le (by decide)) S1100.rot_1_1 W (.cons _ _ (.cons _ _ .nil)) (Int.natCast_succ _).symm (by lia) (by lia) (by lia) (by lia) (fun _ => ps_lget (by lia) hv2.1 hv2.2) fun news1101 s1101 W S1101 => ?_; (try simp only [cA, nA] at S1101); refine seq_next ?_; (with_reducible refine q_if g0 S1101 fun τ1206 α1206 s1206 S1206 => ?_; clear S1101); refine t_tt ?_; (with_reducible refine k_ex ?_; refine q_call C1 g0 S1206 (gl_law_emit w) (keep_413 w) fun τ1226 α1226 s1226 S1226 => ?_; clear S1206); refine c_dropL (pre := _ :: _ :: pre) (C1.le (by decide)) S1226 W (by lia) (by lia) (by lia) (by lia) fun news1229 s1229 W S1229 => ?_; (try simp only [cA, nA] at S1229); clear S1226; (with_reducible refine k_sn ?_; refine k_sn ?_); k_unfold; refine r_leave S1229 fun S1229 => ?_; rename St _ _ _ _ _ _ => S1290; exact k _ _ _ (LW.le W (by lia)) S1290.tail.tail
    · rw [hx] at S40 ⊢
      refine t_pos (by simp only [beq_iff_eq, decide_eq_true_eq]; lia) ?_; (with_reducible refine k_ex ?_; refine q_call C1 g0 S40 (gl_law_emit w) (keep_413 w) fun τ1318 α1318 s1318 S1318 => ?_; clear S40); refine c_constL (pre := pre) (C1.le (by decide)) S1318 W (by lia) (by lia) (by lia) (by lia) fun news1321 s1321 W S1321 => ?_; (try simp only [cA, nA] at S1321); clear S1318; (with_reducible refine k_sn ?_); refine seq_next ?_; (with_reducible refine k_if ?_); refine isTrue_not ?_; refine isTrue_chain ?_; refine r_int S1321 fun t1329 s1329 S1329 => ?_; clear S1321; refine test_link ?_; refine r_loc S1329 rfl ?_; refine le_int ?_; refine wpAny_truthy_bool ?_; refine t_pos (by simp only [beq_iff_eq, decide_eq_true_eq]; lia) ?_; refine test_last ?_; refine r_loc S1329 rfl ?_; refine lt_int ?_; refine wpAny_truthy_bool ?_; refine t_neg (by simp_all) ?_; refine wpAny_execs_nil ?_; refine seq_next ?_; (with_reducible refine k_ex ?_); refine r_call ?_; refine r_glb C1 S1329 (gl_law_emit w) ?_; refine r_callK (keep_413 w) ?_; refine spliced_more ?_; refine r_loc S1329 rfl ?_; refine spliced_more ?_; refine Tuple_ ?_; refine spliced_more ?_; refine wpAny_BinOp ?_; refine r_int S1329 fun t1353 s1353 S1353 => ?_; clear S1329; refine Subscript_ ?_; (with_reducible refine q_ev g0 S1353 fun τ1363 α1363 s1363 S1363 => ?_; clear S1353); refine r_loc S1363 rfl ?_; refine r_item S1363 (.head _) (by decide) (by decide) rfl ?_; refine r_add S1363 fun t1366 s1366 S1366 => ?_; clear S1363; (with_reducible refine q_sp0 g0 S1366 ?_); refine r_tuple S1366 (Nat.le_of_ble_eq_true rfl) fun a1370 s1370 S1370 => ?_; clear S1366; refine spliced_more ?_; refine Subscript_ ?_; (with_reducible refine q_ev g0 S1370 fun τ1383 α1383 s1383 S1383 => ?_; clear S1370); refine r_loc S1383 rfl ?_; refine r_item S1383 (.head _) (by decide) (by decide) rfl ?_; refine spliced_none ?_; refine ⟨C1.inK S1383, ?_⟩; rename St _ _ _ _ _ _ => S1400; refine c_emitL (pre := _ :: _ :: pre) (high' := high) (d' := false) (fsI' := fs) (C1.le (by decide)) S1400.rot_1_1 W (.cons _ _ (.cons _ _ .nil)) (by rw [Int.natCast_succ]; exact Int.add_neg_cancel_right _ _) (by lia) (by lia) (by lia) (by lia) (fun _ => ps_lset (by lia) hv2.1 hv2.2) fun news1401 s1401 W S1401 => ?_; (try simp only [cA, nA] at S1401); refine seq_next ?_; (with_reducible refine q_if g0 S1401 fun τ1506 α1506 s1506 S1506 => ?_; clear S1401); refine t_ff ?_; refine wpAny_execs_nil ?_; (with_reducible refine k_sn ?_); k_unfold; refine r_leave S1506 fun S1506 => ?_; rename St _ _ _ _ _ _ => S1590; exact k _ _ _ (LW.le W (by lia)) S1590.tail.tail
    · rw [hx] at S40 ⊢
      refine t_pos (by simp only [beq_iff_eq, decide_eq_true_eq]; lia) ?_; (with_reducible refine k_ex ?_; refine q_call C1 g0 S40 (gl_law_emit w) (keep_413 w) fun τ1618 α1618 s1618 S1618 => ?_; clear S40); refine c_constL (pre := pre) (C1.le (by decide)) S1618 W (by lia) (by lia) (by lia) (by lia) fun news1621 s1621 W S1621 => ?_; (try simp only [cA, nA] at S1621); clear S1618; (with_reducible refine k_sn ?_); refine seq_next ?_; (with_reducible refine k_if ?_); refine isTrue_not ?_; refine isTrue_chain ?_; refine r_int S1621 fun t1629 s1629 S1629 => ?_; clear S1621; refine test_link ?_; refine r_loc S1629 rfl ?_; refine le_int ?_; refine wpAny_truthy_bool ?_; refine t_pos (by simp only [beq_iff_eq, decide_eq_true_eq]; lia) ?_; refine test_last ?_; refine r_loc S1629 rfl ?_; refine lt_int ?_; refine wpAny_truthy_bool ?_; refine t_neg (by simp_all) ?_; refine wpAny_execs_nil ?_; refine seq_next ?_; (with_reducible refine k_ex ?_); refine r_call ?_; refine r_glb C1 S1629 (gl_law_emit w) ?_; refine r_callK (keep_413 w) ?_; refine spliced_more ?_; refine r_loc S1629 rfl ?_; refine spliced_more ?_; refine Tuple_ ?_; refine spliced_more ?_; refine wpAny_BinOp ?_; refine r_int S1629 fun t1653 s1653 S1653 => ?_; clear S1629; refine Subscript_ ?_; (with_reducible refine q_ev g0 S1653 fun τ1663 α1663 s1663 S1663 => ?_; clear S1653); refine r_loc S1663 rfl ?_; refine r_item S1663 (.head _) (by decide) (by decide) rfl ?_; refine r_add S1663 fun t1666 s1666 S1666 => ?_; clear S1663; (with_reducible refine q_sp0 g0 S1666 ?_); refine r_tuple S1666 (Nat.le_of_ble_eq_true rfl) fun a1670 s1670 S1670 => ?_; clear S1666; refine spliced_more ?_; refine Subscript_ ?_; (with_reducible refine q_ev g0 S1670 fun τ1683 α1683 s1683 S1683 => ?_; clear S1670); refine r_loc S1683 rfl ?_; refine r_item S1683 (.head _) (by decide) (by decide) rfl ?_; refine spliced_none ?_; refine ⟨C1.inK S1683, ?_⟩; rename St _ _ _ _ _ _ => S1700; refine c_emitL (pre := _ :: _ :: pre) (high' := high + 1) (d' := false) (fsI' := fs) (C1.le (by decide)) S1700.rot_1_1 W (.cons _ _ (.cons _ _ .nil)) (Int.add_zero _) (by lia) (by lia) (by lia) (by lia) (fun _ => ps_ltee (by lia) hv2.1 hv2.2) fun news1701 s1701 W S1701 => ?_; (try simp only [cA, nA] at S1701); refine seq_next ?_; (with_reducible refine q_if g0 S1701 fun τ1806 α1806 s1806 S1806 => ?_; clear S1701); refine t_tt ?_; (with_reducible refine k_ex ?_; refine q_call C1 g0 S1806 (gl_law_emit w) (keep_413 w) fun τ1826 α1826 s1826 S1826 => ?_; clear S1806); refine c_dropL (pre := _ :: _ :: pre) (C1.le (by decide)) S1826 W (by lia) (by lia) (by lia) (by lia) fun news1829 s1829 W S1829 => ?_; (try simp only [cA, nA] at S1829); clear S1826; (with_reducible refine k_sn ?_; refine k_sn ?_); k_unfold; refine r_leave S1829 fun S1829 => ?_; rename St _ _ _ _ _ _ => S1890; exact k _ _ _ (LW.le W (by lia)) S1890.tail.tail
  · rcases fmod3 x13 with hx | hx | hx
    · rw [hx] at S40 ⊢
      refine t_neg (by simp only [beq_iff_eq, decide_eq_true_eq]; lia) ?_; refine wpAny_execs_nil ?_; refine seq_next ?_; (with_reducible refine k_if ?_); refine isTrue_not ?_; refine isTrue_chain ?_; refine r_int S40 fun t1908 s1908 S1908 => ?_; clear S40; refine test_link ?_; refine r_loc S1908 rfl ?_; refine le_int ?_; refine wpAny_truthy_bool ?_; refine t_pos (by simp only [beq_iff_eq, decide_eq_true_eq]; lia) ?_; refine test_last ?_; refine r_loc S1908 rfl ?_; refine lt_int ?_; refine wpAny_truthy_bool ?_; refine t_pos (by simp_all) ?_; (with_reducible refine k_ex ?_; refine q_call C1 g0 S1908 (gl_law_bad w) (keep_420 w) fun τ1927 α1927 s1927 S1927 => ?_; clear S1908); refine c_badL (pre := pre) (C1.le (by decide)) S1927 W (by lia) fun news1930 s1930 W S1930 => ?_; (try simp only [cA, nA] at S1930); clear S1927; (with_reducible refine k_sn ?_); refine seq_next ?_; (with_reducible refine k_ex ?_); refine r_call ?_; refine r_glb C1 S1930 (gl_law_emit w) ?_; refine r_callK (keep_413 w) ?_; refine spliced_more ?_; refine r_loc S1930 rfl ?_; refine spliced_more ?_; refine Tuple_ ?_; refine spliced_more ?_; refine wpAny_BinOp ?_; refine r_int S1930 fun t1945 s1945 S1945 => ?_; clear S1930; refine Subscript_ ?_; (with_reducible refine q_ev g0 S1945 fun τ1955 α1955 s1955 S1955 => ?_; clear S1945); refine r_loc S1955 rfl ?_; refine r_item S1955 (.head _) (by decide) (by decide) rfl ?_; refine r_add S1955 fun t1958 s1958 S1958 => ?_; clear S1955; (with_reducible refine q_sp0 g0 S1958 ?_); refine r_tuple S1958 (Nat.le_of_ble_eq_true rfl) fun a1962 s1962 S1962 => ?_; clear S1958; refine spliced_more ?_; refine Subscript_ ?_; (with_reducible refine q_ev g0 S1962 fun τ1975 α1975 s1975 S1975 => ?_; clear S1962); refine r_loc S1975 rfl ?_; refine r_item S1975 (.head _) (by decide) (by decide) rfl ?_; refine spliced_none ?_; refine ⟨C1.inK S1975, ?_⟩; rename St _ _ _ _ _ _ => S2000; refine c_failL (pre := _ :: _ :: pre) (high' := high + 1) false fs (C1.le (by decide)) S2000.rot_1_1 W (.cons _ _ (.cons _ _ .nil)) (Int.natCast_succ _).symm (by lia) (by lia) (by lia) (.loc (.inl rfl) (.inr hv3)) fun news2001 s2001 W S2001 => ?_; (try simp only [cA, nA] at S2001); refine seq_next ?_; (with_reducible refine q_if g0 S2001 fun τ2106 α2106 s2106 S2106 => ?_; clear S2001); refine t_tt ?_; (with_reducible refine k_ex ?_; refine q_call C1 g0 S2106 (gl_law_emit w) (keep_413 w) fun τ2126 α2126 s2126 S2126 => ?_; clear S2106); refine c_dropL (pre := _ :: _ :: pre) (C1.le (by decide)) S2126 W (by lia) (by lia) (by lia) (by lia) fun news2129 s2129 W S2129 => ?_; (try simp only [cA, nA] at S2129); clear S2126; (with_reducible refine k_sn ?_; refine k_sn ?_); k_unfold; refine r_leave S2129 fun S2129 => ?_; rename St _ _ _ _ _ _ => S2190; exact k _ _ _ (LW.le W (by lia)) S2190.tail.tail
    · rw [hx] at S40 ⊢
      refine t_pos (by simp only [beq_iff_eq, decide_eq_true_eq]; lia) ?_; (with_reducible refine k_ex ?_; refine q_call C1 g0 S40 (gl_law_emit w) (keep_413 w) fun τ2218 α2218 s2218 S2218 => ?_; clear S40); refine c_constL (pre := pre) (C1.le (by decide)) S2218 W (by lia) (by lia) (by lia) (by lia) fun news2221 s2221 W S2221 => ?_; (try simp only [cA, nA] at S2221); clear S2218; (with_reducible refine k_sn ?_); refine seq_next ?_; (with_reducible refine k_if ?_); refine isTrue_not ?_; refine isTrue_chain ?_; refine r_int S2221 fun t2229 s2229 S2229 => ?_; clear S2221; refine test_link ?_; refine r_loc S2229 rfl ?_; refine le_int ?_; refine wpAny_truthy_bool ?_; refine t_pos (by simp only [beq_iff_eq, decide_eq_true_eq]; lia) ?_; refine test_last ?_; refine r_loc S2229 rfl ?_; refine lt_int ?_; refine wpAny_truthy_bool ?_; refine t_pos (by simp_all) ?_; (with_reducible refine k_ex ?_; refine q_call C1 g0 S2229 (gl_law_bad w) (keep_420 w) fun τ2248 α2248 s2248 S2248 => ?_; clear S2229); refine c_badL (pre := pre) (C1.le (by decide)) S2248 W (by lia) fun news2251 s2251 W S2251 => ?_; (try simp only [cA, nA] at S2251); clear S2248; (with_reducible refine k_sn ?_); refine seq_next ?_; (with_reducible refine k_ex ?_); refine r_call ?_; refine r_glb C1 S2251 (gl_law_emit w) ?_; refine r_callK (keep_413 w) ?_; refine spliced_more ?_; refine r_loc S2251 rfl ?_; refine spliced_more ?_; refine Tuple_ ?_; refine spliced_more ?_; refine wpAny_BinOp ?_; refine r_int S2251 fun t2266 s2266 S2266 => ?_; clear S2251; refine Subscript_ ?_; (with_reducible refine q_ev g0 S2266 fun τ2276 α2276 s2276 S2276 => ?_; clear S2266); refine r_loc S2276 rfl ?_; refine r_item S2276 (.head _) (by decide) (by decide) rfl ?_; refine r_add S2276 fun t2279 s2279 S2279 => ?_; clear S2276; (with_reducible refine q_sp0 g0 S2279 ?_); refine r_tuple S2279 (Nat.le_of_ble_eq_true rfl) fun a2283 s2283 S2283 => ?_; clear S2279; refine spliced_more ?_; refine Subscript_ ?_; (with_reducible refine q_ev g0 S2283 fun τ2296 α2296 s2296 S2296 => ?_; clear S2283); refine r_loc S2296 rfl ?_; refine r_item S2296 (.head _) (by decide) (by decide) rfl ?_; refine spliced_none ?_; refine ⟨C1.inK S2296, ?_⟩; rename St _ _ _ _ _ _ => S2300; refine c_failL (pre := _ :: _ :: pre) (high' := high) false fs (C1.le (by decide)) S2300.rot_1_1 W (.cons _ _ (.cons _ _ .nil)) (by rw [Int.natCast_succ]; exact Int.add_neg_cancel_right _ _) (by lia) (by lia) (by lia) (.loc (.inr (.inl rfl)) (.inr hv3)) fun news2301 s2301 W S2301 => ?_; (try simp only [cA, nA] at S2301); refine seq_next ?_; (with_reducible refine q_if g0 S2301 fun τ2406 α2406 s2406 S2406 => ?_; clear S2301); refine t_ff ?_; refine wpAny_execs_nil ?_; (with_reducible refine k_sn ?_); k_unfold; refine r_leave S2406 fun S2406 => ?_; rename St _ _ _ _ _ _ => S2490; exact k _ _ _ (LW.le W (by lia)) S2490.tail.tail
    · rw [hx] at S40 ⊢
      refine t_pos (by simp only [beq_iff_eq, decide_eq_true_eq]; lia) ?_; (with_reducible refine k_ex ?_; refine q_call C1 g0 S40 (gl_law_emit w) (keep_413 w) fun τ2518 α2518 s2518 S2518 => ?_; clear S40); refine c_constL (pre := pre) (C1.le (by decide)) S2518 W (by lia) (by lia) (by lia) (by lia) fun news2521 s2521 W S2521 => ?_; (try simp only [cA, nA] at S2521); clear S2518; (with_reducible refine k_sn ?_); refine seq_next ?_; (with_reducible refine k_if ?_); refine isTrue_not ?_; refine isTrue_chain ?_; refine r_int S2521 fun t2529 s2529 S2529 => ?_; clear S2521; refine test_link ?_; refine r_loc S2529 rfl ?_; refine le_int ?_; refine wpAny_truthy_bool ?_; refine t_pos (by simp only [beq_iff_eq, decide_eq_true_eq]; lia) ?_; refine test_last ?_; refine r_loc S2529 rfl ?_; refine lt_int ?_; refine wpAny_truthy_bool ?_; refine t_pos (by simp_all) ?_; (with_reducible refine k_ex ?_; refine q_call C1 g0 S2529 (gl_law_bad w) (keep_420 w) fun τ2548 α2548 s2548 S2548 => ?_; clear S2529); refine c_badL (pre := pre) (C1.le (by decide)) S2548 W (by lia) fun news2551 s2551 W S2551 => ?_; (try simp only [cA, nA] at S2551); clear S2548; (with_reducible refine k_sn ?_); refine seq_next ?_; (with_reducible refine k_ex ?_); refine r_call ?_; refine r_glb C1 S2551 (gl_law_emit w) ?_; refine r_callK (keep_413 w) ?_; refine spliced_more ?_; refine r_loc S2551 rfl ?_; refine spliced_more ?_; refine Tuple_ ?_; refine spliced_more ?_; refine wpAny_BinOp ?_; refine r_int S2551 fun t2566 s2566 S2566 => ?_; clear S2551; refine Subscript_ ?_; (with_reducible refine q_ev g0 S2566 fun τ2576 α2576 s2576 S2576 => ?_; clear S2566); refine r_loc S2576 rfl ?_; refine r_item S2576 (.head _) (by decide) (by decide) rfl ?_; refine r_add S2576 fun t2579 s2579 S2579 => ?_; clear S2576; (with_reducible refine q_sp0 g0 S2579 ?_); refine r_tuple S2579 (Nat.le_of_ble_eq_true rfl) fun a2583 s2583 S2583 => ?_; clear S2579; refine spliced_more ?_; refine Subscript_ ?_; (with_reducible refine q_ev g0 S2583 fun τ2596 α2596 s2596 S2596 => ?_; clear S2583); refine r_loc S2596 rfl ?_; refine r_item S2596 (.head _) (by decide) (by decide) rfl ?_; refine spliced_none ?_; refine ⟨C1.inK S2596, ?_⟩; rename St _ _ _ _ _ _ => S2600; refine c_failL (pre := _ :: _ :: pre) (high' := high + 1) false fs (C1.le (by decide)) S2600.rot_1_1 W (.cons _ _ (.cons _ _ .nil)) (Int.add_zero _) (by lia) (by lia) (by lia) (.loc (.inr (.inr rfl)) (.inr hv3)) fun news2601 s2601 W S2601 => ?_; (try simp only [cA, nA] at S2601); refine seq_next ?_; (with_reducible refine q_if g0 S2601 fun τ2706 α2706 s2706 S2706 => ?_; clear S2601); refine t_tt ?_; (with_reducible refine k_ex ?_; refine q_call C1 g0 S2706 (gl_law_emit w) (keep_413 w) fun τ2726 α2726 s2726 S2726 => ?_; clear S2706); refine c_dropL (pre := _ :: _ :: pre) (C1.le (by decide)) S2726 W (by lia) (by lia) (by lia) (by lia) fun news2729 s2729 W S2729 => ?_; (try simp only [cA, nA] at S2729); clear S2726; (with_reducible refine k_sn ?_; refine k_sn ?_); k_unfold; refine r_leave S2729 fun S2729 => ?_; rename St _ _ _ _ _ _ => S2790; exact k _ _ _ (LW.le W (by lia)) S2790.tail.tail
end
end Mine
end
section
open PySem PySem.W PyProof.Rows PySem.Calls PySem.Spec
set_option maxHeartbeats 1000000
namespace Mine

noncomputable def RowC (vs : List Value) : Prop :=
  (∃ t, vs = [.int 27 t]) ∨ (∃ t t1, vs = [.int 28 t, .int (-1) t1]) ∨ (∃ t vs', vs = .int 28 t :: vs' ∧ vs'.length ≠ 1 ∧ vs'.length ≤ 2 ∧ ∃ row, IntsAre vs row ∧ ∀ K F P p, StepX K F P p row "invalid result arity") ∨
    (∃ t x tx, vs = [.int 28 t, .int x tx] ∧ x ≠ -1 ∧ KTD.inKeys x KN = false)
theorem r_pick8 {w : World} {A : Around} {c : Shared} {g : Heap} {L : Addr} {m : Loc} {rest : Led} {s : Shared} {Q E : Value → Shared → Prop} {value slice : Expr} {l a1 a2 a3 a4 a5 a6 a7 a8 : Addr} {u t1 t2 t3 t4 t5 t6 t7 t8 v1 v4 z4 v5 v6 v7 v8 : Tok} {kl : Nat} {x : Int}
    (S : St c g L m ((l, lst [.ref a1, .ref a2, .ref a3, .ref a4, .ref a5, .ref a6, .ref a7, .ref a8] kl) :: (a8, tup [.int 28 t8, .int 1 v8] 0) :: (a7, tup [.int 28 t7, .int (-3) v7] 0) :: (a6, tup [.int 28 t6, .int 0 v6] 0) :: (a5, tup [.int 28 t5, .int (-64) v5] 0) :: (a4, tup [.int 28 t4, .int (-1) v4, .int (-1) z4] 0) :: (a3, tup [.int 28 t3] 0) :: (a2, tup [.int 27 t2] 0) :: (a1, tup [.int 28 t1, .int (-1) v1] 0) :: rest) s)
    (k : ∀ a vs, RowC vs → St c g L m ((a, tup vs 0) :: rest) s → Q (.ref a) s)
    (hs : ∀ i : Int, subscripted slice false (.ref l) (.int i u) = operate [.ref l, .int i u] (getItem (.ref l) (.int i u)) := by intro _; with_unfolding_all rfl) :
    wpAny (model PRG w) A (subscriptTail value slice (.ref l) (.int (x.fmod 8) u)) Q E s := by
  obtain ⟨j, hj, hj2⟩ := fmodN x 8 (by decide)
  have hj' : x.fmod 8 = j := hj
  rw [hj']
  have T : ∀ t x tx, x ≠ -1 → KTD.inKeys x KN = false → RowC [.int 28 t, .int x tx] := fun t x tx h1 h2 => .inr (.inr (.inr ⟨t, x, tx, rfl, h1, h2⟩))
  have S1 := S.tail
  have S2 := S1.tail
  have S3 := S2.tail
  have S4 := S3.tail
  have S5 := S4.tail
  have S6 := S5.tail
  have S7 := S6.tail
  have S8 := S7.tail
  rcases j with _ | _ | _ | _ | _ | _ | _ | _ | j
  · exact r_item S (.head _) (by decide) (by decide) rfl (k _ _ (.inr (.inl ⟨_, _, rfl⟩)) S8) (hs _)
  · exact r_item S (.head _) (by decide) (by decide) rfl (k _ _ (.inl ⟨_, rfl⟩) (S7.drop (.tl .hd))) (hs _)
  · exact r_item S (.head _) (by decide) (by decide) rfl (k _ _ (.inr (.inr (.inl ⟨_, _, rfl, by decide, by decide, _, .cons _ _ .nil, fun _ _ _ _ => .selA1⟩))) ((S6.drop (.tl .hd)).drop (.tl .hd))) (hs _)
  · exact r_item S (.head _) (by decide) (by decide) rfl (k _ _ (.inr (.inr (.inl ⟨_, _, rfl, by simp, by simp, _, .cons _ _ (.cons _ _ (.cons _ _ .nil)), fun _ _ _ _ => .selA3⟩))) (((S5.drop (.tl .hd)).drop (.tl .hd)).drop (.tl .hd))) (hs _)
  · exact r_item S (.head _) (by decide) (by decide) rfl (k _ _ (T _ _ _ (by decide) (by decide)) ((((S4.drop (.tl .hd)).drop (.tl .hd)).drop (.tl .hd)).drop (.tl .hd))) (hs _)
  · exact r_item S (.head _) (by decide) (by decide) rfl (k _ _ (T _ _ _ (by decide) (by decide)) (((((S3.drop (.tl .hd)).drop (.tl .hd)).drop (.tl .hd)).drop (.tl .hd)).drop (.tl .hd))) (hs _)
  · exact r_item S (.head _) (by decide) (by decide) rfl (k _ _ (T _ _ _ (by decide) (by decide)) ((((((S2.drop (.tl .hd)).drop (.tl .hd)).drop (.tl .hd)).drop (.tl .hd)).drop (.tl .hd)).drop (.tl .hd))) (hs _)
  · exact r_item S (.head _) (by decide) (by decide) rfl (k _ _ (T _ _ _ (by decide) (by decide)) (((((((S1.drop (.tl .hd)).drop (.tl .hd)).drop (.tl .hd)).drop (.tl .hd)).drop (.tl .hd)).drop (.tl .hd)).drop (.tl .hd))) (hs _)
  · lia
section
set_option maxHeartbeats 6000000 in
theorem c_selectL {w : World} {base : Heap} {outer : List Env} {env : Env} {A : Around} {c : Shared} {g : Heap} {L : Addr} {m : Loc} {news : Led} {s : Shared} {Q E : Value → Shared → Prop} {pre : Led} {e : WE} {lo B high : Nat} {fs : List Fm} (C : Cx w base outer env A g L 5)
    (S : St c g L m (pre ++ news) s) (W : LW w e lo B high false false fs fs false news) (hB : B ≤ 200) (hh : high = topH fs) (hz2 : high ≤ 100) (hz3 : fs.length ≤ 50)
    (k : ∀ D news' s', LW w e 1 (B + 5) high false false fs fs D news' → St c g L m (pre ++ news') s' → Q .none s') :
    wpAny (model PRG w) A (call (.ref 460) [.ref e.tp, .ref e.wd]) Q E s := by
  refine' r_def C S (binds := [("world", .ref e.wd), ("tape", .ref e.tp)]) ?ho ?hcd ?hb ?hl ?_ ?c1 ?c2 ?c3 ?c4
  case ho => k_is
  case hcd => k_is
  case hb => exact BindsTo.of_eq rfl
  case hl => exact locs rfl
  case c1 => decide
  case c2 => exact rfl
  case c3 => exact rfl
  case c4 => exact rfl
  intro g1 L1 s1 C1 S1 F1; k_fold; (with_reducible refine q_as g0 S1 fun τ78 α78 s78 S78 => ?_; clear S1; refine k_as ?_; refine Subscript_ ?_); refine r_loc S78 rfl ?_; (with_reducible refine wpAny_BinOp ?_; refine q_call0 C1 g0 S78 (gl_law_next w) (keep_406 w) ?_); refine c_nextL (pre := _ :: _ :: _ :: _ :: _ :: _ :: _ :: _ :: _ :: pre) (C1.le (by decide)) S78 W fun x92 t92 news92 s92 W S92 => ?_; (try simp only [cA, nA] at S92); clear S78; (with_reducible refine r_int S92 fun t93 s93 S93 => ?_; clear S92; refine r_mod S93 (by decide) fun t94 s94 S94 => ?_; clear S93); rename St _ _ _ _ _ _ => S90; refine r_pick8 S90 fun ra vs hC S91 => ?_; clear S90; (with_reducible refine k_st S91 fun s101 S101 => ?_; clear S91; refine r_cons ?_); refine wpAny_For ?_; (with_reducible refine q_callB C1 g0 S101 (bb_range w) .T fun τ109 α109 s109 S109 => ?_; clear S101; refine r_range1 S109 fun r111 t111 u111 v111 s111 S111 => ?_; clear S109); rename St _ _ _ _ _ _ => S190; refine r_iterRange S190 .hd (small_up (k := 3) (by decide) (by decide) (by decide)).1 (small_up (k := 3) (by decide) (by decide) (by decide)).2 fun it s200 S200 => ?_; refine r_forRangeF (I := fun i news₁ => ∃ nw, news₁ = (ra, tup vs 0) :: (pre ++ nw) ∧ LW w e 0 (B + i) (high + i) false false fs fs false nw) C1 S200 ⟨_, rfl, W.lo0 (Nat.zero_le _)⟩ (fun _ _ _ _ _ _ S k => r_asg S k) (fun i news₁ t201 s201 hi hI S201 => ?_) (fun m₁ news₁ s202 hm hI S202 => ?_)
  · try k_fold
    obtain ⟨nw, rfl, W⟩ := hI
    try k_fold
    (with_reducible refine k_ex ?_; refine q_call C1 g0 S201 (gl_law_emit w) (keep_413 w) fun τ217 α217 s217 S217 => ?_; clear S201); refine c_constL (pre := _ :: _ :: pre) (C1.le (by decide)) S217 W (by lia) (by lia) (by lia) (by lia) fun news220 s220 W S220 => ?_; (try simp only [cA, nA] at S220); clear S217; (with_reducible refine k_sn ?_); rename St _ _ _ _ _ _ => S290; exact ⟨_, ⟨_, rfl, W.lo0 (Nat.zero_le _)⟩, S290⟩
  · try k_fold
    obtain ⟨nw, rfl, W⟩ := hI
    obtain ⟨t, rfl⟩ | ⟨t, t1, rfl⟩ | ⟨t, vs', rfl, hv1, hv2, row, hr, hx⟩ | ⟨t, x, tx, rfl, hx1, hx2⟩ := hC
    · (with_reducible refine seq_next ?_)
      try k_fold
      (with_reducible refine k_if ?_; refine isTrue_and ?_; refine wpAny_isTrue_Compare1 ?_; refine Subscript_ ?_); refine r_loc S202 ((hm _ (by decide)).trans rfl) ?_; (with_reducible refine r_int S202 fun t308 s308 S308 => ?_; clear S202); refine r_itemT S308 (.head _) (by decide) (by decide) rfl rfl ?_; (with_reducible refine r_int S308 fun t310 s310 S310 => ?_; clear S308; refine eq_int ?_; refine wpAny_truthy_bool ?_; refine t_neg (by simp only [beq_iff_eq, decide_eq_true_eq]; lia) ?_; refine t_ff ?_; refine k_if ?_; refine isTrue_and ?_; refine wpAny_isTrue_Compare1 ?_; refine Subscript_ ?_); refine r_loc S310 ((hm _ (by decide)).trans rfl) ?_; (with_reducible refine r_int S310 fun t321 s321 S321 => ?_; clear S310); refine r_itemT S321 (.head _) (by decide) (by decide) rfl rfl ?_; (with_reducible refine r_int S321 fun t323 s323 S323 => ?_; clear S321; refine eq_int ?_; refine wpAny_truthy_bool ?_; refine t_neg (by simp only [beq_iff_eq, decide_eq_true_eq]; lia) ?_; refine t_ff ?_; refine wpAny_execs_nil ?_; refine k_sn ?_; refine seq_next ?_; refine k_ex ?_; refine r_call ?_); refine r_glb C1 S323 (gl_law_emit w) ?_; refine r_callK (keep_413 w) ?_; refine spliced_more ?_; refine r_loc S323 ((hm _ (by decide)).trans rfl) ?_; refine spliced_more ?_; refine r_loc S323 ((hm _ (by decide)).trans rfl) ?_; (with_reducible refine q_sp g0 S323 fun τ344 α344 s344 S344 => ?_; clear S323; refine ⟨C1.inK S344, ?_⟩); rename St _ _ _ _ _ _ => S390; refine c_emitL (pre := pre) (high' := high + 1) (d' := false) (fsI' := fs) (C1.le (by decide)) S390 W (.cons _ _ .nil) (by lia) (by lia) (by lia) (by lia) (by lia) (fun _ => ps_sel27 (by lia)) fun news391 s391 W S391 => ?_; (with_reducible refine seq_next ?_; refine k_ex ?_; refine r_call ?_); refine r_glb C1 S391 (gl_law_emit w) ?_; refine r_callK (keep_413 w) ?_; refine spliced_more ?_; refine r_loc S391 ((hm _ (by decide)).trans rfl) ?_; (with_reducible refine q_sp g0 S391 fun τ418 α418 s418 S418 => ?_; clear S391; refine ⟨C1.inK S418, ?_⟩); refine c_dropL (pre := pre) (C1.le (by decide)) S418 W (by lia) (by lia) (by lia) (by lia) fun news421 s421 W S421 => ?_; (try simp only [cA, nA] at S421); clear S418; (with_reducible refine k_sn ?_); k_unfold; (with_reducible refine r_leave S421 fun S421 => ?_); exact k _ _ _ (LW.le W (by lia)) (by assumption)
    · (with_reducible refine seq_next ?_; refine k_if ?_; refine isTrue_and ?_; refine wpAny_isTrue_Compare1 ?_; refine Subscript_ ?_); refine r_loc S202 ((hm _ (by decide)).trans rfl) ?_; (with_reducible refine r_int S202 fun t508 s508 S508 => ?_; clear S202); refine r_itemT S508 (.head _) (by decide) (by decide) rfl rfl ?_; (with_reducible refine r_int S508 fun t510 s510 S510 => ?_; clear S508; refine eq_int ?_; refine wpAny_truthy_bool ?_); refine t_tt ?_; (with_reducible refine isTrue_and ?_; refine wpAny_isTrue_Compare1 ?_; refine r_call ?_); refine r_bui C1 S510 (gb_len w) (by boot_by_name) (by decide) ?_; refine r_callB ?_; refine spliced_more ?_; refine r_loc S510 ((hm _ (by decide)).trans rfl) ?_; (with_reducible refine spliced_none ?_); refine r_lenT S510 (.head _) (by (simp only [decide_eq_true_eq, List.length_append, List.length_cons, List.length_nil, List.length_reverse, List.length_replicate]; lia)) fun t522 s522 S522 => ?_; clear S510; (with_reducible refine r_int S522 fun t523 s523 S523 => ?_; clear S522; refine ne_int ?_; refine wpAny_truthy_bool ?_); refine t_ff ?_; (with_reducible refine t_ff ?_; refine k_if ?_; refine isTrue_and ?_; refine wpAny_isTrue_Compare1 ?_; refine Subscript_ ?_); refine r_loc S523 ((hm _ (by decide)).trans rfl) ?_; (with_reducible refine r_int S523 fun t534 s534 S534 => ?_; clear S523); refine r_itemT S534 (.head _) (by decide) (by decide) rfl rfl ?_; (with_reducible refine r_int S534 fun t536 s536 S536 => ?_; clear S534; refine eq_int ?_; refine wpAny_truthy_bool ?_); refine t_tt ?_; (with_reducible refine isTrue_and ?_; refine wpAny_isTrue_Compare1 ?_; refine Subscript_ ?_); refine r_loc S536 ((hm _ (by decide)).trans rfl) ?_; (with_reducible refine r_int S536 fun t544 s544 S544 => ?_; clear S536); refine r_itemT S544 (.head _) (by decide) (by decide) rfl rfl ?_; (with_reducible refine q_ev g0 S544 fun τ548 α548 s548 S548 => ?_; clear S544; refine ne_int ?_; refine wpAny_truthy_bool ?_); refine t_ff ?_; (with_reducible refine t_ff ?_; refine wpAny_execs_nil ?_; refine k_sn ?_; refine seq_next ?_; refine k_ex ?_; refine r_call ?_); refine r_glb C1 S548 (gl_law_emit w) ?_; refine r_callK (keep_413 w) ?_; refine spliced_more ?_; refine r_loc S548 ((hm _ (by decide)).trans rfl) ?_; refine spliced_more ?_; refine r_loc S548 ((hm _ (by decide)).trans rfl) ?_; (with_reducible refine q_sp g0 S548 fun τ569 α569 s569 S569 => ?_; clear S548; refine ⟨C1.inK S569, ?_⟩); rename St _ _ _ _ _ _ => S590; refine c_emitL (pre := pre) (high' := high + 1) (d' := false) (fsI' := fs) (C1.le (by decide)) S590 W (.cons _ _ (.cons _ _ .nil)) (by lia) (by lia) (by lia) (by lia) (by lia) (fun _ => ps_sel28 (by lia)) fun news591 s591 W S591 => ?_; (with_reducible refine seq_next ?_; refine k_ex ?_; refine r_call ?_); refine r_glb C1 S591 (gl_law_emit w) ?_; refine r_callK (keep_413 w) ?_; refine spliced_more ?_; refine r_loc S591 ((hm _ (by decide)).trans rfl) ?_; (with_reducible refine q_sp g0 S591 fun τ618 α618 s618 S618 => ?_; clear S591; refine ⟨C1.inK S618, ?_⟩); refine c_dropL (pre := pre) (C1.le (by decide)) S618 W (by lia) (by lia) (by lia) (by lia) fun news621 s621 W S621 => ?_; (try simp only [cA, nA] at S621); clear S618; (with_reducible refine k_sn ?_); k_unfold; (with_reducible refine r_leave S621 fun S621 => ?_); exact k _ _ _ (LW.le W (by lia)) (by assumption)
    · (with_reducible refine seq_next ?_; refine k_if ?_; refine isTrue_and ?_; refine wpAny_isTrue_Compare1 ?_; refine Subscript_ ?_); refine r_loc S202 ((hm _ (by decide)).trans rfl) ?_; (with_reducible refine r_int S202 fun t708 s708 S708 => ?_; clear S202); refine r_itemTn S708 (.head _) (by decide) (by simp only [List.length_cons]; lia) (by simp only [List.length_cons]; lia) (by with_unfolding_all rfl) ?_; (with_reducible refine r_int S708 fun t710 s710 S710 => ?_; clear S708; refine eq_int ?_; refine wpAny_truthy_bool ?_); refine t_tt ?_; (with_reducible refine isTrue_and ?_; refine wpAny_isTrue_Compare1 ?_; refine r_call ?_); refine r_bui C1 S710 (gb_len w) (by boot_by_name) (by decide) ?_; refine r_callB ?_; refine spliced_more ?_; refine r_loc S710 ((hm _ (by decide)).trans rfl) ?_; (with_reducible refine spliced_none ?_); refine r_lenT S710 (.head _) (by (simp only [decide_eq_true_eq, List.length_append, List.length_cons, List.length_nil, List.length_reverse, List.length_replicate]; lia)) fun t722 s722 S722 => ?_; clear S710; (with_reducible refine r_int S722 fun t723 s723 S723 => ?_; clear S722; refine ne_int ?_; refine wpAny_truthy_bool ?_; refine t_pos (by simp only [bne_iff_ne, ne_eq, List.length_cons]; lia) ?_; refine isTrue_and_nil ?_; refine t_tt ?_; refine k_ex ?_; refine r_call ?_); refine r_glb C1 S723 (gl_law_bad w) ?_; refine r_callK (keep_420 w) ?_; refine spliced_more ?_; refine r_loc S723 ((hm _ (by decide)).trans rfl) ?_; (with_reducible refine q_sp g0 S723 fun τ737 α737 s737 S737 => ?_; clear S723; refine ⟨C1.inK S737, ?_⟩); refine c_badL (pre := _ :: pre) (C1.le (by decide)) S737 W (by lia) fun news740 s740 W S740 => ?_; (try simp only [cA, nA] at S740); clear S737; (with_reducible refine k_sn ?_; refine seq_next ?_; refine k_ex ?_; refine r_call ?_); refine r_glb C1 S740 (gl_law_emit w) ?_; refine r_callK (keep_413 w) ?_; refine spliced_more ?_; refine r_loc S740 ((hm _ (by decide)).trans rfl) ?_; refine spliced_more ?_; refine r_loc S740 ((hm _ (by decide)).trans rfl) ?_; (with_reducible refine q_sp g0 S740 fun τ756 α756 s756 S756 => ?_; clear S740; refine ⟨C1.inK S756, ?_⟩); rename St _ _ _ _ _ _ => S790; refine c_failL (pre := pre) (high' := high + 1) false fs (C1.le (by decide)) S790 W hr (by lia) (by lia) (by lia) (by lia) (hx _ _ _ _) fun news791 s791 W S791 => ?_; (with_reducible refine seq_next ?_; refine k_ex ?_; refine r_call ?_); refine r_glb C1 S791 (gl_law_emit w) ?_; refine r_callK (keep_413 w) ?_; refine spliced_more ?_; refine r_loc S791 ((hm _ (by decide)).trans rfl) ?_; (with_reducible refine q_sp g0 S791 fun τ818 α818 s818 S818 => ?_; clear S791; refine ⟨C1.inK S818, ?_⟩); refine c_dropL (pre := pre) (C1.le (by decide)) S818 W (by lia) (by lia) (by lia) (by lia) fun news821 s821 W S821 => ?_; (try simp only [cA, nA] at S821); clear S818; (with_reducible refine k_sn ?_); k_unfold; (with_reducible refine r_leave S821 fun S821 => ?_); exact k _ _ _ (LW.le W (by lia)) (by assumption)
    · (with_reducible refine seq_next ?_; refine k_if ?_; refine isTrue_and ?_; refine wpAny_isTrue_Compare1 ?_; refine Subscript_ ?_); refine r_loc S202 ((hm _ (by decide)).trans rfl) ?_; (with_reducible refine r_int S202 fun t908 s908 S908 => ?_; clear S202); refine r_itemT S908 (.head _) (by decide) (by decide) rfl rfl ?_; (with_reducible refine r_int S908 fun t910 s910 S910 => ?_; clear S908; refine eq_int ?_; refine wpAny_truthy_bool ?_); refine t_tt ?_; (with_reducible refine isTrue_and ?_; refine wpAny_isTrue_Compare1 ?_; refine r_call ?_); refine r_bui C1 S910 (gb_len w) (by boot_by_name) (by decide) ?_; refine r_callB ?_; refine spliced_more ?_; refine r_loc S910 ((hm _ (by decide)).trans rfl) ?_; (with_reducible refine spliced_none ?_); refine r_lenT S910 (.head _) (by (simp only [decide_eq_true_eq, List.length_append, List.length_cons, List.length_nil, List.length_reverse, List.length_replicate]; lia)) fun t922 s922 S922 => ?_; clear S910; (with_reducible refine r_int S922 fun t923 s923 S923 => ?_; clear S922; refine ne_int ?_; refine wpAny_truthy_bool ?_); refine t_ff ?_; (with_reducible refine t_ff ?_; refine k_if ?_; refine isTrue_and ?_; refine wpAny_isTrue_Compare1 ?_; refine Subscript_ ?_); refine r_loc S923 ((hm _ (by decide)).trans rfl) ?_; (with_reducible refine r_int S923 fun t934 s934 S934 => ?_; clear S923); refine r_itemT S934 (.head _) (by decide) (by decide) rfl rfl ?_; (with_reducible refine r_int S934 fun t936 s936 S936 => ?_; clear S934; refine eq_int ?_; refine wpAny_truthy_bool ?_); refine t_tt ?_; (with_reducible refine isTrue_and ?_; refine wpAny_isTrue_Compare1 ?_; refine Subscript_ ?_); refine r_loc S936 ((hm _ (by decide)).trans rfl) ?_; (with_reducible refine r_int S936 fun t944 s944 S944 => ?_; clear S936); refine r_itemT S944 (.head _) (by decide) (by decide) rfl rfl ?_; (with_reducible refine q_ev g0 S944 fun τ948 α948 s948 S948 => ?_; clear S944; refine ne_int ?_; refine wpAny_truthy_bool ?_; refine t_pos (by simp only [bne_iff_ne, ne_eq, List.length_cons]; lia) ?_; refine isTrue_and_nil ?_; refine t_tt ?_; refine k_ex ?_; refine r_call ?_); refine r_glb C1 S948 (gl_law_bad w) ?_; refine r_callK (keep_420 w) ?_; refine spliced_more ?_; refine r_loc S948 ((hm _ (by decide)).trans rfl) ?_; (with_reducible refine q_sp g0 S948 fun τ962 α962 s962 S962 => ?_; clear S948; refine ⟨C1.inK S962, ?_⟩); refine c_badL (pre := _ :: pre) (C1.le (by decide)) S962 W (by lia) fun news965 s965 W S965 => ?_; (try simp only [cA, nA] at S965); clear S962; (with_reducible refine k_sn ?_; refine k_sn ?_; refine seq_next ?_; refine k_ex ?_; refine r_call ?_); refine r_glb C1 S965 (gl_law_emit w) ?_; refine r_callK (keep_413 w) ?_; refine spliced_more ?_; refine r_loc S965 ((hm _ (by decide)).trans rfl) ?_; refine spliced_more ?_; refine r_loc S965 ((hm _ (by decide)).trans rfl) ?_; (with_reducible refine q_sp g0 S965 fun τ983 α983 s983 S983 => ?_; clear S965; refine ⟨C1.inK S983, ?_⟩); rename St _ _ _ _ _ _ => S990; refine c_failL (pre := pre) (high' := high + 1) false fs (C1.le (by decide)) S990 W (.cons _ _ (.cons _ _ .nil)) (by lia) (by lia) (by lia) (by lia) (.selT hx2) fun news991 s991 W S991 => ?_; (with_reducible refine seq_next ?_; refine k_ex ?_; refine r_call ?_); refine r_glb C1 S991 (gl_law_emit w) ?_; refine r_callK (keep_413 w) ?_; refine spliced_more ?_; refine r_loc S991 ((hm _ (by decide)).trans rfl) ?_; (with_reducible refine q_sp g0 S991 fun τ1018 α1018 s1018 S1018 => ?_; clear S991; refine ⟨C1.inK S1018, ?_⟩); refine c_dropL (pre := pre) (C1.le (by decide)) S1018 W (by lia) (by lia) (by lia) (by lia) fun news1021 s1021 W S1021 => ?_; (try simp only [cA, nA] at S1021); clear S1018; (with_reducible refine k_sn ?_); k_unfold; (with_reducible refine r_leave S1021 fun S1021 => ?_); exact k _ _ _ (LW.le W (by lia)) (by assumption)
end
end Mine
end
section
open PySem PySem.W PyProof.Rows PySem.Calls PySem.Spec
set_option maxHeartbeats 2000000
namespace Mine
section
variable {w : World} {base : Heap} {outer : List Env} {env : Env} {A : Around} {c : Shared} {g : Heap} {L : Addr} {n : Nat} {m : Loc} {news news' : Led} {s : Shared} {E : Value → Shared → Prop}
theorem rq_loc {env' : Env} {x : Str} {pos : Pos} {v : Value} {Q : Value → Shared → Prop} (S : St c g L m news s) (hv : m.lookup x = some v) (k : Q v s)
    (hL : env'.locals = L := by rfl) (hk : env'.scope.kind = .function := by rfl) (hx : env'.kindOf x = some .local := by rfl) (hd : (x == ("__debug__" : Str)) = false := by decide) :
    wpAny (model PRG w) A (eval (.Name x pos) env') Q E s := wpAny_Name (wpAny_loadName_local hk hx (hL ▸ S.fr.ns) hv k) hd
theorem rq_glb {env' : Env} {x : Str} {pos : Pos} {v : Value} {Q : Value → Shared → Prop} (C : Cx w base outer env A g L n) (S : St c g L m news s) (e : nsIn (Mine.hd.heap_1 w.params) mainGlobals x = some (some v)) (k : Q v s)
    (hG : env'.globals = mainGlobals := by rfl) (hk : env'.scope.kind = .function := by rfl) (hx : env'.kindOf x = some .globalImplicit := by rfl) (hd : (x == ("__debug__" : Str)) = false := by decide) :
    wpAny (model PRG w) A (eval (.Name x pos) env') Q E s := by
  obtain ⟨mean, mg, mb, T⟩ := C.T
  exact Name_function_global hk hx (loadGlobal_global (env := env') (by rw [hG]; exact (topRead_of T).g.keeps S.fr.keep) (mg_of C.K (topRead_of T).g e) k) hd
theorem rq_bui {env' : Env} {x : Str} {pos : Pos} {v : Value} {Q : Value → Shared → Prop} (C : Cx w base outer env A g L n) (S : St c g L m news s) (e : nsIn (Mine.hd.heap_1 w.params) mainGlobals x = some none) (hv : bootBuiltins x = some v) (hn : x ≠ "__name__") (k : Q v s)
    (hG : env'.globals = mainGlobals := by rfl) (hB : env'.builtins = builtinsNs := by rfl) (hk : env'.scope.kind = .function := by rfl) (hx : env'.kindOf x = some .globalImplicit := by rfl) (hd : (x == ("__debug__" : Str)) = false := by decide) :
    wpAny (model PRG w) A (eval (.Name x pos) env') Q E s := by
  obtain ⟨mean, mg, mb, T⟩ := C.T
  have T := topRead_of T
  exact Name_function_global hk hx (loadGlobal_builtin (env := env') (by rw [hG]; exact T.g.keeps S.fr.keep) (mg_none_of C.K T.g e) (by rw [hB]; exact T.b.keeps S.fr.keep) ((T.builtins x hn).trans hv) k) hd
theorem rq_cell {env' : Env} {x : Str} {ca : Addr} {o : Obj} {pos : Pos} {v : Value} {Q : Value → Shared → Prop} (S : St c g L m news s) (hc : env'.cells.lookup x = some ca) (hm : (ca, o) ∈ news) (ho : o.data = .cell (some v)) (k : Q v s)
    (hk : env'.scope.kind = .function := by rfl) (hx : env'.kindOf x = some .cell := by rfl) (hd : (x == ("__debug__" : Str)) = false := by decide) :
    wpAny (model PRG w) A (eval (.Name x pos) env') Q E s := wpAny_Name (wpAny_loadName_cell hk hx hc ⟨o, S.get hm, ho⟩ k) hd
theorem St.stored {x : Str} {v : Value} (S : St c g L m news s) {h' : Heap} {tk : Nat} (F : Fr g L h' (fun y => if y = x then some v else m.lookup y)) (N : News g L h' news) : St c g L ((x, v) :: m) news { s with heap := h', toks := tk } := ⟨(by
    have e : (fun y => if y = x then some v else m.lookup y) = (fun y => ((x, v) :: m).lookup y) := by
      funext y
      rw [List.lookup_cons]
      by_cases h : y = x
      · subst h; simp
      · rw [if_neg h, show (y == x) = false from by simpa using h]
    rw [e] at F; exact F), N, S.nd, S.gens, S.drawn, S.os⟩
theorem rq_store {env' : Env} {x : Str} {v : Value} {Q : Unit → Shared → Prop} (S : St c g L m news s) (k : ∀ s', St c g L ((x, v) :: m) news s' → Q () s')
    (hL : env'.locals = L := by rfl) (hk : env'.scope.kind = .function := by rfl) (hx : env'.kindOf x = some .local := by rfl) : wpAny (model PRG w) A (storeName env' x v) Q E s :=
  wpAny_storeName_local hx (hL ▸ S.fr.ns) (fun h' hn hs => k _ (S.stored (S.fr.set (hL ▸ hn) (hL ▸ hs)) (S.nw.set (hL ▸ hs)))) (by rw [hk]; rfl)
theorem rq_storeC {env' : Env} {x : Str} {ca : Addr} {o : Obj} {v₀ : Option Value} {v : Value} {Q : Unit → Shared → Prop} {news' : Obj → Led} (S : St c g L m news s) (hc : env'.cells.lookup x = some ca) (U : ∀ o', At (ca, o) (ca, o') news (news' o')) (ho : o.data = .cell v₀)
    (k : ∀ o' s', o'.data = .cell (some v) → St c g L m (news' o') s' → Q () s')
    (hk : env'.scope.kind = .function := by rfl) (hx : env'.kindOf x = some .cell := by rfl) : wpAny (model PRG w) A (storeName env' x v) Q E s := by
  refine wpAny_storeName_cell hk hx hc ⟨o, S.get (U o).mem, ho⟩ fun h' hv hs => ?_
  obtain ⟨o', ho', hd'⟩ := hv
  exact k o' _ hd' (S.upd (tk := s.toks) (U o') hs ho')
theorem rq_asg {env' : Env} {x : Str} {xp : Pos} {v : Value} {Q : Unit → Shared → Prop} (k : wpAny (model PRG w) A (storeName env' x v) Q E s) : wpAny (model PRG w) A (assign (.Name x xp) env' v) Q E s := PyProof.Rows.assign_Name k
theorem r_codeC {f : Addr} {args : Args} {binds m' : Loc} {n1 n2 : Str} {v1 v2 : Option Value} {R : Result → Shared → Prop} {qual name : Str} {params : Arguments} {body : List Stmt} {scope : Scope} {dV kV doc pm cdv ct oc : Value} {an od : Option Addr} {osl : Array (Option Value)}
    (C : Cx w base outer env A g L (n + 1)) (S : St c g L m news s)
    (ho : (Mine.hd.heap_1 w.params).lookup f = some ⟨oc, od, .func (fnOf name qual params body scope dV kV doc pm an cdv ct), osl⟩) (hcd : codeIn (Mine.hd.heap_1 w.params) cdv qual = true)
    (hbind : BindsTo s (fnOf name qual params body scope dV kV doc pm an cdv ct) args binds)
    (hkind : ∀ n, ∀ x ∈ binds, scope.names.lookup x.1 = some .local ∨ (scope.names.lookup x.1 = some .cell ∧ ((cellsFrom n scope.names []).lookup x.1).isSome = true))
    (hcl : ∀ k, cellsFrom k scope.names [] = [(n2, k + 1), (n1, k)]) (hne : n1 ≠ n2)
    (hm : ∀ L', bindL (envOfC qual scope L' f cdv).kindOf binds (fun _ => none) = fun y => m'.lookup y)
    (h1 : ∀ L', bindC (envOfC qual scope L' f cdv).kindOf binds (fun _ => none) n1 = v1) (h2 : ∀ L', bindC (envOfC qual scope L' f cdv).kindOf binds (fun _ => none) n2 = v2)
    (h : ∀ g' L' s' o1 o2, o1.data = .cell v1 → o2.data = .cell v2 → Cx w base (env :: outer) (envX qual scope L' f cdv [(n2, L' + 1 + 1), (n1, L' + 1)]) (A.deeper (envX qual scope L' f cdv [(n2, L' + 1 + 1), (n1, L' + 1)])) g' L' n → St c g' L' m' ((L' + 1 + 1, o2) :: (L' + 1, o1) :: news) s' → Fr g L g' (fun y => m.lookup y) →
      wpAny (model PRG w) (A.deeper (envX qual scope L' f cdv [(n2, L' + 1 + 1), (n1, L' + 1)])) (execs body (envX qual scope L' f cdv [(n2, L' + 1 + 1), (n1, L' + 1)]))
        (fun fl s' => EndOk c g L m g' (retOf fl) (fun v s' => R (.ok (.ret v)) s') s')
        (fun e s' => wpAny (model PRG w) (A.deeper (envX qual scope L' f cdv [(n2, L' + 1 + 1), (n1, L' + 1)])) (leaving (envX qual scope L' f cdv [(n2, L' + 1 + 1), (n1, L' + 1)]) e) (fun _ s'' => R (.error e) s'') (fun e' s'' => R (.error e') s'') s') s')
    (hco : scope.isCoroutine = false := by rfl) (hgen : scope.isGenerator = false := by rfl) (hk : scope.kind = .function := by rfl) :
    codeAny (model PRG w) A (.call (.ref f) args) R s := by
  obtain ⟨A₀, B⟩ := C.below
  obtain ⟨mean, mg, mb, T⟩ := C.T
  refine callX_cells B S.fr S.nw T.nolimit C.fr C.ef C.ek (C.inK S _ _ ho) rfl (codeRec_of (C.inK S) hcd) (Nat.lt_of_lt_of_le (Nat.lt_of_le_of_lt (Nat.le_add_right _ _) C.dp) (by decide)) hbind hkind (by rw [hcl]; simp [Ne.symm hne]) (fun g' L' h₁ tk cells FG F' N' Y B' st lt => ?_) hco hgen hk
  have ee : envOfC qual scope L' f cdv = envX qual scope L' f cdv [(n2, L' + 1 + 1), (n1, L' + 1)] := by
    rw [← hcl]; rfl
  rw [hcl] at Y
  obtain ⟨o2, o1, rfl, d2, d1⟩ := Y.two
  rw [h1] at d1
  rw [h2] at d2
  rw [hm] at F'
  rw [ee]
  have nd : ((((L' + 1 + 1, o2) :: (L' + 1, o1) :: news) : Led).map (·.1)).Nodup := by
    rw [List.map_cons, List.map_cons, List.nodup_cons, List.nodup_cons]
    refine ⟨fun hm => ?_, fun hm => ?_, S.nd⟩
    · rcases List.mem_cons.mp hm with e | hm
      · have e' : L' + 1 + 1 = L' + 1 := e
        exact absurd e' (Nat.succ_ne_self _)
      · obtain ⟨p, hp, e⟩ := List.mem_map.mp hm
        have := lt p hp
        have e' : p.1 = L' + 1 + 1 := e
        rw [e'] at this
        exact absurd this (Nat.not_lt.mpr (Nat.le_succ_of_le (Nat.le_succ _)))
    · obtain ⟨p, hp, e⟩ := List.mem_map.mp hm
      have := lt p hp
      have e' : p.1 = L' + 1 := e
      rw [e'] at this
      exact absurd this (Nat.not_lt.mpr (Nat.le_succ _))
  have S' : St c g' L' m' ((L' + 1 + 1, o2) :: (L' + 1, o1) :: news) { s with heap := h₁, toks := tk } := ⟨F', N', nd, S.gens, S.drawn, S.os⟩
  refine wpAny_mono (h g' L' _ o1 o2 d1 d2 ⟨⟨A, B'⟩, C.K.keeps st, ⟨mean, mg, mb, T.keeps st⟩, Around.frames_deeper C.fr, rfl, hk, C.hn, ?_, ?_⟩ S' FG) (fun fl s' hl => by cases fl <;> exact endOk_leaveK hl) fun _ _ x => x
  · have := C.dp; show A.depth + 1 + n < _; lia
  · have := C.un; show A.units + 3 + 8 * n < _; lia
theorem r_defC {f : Addr} {vals : List Value} {binds m' : Loc} {n1 n2 : Str} {v1 v2 : Option Value} {Q : Value → Shared → Prop} {qual name : Str} {params : Arguments} {body : List Stmt} {scope : Scope} {dV kV doc pm cdv ct oc : Value} {an od : Option Addr} {osl : Array (Option Value)}
    (C : Cx w base outer env A g L (n + 1)) (S : St c g L m news s)
    (ho : (Mine.hd.heap_1 w.params).lookup f = some ⟨oc, od, .func (fnOf name qual params body scope dV kV doc pm an cdv ct), osl⟩) (hcd : codeIn (Mine.hd.heap_1 w.params) cdv qual = true)
    (hbind : BindsTo s (fnOf name qual params body scope dV kV doc pm an cdv ct) ⟨vals, []⟩ binds)
    (hkind : ∀ n, ∀ x ∈ binds, scope.names.lookup x.1 = some .local ∨ (scope.names.lookup x.1 = some .cell ∧ ((cellsFrom n scope.names []).lookup x.1).isSome = true))
    (hcl : ∀ k, cellsFrom k scope.names [] = [(n2, k + 1), (n1, k)]) (hne : n1 ≠ n2)
    (hm : ∀ L', bindL (envOfC qual scope L' f cdv).kindOf binds (fun _ => none) = fun y => m'.lookup y)
    (h1 : ∀ L', bindC (envOfC qual scope L' f cdv).kindOf binds (fun _ => none) n1 = v1) (h2 : ∀ L', bindC (envOfC qual scope L' f cdv).kindOf binds (fun _ => none) n2 = v2)
    (h : ∀ g' L' s' o1 o2, o1.data = .cell v1 → o2.data = .cell v2 → Cx w base (env :: outer) (envX qual scope L' f cdv [(n2, L' + 1 + 1), (n1, L' + 1)]) (A.deeper (envX qual scope L' f cdv [(n2, L' + 1 + 1), (n1, L' + 1)])) g' L' n → St c g' L' m' ((L' + 1 + 1, o2) :: (L' + 1, o1) :: news) s' → Fr g L g' (fun y => m.lookup y) →
      wpAny (model PRG w) (A.deeper (envX qual scope L' f cdv [(n2, L' + 1 + 1), (n1, L' + 1)])) (execs body (envX qual scope L' f cdv [(n2, L' + 1 + 1), (n1, L' + 1)]))
        (fun fl s' => EndOk c g L m g' (retOf fl) Q s')
        (fun e s' => wpAny (model PRG w) (A.deeper (envX qual scope L' f cdv [(n2, L' + 1 + 1), (n1, L' + 1)])) (leaving (envX qual scope L' f cdv [(n2, L' + 1 + 1), (n1, L' + 1)]) e) (fun _ s'' => E e s'') (fun e' s'' => E e' s'') s') s')
    (hco : scope.isCoroutine = false := by rfl) (hgen : scope.isGenerator = false := by rfl) (hk : scope.kind = .function := by rfl) :
    wpAny (model PRG w) A (call (.ref f) vals) Q E s := wpAny_call (r_codeC C S ho hcd hbind hkind hcl hne hm h1 h2 h hco hgen hk)
end
end Mine
end
section
open PySem PySem.W PyProof.Rows PySem.Calls PySem.Spec
set_option maxHeartbeats 2000000
namespace Mine
section
variable {w : World} {base : Heap} {outer : List Env} {env : Env} {A : Around} {c : Shared} {g : Heap} {L : Addr} {n : Nat} {m : Loc} {news news' : Led} {s : Shared} {E : Value → Shared → Prop}
theorem iter_self_rng {I : Addr} {x left step : Int} {Q : Value → Shared → Prop} (hI : s.heap.get? I = some (rngIt x left step)) (k : Q (.ref I) s) : wpAny (model PRG w) A (pyIter (.ref I)) Q E s := by
  exact wpAny_pyIter_rangeiter hI k
theorem r_compA {elt iter : Expr} {x y : Str} {px py : Pos} {scope : Scope} {cl' : List (Str × Addr)} {pos spos : Pos} {k' : Nat} {Q : Flow → Shared → Prop} (J : Nat → List Value → Led → Prop) (C : Cx w base outer env A g L n)
    (h : wpAny (model PRG w) A (eval iter env) (fun xv s₁ => wpAny (model PRG w) A (pyIter xv) (fun it s₂ => ∃ I news₁, it = .ref I ∧ St c g L m ((I, rngIt 0 k' 1) :: news₁) s₂ ∧ J 0 [] news₁) E s₁) E s)
    (helt : ∀ i ys newsi Cc oC D kD I oI s₃ (E' : Value → Shared → Prop), i < k' → J i ys newsi → St c g L m ((Cc, oC) :: (D, lst ys kD) :: (I, oI) :: newsi) s₃ →
      wpAny (model PRG w) A (eval elt (compEnvC scope cl' Cc env)) (fun v s₄ => ∃ newsi', J (i + 1) (ys ++ [v]) newsi' ∧ St c g L m ((Cc, oC) :: (D, lst ys kD) :: (I, oI) :: newsi') s₄) E' s₃)
    (done : ∀ D ys kD newsk s', J k' ys newsk → St c g L ((y, .ref D) :: m) ((D, lst ys kD) :: newsk) s' → Q .next s')
    (hJ : ∀ i ys newsi, J i ys newsi → ys.length = i) (hk' : k' ≤ 1000)
    (hclos : closureFor scope env = pure cl' := by rfl)
    (hsw : swapsWith (.ListComp elt [⟨.Name x px, iter, [], 0⟩] scope pos) (some (.Name y py)) spos.line env = pure true := by rfl)
    (hcell : ∀ z ∈ scope.names, z.2 ≠ .cell := by decide) (hkind : scope.kind = .function := by rfl)
    (hnames : ∀ z ∈ scope.names, z.2 = .local → scope.names.lookup z.1 = some .local := by decide) (hx : scope.names.lookup x = some .local := by rfl)
    (hL : env.locals = L := by rfl) (hy : env.kindOf y = some .local := by rfl)
    (hs : ∀ x, foldedSetIterable iter env x = pure x := by intro _; rfl) :
    wpAny (model PRG w) A (exec (.Assign [.Name y py] (.ListComp elt [⟨.Name x px, iter, [], 0⟩] scope pos) spos) env) Q E s := by
  have hp : (env.scope.kind == .class || (env.scope.kind == .module && env.locals != env.globals)) = false := by rw [C.ek]; rfl
  rw [exec_Assign_Name_used _ _ _ _ hsw]
  refine wpAny_bind (wpAny_standAt (wpAny_bind ?_))
  show wpAny _ A (do let _ ← comprehension (.ListComp elt [⟨.Name x px, iter, [], 0⟩] scope pos) scope env _ (newList []) false (eval iter env) (some (assign (.Name y py) env))) _ _ s
  refine wpAny_bind (wpAny_mono (wpAny_comprehension_free (use := some (assign (.Name y py) env)) (Q := fun _ s' => Q .next s') rfl hs hclos hkind hnames
    (wpAny_mono h (fun xv s₁ h₁ => wpAny_mono h₁ (fun it s₂ h₂ => ?_) fun _ _ e => e) fun _ _ e => e)) (fun _ s' hq => wpAny_pure (wpAny_pure hq)) fun _ _ e => e)
  obtain ⟨I, news₁, rfl, S₂, hJ0⟩ := h₂
  refine r_list S₂ (by simp) fun D s₃ S₃ => ?_; refine wpAny_newFunctionEnv hcell (by intro y hy; simp at hy) (fun h₁ hns₁ hsb₁ => ?_) hkind
  try dsimp only at hns₁ hsb₁ ⊢
  have hP := S₃.push (o := { cls := .type "dict", data := .dict #[] }) (tk := s₃.toks)
  obtain ⟨oC, es, ep, ho, hd, hkk, hf⟩ := id hns₁
  have S₄ := hP.upd (o' := oC) (tk := s₃.toks + ([] : List (Str × Value)).length) .hd hsb₁ ho
  generalize hCc : s₃.heap.objs.size = Cc at *
  show codeAny _ _ (.compStart _ 0 (.ref I) (.ref D) (compEnvC scope cl' Cc env)) _ _
  have loop : codeAny (model PRG w) A (.compLoop (.ListComp elt [⟨.Name x px, iter, [], 0⟩] scope pos) 0 (.ref I) (.ref D) (compEnvC scope cl' Cc env)) (compPost (model PRG w) A E (some (assign (.Name y py) env)) (fun _ s' => Q .next s') (.ref D) Cc) { s₃ with heap := h₁, toks := s₃.toks + ([] : List (Str × Value)).length } := by
    refine codeAny_compLoop_list (fun j s' => ∃ i ys newsi oC kD mC, i + j = k' ∧ J i ys newsi ∧ s'.heap.Ns Cc mC ∧ St c g L m ((Cc, oC) :: (D, lst ys kD) :: (I, rngIt (i : Int) (k' - i : Int) 1) :: newsi) s') ?_ k' ⟨0, [], news₁, oC, 0, _, by lia, hJ0, hns₁, by simpa using S₄⟩
    rintro j s' ⟨i, ys, newsi, oC', kD, mC, hij, hJi, hn', S'⟩
    by_cases hlt : i < k'
    · refine wpAny_pyNext_range_item (S'.get (.tail _ (.tail _ (.head _)))) (by lia) fun h' hit hs => ?_
      have S5 := S'.upd (o' := rngIt (i + 1 : Int) (k' - i - 1 : Int) 1) (tk := s'.toks + 1) (.tl (.tl .hd)) hs hit
      have nd := S'.nd
      have hIC : Cc ≠ I := by
        intro e
        rw [List.map_cons, List.map_cons, List.map_cons, List.nodup_cons] at nd
        exact nd.1 (by rw [e]; exact .tail _ (.head _))
      have hn5 : h'.Ns Cc mC := hn'.sameBut hs hIC
      have hxl : (compEnvC scope cl' Cc env).kindOf x = some .local := lookup_relabel_local hx
      refine PyProof.Rows.assign_Name (wpAny_storeName_local hxl hn5 (fun h6 hn6 hs6 => ?_) (by simp [compEnvC, relabel, hkind]))
      obtain ⟨oC6, es6, ep6, ho6, hd6, hk6, hf6⟩ := id hn6
      have S6 := S5.upd (o' := oC6) (tk := s'.toks + 1 + 1) .hd hs6 ho6
      refine wpAny_mono (helt i ys newsi Cc oC6 D kD I _ _ _ hlt hJi S6) (fun v s7 h7 => ?_) fun _ _ e => e
      obtain ⟨newsi', hJ', S7⟩ := h7
      have hlen := hJ _ _ _ hJi
      refine r_append S7 (.tl .hd) (by rw [hlen, sizeLine_eq]; lia) fun s8 S8 => ?_
      have e1 : (i : Int) + 1 = ((i + 1 : Nat) : Int) := by lia
      have e2 : (k' - i - 1 : Int) = (k' - ((i + 1 : Nat) : Int) : Int) := by lia
      rw [e1, e2] at S8
      refine ⟨j - 1, by lia, i + 1, ys ++ [v], newsi', oC6, _, _, by lia, hJ', ⟨oC6, es6, ep6, S8.get (.head _), hd6, hk6, hf6⟩, S8⟩
    · have hi : i = k' := by lia
      subst hi
      refine wpAny_pyNext_range_end C.hn (S'.get (.tail _ (.tail _ (.head _)))) (by lia) fun h' hx' => ?_
      have S5 := S'.extBut (tk := s'.toks) (.tl (.tl .hd)) hx'
      have nC : h'.Ns Cc mC := by
        obtain ⟨o, es', ep', ho', hd', hk', hf'⟩ := hn'
        have nd := S'.nd
        have hIC : Cc ≠ I := by
          intro e
          rw [List.map_cons, List.map_cons, List.map_cons, List.nodup_cons] at nd
          exact nd.1 (by rw [e]; exact .tail _ (.head _))
        exact ⟨o, es', ep', hx' _ _ hIC ho', hd', hk', hf'⟩
      show wpAny _ A (assign (.Name y py) env (.ref D)) _ _ _
      refine rq_asg (rq_store S5 (fun s6 S6 => ?_) hL C.ek hy)
      have : s6.heap.Ns Cc mC := by
        obtain ⟨o, es', ep', ho', hd', hk', hf'⟩ := nC
        have e := S5.get (.head _)
        rw [show ({ s' with heap := h', toks := s'.toks } : Shared).heap = h' from rfl, ho'] at e
        cases e
        exact ⟨oC', es', ep', S6.get (.head _), hd', hk', hf'⟩
      exact ⟨mC, this, fun h'' hs'' => done D ys kD newsi _ hJi (S6.extBut (tk := s6.toks) .hd hs''.extBut)⟩
  exact codeAny_compStart_list loop (iter_self_rng (S₄.get (.tail _ (.tail _ (.head _)))) loop)
theorem r_max {a : Addr} {vs : List Value} {ns : List Int} {k' : Nat} {Q : Value → Shared → Prop} (C : Cx w base outer env A g L n) (S : St c g L m news s) (ha : (a, lst vs k') ∈ news) (hi : IntsAre vs ns) (hne : 0 < ns.length)
    (k : ∀ M t s', M ∈ ns → (∀ a, a ∈ ns → a ≤ M) → St c g L m news s' → Q (.int M t) s') : wpAny (model PRG w) A (call (.builtin "max") [.ref a]) Q E s :=
  max_list_N C.hn S.fr S.nw ⟨_, S.get ha, rfl, _, rfl⟩ hi hne fun h' M t tk F N h1 h2 => k M t _ h1 h2 (S.le F N)
theorem r_addL {a b : Addr} {vs ws : List Value} {k1 k2 : Nat} {Q : Value → Shared → Prop} (S : St c g L m news s) (ha : (a, lst vs k1) ∈ news) (hb : (b, lst ws k2) ∈ news) (hz : vs.length + ws.length ≤ 1000)
    (k : ∀ d s', St c g L m ((d, lst (vs ++ ws) 0) :: news) s' → Q (.ref d) s') : wpAny (model PRG w) A (binaryOp .Add (.ref a) (.ref b)) Q E s := by
  refine P.add_list (S.get ha) (S.get hb) ?_ (by rw [List.size_toArray, List.size_toArray, sizeLine_eq]; lia)
  have S1 := S.push (o := lst (vs ++ ws) 0) (tk := s.toks)
  have e : (vs ++ ws).toArray = vs.toArray ++ ws.toArray := by simp
  have := k _ _ S1
  rw [show (lst (vs ++ ws) 0) = { cls := .type "list", data := .seq (vs.toArray ++ ws.toArray) } from by rw [← e]] at this
  exact this
theorem r_tupL {a : Addr} {vs : List Value} {k1 : Nat} {Q : Value → Shared → Prop} (S : St c g L m news s) (ha : (a, lst vs k1) ∈ news) (hz : vs.length ≤ 1000)
    (k : ∀ d s', St c g L m ((d, tup vs 0) :: news) s' → Q (.ref d) s') : wpAny (model PRG w) A (call (.type "tuple") [.ref a]) Q E s := by
  refine call_tuple_list (items := vs.toArray) ⟨_, S.get ha, rfl, _, rfl⟩ (fun h' hk => ?_) (by rw [List.size_toArray, sizeLine_eq]; lia)
  have S1 := S.extNew (tk := s.toks) (h' := h') fun b o _ e => hk b o e
  exact k _ _ (S1.push (o := tup vs 0) (tk := s.toks))
end
end Mine
end
section
open PySem PySem.W PyProof.Rows PySem.Calls PySem.Spec
set_option maxHeartbeats 1000000
namespace Mine

set_option maxHeartbeats 6000000
section
theorem c_labelL {w : World} {base : Heap} {outer : List Env} {env : Env} {A : Around} {c : Shared} {g : Heap} {L : Addr} {m : Loc} {news : Led} {s : Shared} {Q E : Value → Shared → Prop} {pre : Led} {e : WE} {lo B high : Nat} {fs : List Fm} {way : Int} {tw : Tok} (C : Cx w base outer env A g L 5)
    (S : St c g L m (pre ++ news) s) (W : LW w e lo B high false false fs fs false news) (hw : way = 0 ∨ way = 1 ∨ way = 2) (hB : B ≤ 200) (hh : high = topH fs) (hz2 : high ≤ 100) (hz3 : fs.length ≤ 50)
    (k : ∀ D d news' s', LW w e 1 (B + 2) high d d fs fs D news' → St c g L m (pre ++ news') s' → Q .none s') :
    wpAny (model PRG w) A (call (.ref 453) [.ref e.tp, .ref e.wd, .int way tw]) Q E s := by
  refine' r_defC C S (binds := [("tape", .ref e.tp), ("world", .ref e.wd), ("way", .int way tw)]) (m' := [("way", .int way tw), ("world", .ref e.wd)]) (n1 := "tape") (n2 := "many") (v1 := some (.ref e.tp)) (v2 := none) ?ho ?hcd ?hb ?hkd ?hcl ?hne ?hm ?h1 ?h2 ?_ ?c2 ?c3 ?c4
  case ho => k_is
  case hcd => k_is
  case hb => exact BindsTo.of_eq rfl
  case hkd =>
    intro n x hx
    rcases List.mem_cons.mp hx with rfl | hx
    · exact .inr ⟨rfl, rfl⟩
    rcases List.mem_cons.mp hx with rfl | hx
    · exact .inl rfl
    rcases List.mem_cons.mp hx with rfl | hx
    · exact .inl rfl
    cases hx
  case hcl => intro k; rfl
  case hne => decide
  case hm =>
    intro L'
    funext y
    show (if y = "way" then some (Value.int way tw) else if y = "world" then some (Value.ref e.wd) else none) = List.lookup y [("way", .int way tw), ("world", .ref e.wd)]
    rw [List.lookup_cons, List.lookup_cons]
    by_cases h1 : y = "way"
    · subst h1; rfl
    · rw [if_neg h1, show (y == "way") = false from by simpa using h1]
      by_cases h2 : y = "world"
      · subst h2; rfl
      · rw [if_neg h2, show (y == "world") = false from by simpa using h2]; rfl
  case h1 => intro L'; rfl
  case h2 => intro L'; rfl
  case c2 => exact rfl
  case c3 => exact rfl
  case c4 => exact rfl
  intro g1 L1 s1 o1 o2 ho1 ho2 C1 S1 F1; k_fold; (with_reducible refine k_as ?_; refine wpAny_BinOp ?_; refine r_call ?_); refine rq_bui C1 S1 (gb_len w) (by boot_by_name) (by decide) ?_; refine r_callB ?_; refine spliced_more ?_; (with_reducible refine Subscript_ ?_); refine rq_loc S1 rfl ?_; (with_reducible refine r_str S1 fun t10 s10 S10 => ?_; clear S1); (with_reducible refine gl_frames (pre := _ :: _ :: pre) S10 W fun s11 S11 => ?_); (try simp only [cA, nA] at S11); clear S10; (with_reducible refine spliced_none ?_); refine ll_frames (pre := _ :: _ :: pre) S11 W (by lia) fun t13 s13 S13 => ?_; (try simp only [cA, nA] at S13); clear S11; (with_reducible refine r_int S13 fun t14 s14 S14 => ?_; clear S13; refine r_add S14 fun t15 s15 S15 => ?_; clear S14); rename St _ _ _ _ _ _ => S90; refine rq_storeC S90 rfl (fun o' => .hd) ho2 fun o2' s91 ho2' S91 => ?_; clear S90; (with_reducible refine seq_next ?_; refine r_cons ?_); rename St _ _ _ _ _ _ => S92
  obtain ⟨kn, hkn, hkw⟩ : ∃ kn : Nat, (1 + if (way == 2) = true then (1 : Int) else 0) = kn ∧ ((kn = 2 ∧ way = 2) ∨ (kn = 1 ∧ way ≠ 2)) := by
    by_cases h : way = 2
    · exact ⟨2, by rw [if_pos (by simpa using h)]; rfl, .inl ⟨rfl, h⟩⟩
    · exact ⟨1, by rw [if_neg (by simpa using h)]; rfl, .inr ⟨rfl, h⟩⟩
  refine r_compA (c := c) (m := [("way", .int way tw), ("world", .ref e.wd)]) (k' := kn) (J := fun i ys newsi => ∃ ns, IntsAre ys ns ∧ ns.length = i ∧ (∀ l ∈ ns, l = (fs.length : Int) ∨ l = fs.length + 1 ∨ l = fs.length + 6) ∧ ∃ nw, newsi = (L1 + 1 + 1, o2') :: (L1 + 1, o1) :: (pre ++ nw) ∧ LW w e lo B high false false fs fs false nw) C1 ?_ (fun i ys newsi Cc oC D kD I oI s₃ E' hi hJ S93 => ?_) (fun D ys kD newsk s' hJ S94 => ?_) (fun i ys newsi hJ => ?_) (by lia)
  · try k_fold
    try k_fold
    (with_reducible refine r_call ?_); refine rq_bui C1 S92 (gb_range w) (by boot_by_name) (by decide) ?_; refine r_callT ?_; refine spliced_more ?_; (with_reducible refine wpAny_BinOp ?_; refine r_int S92 fun t66 s66 S66 => ?_; clear S92; refine r_call ?_); refine rq_bui C1 S66 (gb_int w) (by boot_by_name) (by decide) ?_; refine r_callT ?_; refine spliced_more ?_; (with_reducible refine wpAny_Compare1 ?_); refine rq_loc S66 rfl ?_; (with_reducible refine r_int S66 fun t73 s73 S73 => ?_; clear S66; refine eq_int ?_; refine spliced_none ?_; refine r_intBool S73 fun t76 s76 S76 => ?_; clear S73; refine r_add S76 fun t77 s77 S77 => ?_; clear S76; refine spliced_none ?_; refine r_range1 S77 fun r79 t79 u79 v79 s79 S79 => ?_; clear S77); rename St _ _ _ _ _ _ => S80
    rw [hkn] at S80
    refine r_iterRange S80 .hd (small_up (k := kn) (by decide) (by lia) (by lia)).1 (small_up (k := kn) (by decide) (by lia) (by lia)).2 fun it s81 S81 => ?_; exact ⟨it, _, rfl, S81, [], .nil, rfl, (fun _ h => nomatch h), news, rfl, W⟩
  · try k_fold
    obtain ⟨ns, hI, hl, hns, nw, rfl, W⟩ := hJ
    try k_fold
    refine r_call ?_; refine rq_glb C1 S93 (gl_law_spot w) ?_; refine r_callK (keep_441 w) ?_; refine spliced_more ?_; refine rq_cell S93 rfl (by repeat (first | exact List.Mem.head _ | refine List.Mem.tail _ ?_)) ho1 ?_; refine spliced_more ?_; refine rq_cell S93 rfl (by repeat (first | exact List.Mem.head _ | refine List.Mem.tail _ ?_)) ho2' ?_; refine spliced_none ?_; refine ⟨C1.inK S93, ?_⟩; refine c_spotL (pre := _ :: _ :: _ :: _ :: _ :: pre) (C1.le (by decide)) S93 W fun v t news95 s95 hv W S95 => ?_
    exact ⟨_, ⟨ns ++ [v], IntsAre.append hI (.cons _ _ .nil), by simp [hl], fun l hl => by
      rcases List.mem_append.mp hl with h | h
      · exact hns l h
      · simp at h; subst h; lia, news95, rfl, W⟩, S95⟩
  · try k_fold
    obtain ⟨ns, hI, hl, hns, nw, rfl, W⟩ := hJ
    rename St _ _ _ _ _ _ => S95
    rcases hw with rfl | rfl | rfl
    · obtain rfl : kn = 1 := by lia
      obtain ⟨l, t, rfl, rfl⟩ : ∃ l t, ys = [.int l t] ∧ ns = [l] := by
        cases hI with
        | nil => cases hl
        | cons l t h =>
          cases h with
          | nil => exact ⟨l, t, rfl, rfl⟩
          | cons => cases hl
      have hl1 := hns l (.head _)
      by_cases hv : (fs.length : Int) + 1 ≤ l
      · have hsx0 : StepX e.K e.F e.P ⟨high, blocksOf fs⟩ [12, l] "unknown label" := .br (by lia) (by rw [blk_len]; lia)
        (with_reducible refine seq_next ?_)
        try k_fold
        (with_reducible refine k_if ?_; refine wpAny_isTrue_Compare1 ?_); refine rq_loc S95 rfl ?_; (with_reducible refine r_int S95 fun t106 s106 S106 => ?_; clear S95; refine gt_int ?_; refine wpAny_truthy_bool ?_; refine t_neg (by simp only [beq_iff_eq, decide_eq_true_eq]; lia) ?_; refine wpAny_execs_nil ?_; refine seq_next ?_; refine k_if ?_; refine wpAny_isTrue_Compare1 ?_; refine r_call ?_); refine rq_bui C1 S106 (gb_max w) (by boot_by_name) (by decide) ?_; refine r_callB ?_; refine spliced_more ?_; refine rq_loc S106 rfl ?_; (with_reducible refine spliced_none ?_); refine r_max C1 S106 (by repeat (first | exact List.Mem.head _ | refine List.Mem.tail _ ?_)) hI (by exact Nat.le_of_ble_eq_true rfl) fun M t121 s121 hM hM2 S121 => ?_; clear S106; refine rq_cell S121 (by rfl) (by repeat (first | exact List.Mem.head _ | refine List.Mem.tail _ ?_)) (by assumption) ?_; (with_reducible refine ge_int ?_; refine wpAny_truthy_bool ?_; refine t_pos (by simp_all) ?_; refine k_ex ?_; refine r_call ?_); refine rq_glb C1 S121 (gl_law_bad w) ?_; refine r_callK (keep_420 w) ?_; refine spliced_more ?_; refine rq_loc S121 rfl ?_; refine spliced_more ?_; (with_reducible refine r_str S121 fun t134 s134 S134 => ?_; clear S121; refine spliced_none ?_; refine ⟨C1.inK S134, ?_⟩); refine c_badL (pre := _ :: _ :: _ :: pre) (C1.le (by decide)) S134 W (by lia) fun news137 s137 W S137 => ?_; (try simp only [cA, nA] at S137); clear S134; (with_reducible refine k_sn ?_; refine seq_next ?_; refine k_ex ?_; refine r_call ?_); refine rq_glb C1 S137 (gl_law_emit w) ?_; refine r_callK (keep_413 w) ?_; refine spliced_more ?_; refine rq_loc S137 rfl ?_; refine spliced_more ?_; (with_reducible refine r_call ?_); refine rq_bui C1 S137 (gb_tuple w) (by boot_by_name) (by decide) ?_; refine r_callT ?_; refine spliced_more ?_; (with_reducible refine wpAny_BinOp ?_; refine List_ ?_); refine spliced_more ?_; (with_reducible refine wpAny_BinOp ?_; refine r_int S137 fun t157 s157 S157 => ?_; clear S137); refine rq_loc S157 rfl ?_; (with_reducible refine r_add S157 fun t159 s159 S159 => ?_; clear S157; refine spliced_none ?_; refine r_list S159 (by with_unfolding_all exact bL rfl) fun a161 s161 S161 => ?_; clear S159); refine rq_loc S161 rfl ?_; refine r_addL S161 (by repeat (first | exact List.Mem.head _ | refine List.Mem.tail _ ?_)) (by repeat (first | exact List.Mem.head _ | refine List.Mem.tail _ ?_)) (by first | decide | (with_unfolding_all exact Nat.le_of_ble_eq_true rfl)) fun a163 s163 S163 => ?_; clear S161; (with_reducible refine spliced_none ?_); refine r_tupL S163 (by repeat (first | exact List.Mem.head _ | refine List.Mem.tail _ ?_)) (by with_unfolding_all exact bL rfl) fun a165 s165 S165 => ?_; clear S163; refine spliced_more ?_; (with_reducible refine wpAny_BinOp ?_; refine r_int S165 fun t168 s168 S168 => ?_; clear S165; refine r_call ?_); refine rq_bui C1 S168 (gb_int w) (by boot_by_name) (by decide) ?_; refine r_callT ?_; refine spliced_more ?_; (with_reducible refine wpAny_Compare1 ?_); refine rq_loc S168 rfl ?_; (with_reducible refine r_int S168 fun t175 s175 S175 => ?_; clear S168; refine gt_int ?_; refine spliced_none ?_; refine r_intBool S175 fun t178 s178 S178 => ?_; clear S175; refine r_sub S178 fun t179 s179 S179 => ?_; clear S178; refine spliced_none ?_; refine ⟨C1.inK S179, ?_⟩); refine c_failL (pre := _ :: _ :: _ :: _ :: _ :: pre) (high' := high) true fs (C1.le (by decide)) S179 W (.cons _ _ hI) (by first | lia | (rw [if_pos (by decide)]; lia) | (rw [if_neg (by decide)]; lia)) (by lia) (by lia) (by lia) hsx0 fun news182 s182 W S182 => ?_; (try simp only [cA, nA] at S182); clear S179; (with_reducible refine seq_next ?_; refine r_cons ?_); refine wpAny_Assign_Subscript ?_; (with_reducible refine wpAny_Compare1 ?_); refine rq_loc S182 rfl ?_; (with_reducible refine r_int S182 fun t188 s188 S188 => ?_; clear S182; refine ne_int ?_); refine rq_loc S188 rfl ?_; (with_reducible refine r_str S188 fun t191 s191 S191 => ?_; clear S188); (with_reducible refine sl_dead (pre := _ :: _ :: _ :: _ :: _ :: pre) S191 W fun news192 s192 W S192 => ?_); (try simp only [cA, nA] at S192); clear S191; (with_reducible refine k_sn ?_); k_unfold; (with_reducible refine r_leave S192 fun S192 => ?_)
        obtain rfl : M = l := by simpa using hM
        skip; exact k true _ _ _ (LW.le W (by lia)) (by first | assumption | exact St.tail (by assumption) | exact St.tail (St.tail (by assumption)) | exact St.tail (St.tail (St.tail (by assumption))) | exact St.tail (St.tail (St.tail (St.tail (by assumption)))) | exact St.tail (St.tail (St.tail (St.tail (St.tail (by assumption))))))
      · have hps : PS1 e.K e.F e.P false high fs [12, l] true high fs := ps_br (by lia) (by lia) (by lia)
        (with_reducible refine seq_next ?_; refine k_if ?_; refine wpAny_isTrue_Compare1 ?_); refine rq_loc S95 rfl ?_; (with_reducible refine r_int S95 fun t306 s306 S306 => ?_; clear S95; refine gt_int ?_; refine wpAny_truthy_bool ?_; refine t_neg (by simp only [beq_iff_eq, decide_eq_true_eq]; lia) ?_; refine wpAny_execs_nil ?_; refine seq_next ?_; refine k_if ?_; refine wpAny_isTrue_Compare1 ?_; refine r_call ?_); refine rq_bui C1 S306 (gb_max w) (by boot_by_name) (by decide) ?_; refine r_callB ?_; refine spliced_more ?_; refine rq_loc S306 rfl ?_; (with_reducible refine spliced_none ?_); refine r_max C1 S306 (by repeat (first | exact List.Mem.head _ | refine List.Mem.tail _ ?_)) hI (by exact Nat.le_of_ble_eq_true rfl) fun M t321 s321 hM hM2 S321 => ?_; clear S306; refine rq_cell S321 (by rfl) (by repeat (first | exact List.Mem.head _ | refine List.Mem.tail _ ?_)) (by assumption) ?_; (with_reducible refine ge_int ?_; refine wpAny_truthy_bool ?_; refine t_neg (by simp_all) ?_; refine wpAny_execs_nil ?_; refine seq_next ?_; refine k_ex ?_; refine r_call ?_); refine rq_glb C1 S321 (gl_law_emit w) ?_; refine r_callK (keep_413 w) ?_; refine spliced_more ?_; refine rq_loc S321 rfl ?_; refine spliced_more ?_; (with_reducible refine r_call ?_); refine rq_bui C1 S321 (gb_tuple w) (by boot_by_name) (by decide) ?_; refine r_callT ?_; refine spliced_more ?_; (with_reducible refine wpAny_BinOp ?_; refine List_ ?_); refine spliced_more ?_; (with_reducible refine wpAny_BinOp ?_; refine r_int S321 fun t344 s344 S344 => ?_; clear S321); refine rq_loc S344 rfl ?_; (with_reducible refine r_add S344 fun t346 s346 S346 => ?_; clear S344; refine spliced_none ?_; refine r_list S346 (by with_unfolding_all exact bL rfl) fun a348 s348 S348 => ?_; clear S346); refine rq_loc S348 rfl ?_; refine r_addL S348 (by repeat (first | exact List.Mem.head _ | refine List.Mem.tail _ ?_)) (by repeat (first | exact List.Mem.head _ | refine List.Mem.tail _ ?_)) (by first | decide | (with_unfolding_all exact Nat.le_of_ble_eq_true rfl)) fun a350 s350 S350 => ?_; clear S348; (with_reducible refine spliced_none ?_); refine r_tupL S350 (by repeat (first | exact List.Mem.head _ | refine List.Mem.tail _ ?_)) (by with_unfolding_all exact bL rfl) fun a352 s352 S352 => ?_; clear S350; refine spliced_more ?_; (with_reducible refine wpAny_BinOp ?_; refine r_int S352 fun t355 s355 S355 => ?_; clear S352; refine r_call ?_); refine rq_bui C1 S355 (gb_int w) (by boot_by_name) (by decide) ?_; refine r_callT ?_; refine spliced_more ?_; (with_reducible refine wpAny_Compare1 ?_); refine rq_loc S355 rfl ?_; (with_reducible refine r_int S355 fun t362 s362 S362 => ?_; clear S355; refine gt_int ?_; refine spliced_none ?_; refine r_intBool S362 fun t365 s365 S365 => ?_; clear S362; refine r_sub S365 fun t366 s366 S366 => ?_; clear S365; refine spliced_none ?_; refine ⟨C1.inK S366, ?_⟩); refine c_emitL (pre := _ :: _ :: _ :: _ :: _ :: pre) (high' := high) (C1.le (by decide)) S366 W (.cons _ _ hI) (by first | lia | (rw [if_pos (by decide)]; lia) | (rw [if_neg (by decide)]; lia)) (by lia) (by lia) (by lia) (by lia) (fun _ => hps) fun news369 s369 W S369 => ?_; (try simp only [cA, nA] at S369); clear S366; (with_reducible refine seq_next ?_; refine r_cons ?_); refine wpAny_Assign_Subscript ?_; (with_reducible refine wpAny_Compare1 ?_); refine rq_loc S369 rfl ?_; (with_reducible refine r_int S369 fun t375 s375 S375 => ?_; clear S369; refine ne_int ?_); refine rq_loc S375 rfl ?_; (with_reducible refine r_str S375 fun t378 s378 S378 => ?_; clear S375); (with_reducible refine sl_dead (pre := _ :: _ :: _ :: _ :: _ :: pre) S378 W fun news379 s379 W S379 => ?_); (try simp only [cA, nA] at S379); clear S378; (with_reducible refine k_sn ?_); k_unfold; (with_reducible refine r_leave S379 fun S379 => ?_)
        obtain rfl : M = l := by simpa using hM
        skip; exact k false _ _ _ (LW.le W (by lia)) (by first | assumption | exact St.tail (by assumption) | exact St.tail (St.tail (by assumption)) | exact St.tail (St.tail (St.tail (by assumption))) | exact St.tail (St.tail (St.tail (St.tail (by assumption)))) | exact St.tail (St.tail (St.tail (St.tail (St.tail (by assumption))))))
    · obtain rfl : kn = 1 := by lia
      obtain ⟨l, t, rfl, rfl⟩ : ∃ l t, ys = [.int l t] ∧ ns = [l] := by
        cases hI with
        | nil => cases hl
        | cons l t h =>
          cases h with
          | nil => exact ⟨l, t, rfl, rfl⟩
          | cons => cases hl
      have hl1 := hns l (.head _)
      by_cases hv : (fs.length : Int) + 1 ≤ l
      · have hsx1 : StepX e.K e.F e.P ⟨high + 1, blocksOf fs⟩ [13, l] "unknown label" := by
          obtain ⟨c0, bs, e1, e2, e3⟩ := top_open fs
          rw [e2]
          exact .brif (by lia) (by lia) (by lia)
        (with_reducible refine seq_next ?_; refine k_if ?_; refine wpAny_isTrue_Compare1 ?_); refine rq_loc S95 rfl ?_; (with_reducible refine r_int S95 fun t506 s506 S506 => ?_; clear S95; refine gt_int ?_; refine wpAny_truthy_bool ?_; refine t_pos (by simp only [beq_iff_eq, decide_eq_true_eq]; lia) ?_; refine k_ex ?_; refine r_call ?_); refine rq_glb C1 S506 (gl_law_emit w) ?_; refine r_callK (keep_413 w) ?_; refine spliced_more ?_; refine rq_loc S506 rfl ?_; refine spliced_more ?_; (with_reducible refine Tuple_ ?_); refine spliced_more ?_; (with_reducible refine r_int S506 fun t520 s520 S520 => ?_; clear S506); refine spliced_more ?_; (with_reducible refine r_int S520 fun t522 s522 S522 => ?_; clear S520; refine spliced_none ?_; refine r_tuple S522 (by with_unfolding_all exact bL rfl) fun a524 s524 S524 => ?_; clear S522); refine spliced_more ?_; (with_reducible refine r_int S524 fun t526 s526 S526 => ?_; clear S524; refine spliced_none ?_; refine ⟨C1.inK S526, ?_⟩); refine c_constL (pre := _ :: _ :: _ :: pre) (C1.le (by decide)) S526 W (by lia) (by lia) (by lia) (by lia) fun news529 s529 W S529 => ?_; (try simp only [cA, nA] at S529); clear S526; (with_reducible refine k_sn ?_; refine seq_next ?_; refine k_if ?_; refine wpAny_isTrue_Compare1 ?_; refine r_call ?_); refine rq_bui C1 S529 (gb_max w) (by boot_by_name) (by decide) ?_; refine r_callB ?_; refine spliced_more ?_; refine rq_loc S529 rfl ?_; (with_reducible refine spliced_none ?_); refine r_max C1 S529 (by repeat (first | exact List.Mem.head _ | refine List.Mem.tail _ ?_)) hI (by exact Nat.le_of_ble_eq_true rfl) fun M t542 s542 hM hM2 S542 => ?_; clear S529; refine rq_cell S542 (by rfl) (by repeat (first | exact List.Mem.head _ | refine List.Mem.tail _ ?_)) (by assumption) ?_; (with_reducible refine ge_int ?_; refine wpAny_truthy_bool ?_; refine t_pos (by simp_all) ?_; refine k_ex ?_; refine r_call ?_); refine rq_glb C1 S542 (gl_law_bad w) ?_; refine r_callK (keep_420 w) ?_; refine spliced_more ?_; refine rq_loc S542 rfl ?_; refine spliced_more ?_; (with_reducible refine r_str S542 fun t555 s555 S555 => ?_; clear S542; refine spliced_none ?_; refine ⟨C1.inK S555, ?_⟩); refine c_badL (pre := _ :: _ :: _ :: pre) (C1.le (by decide)) S555 W (by lia) fun news558 s558 W S558 => ?_; (try simp only [cA, nA] at S558); clear S555; (with_reducible refine k_sn ?_; refine seq_next ?_; refine k_ex ?_; refine r_call ?_); refine rq_glb C1 S558 (gl_law_emit w) ?_; refine r_callK (keep_413 w) ?_; refine spliced_more ?_; refine rq_loc S558 rfl ?_; refine spliced_more ?_; (with_reducible refine r_call ?_); refine rq_bui C1 S558 (gb_tuple w) (by boot_by_name) (by decide) ?_; refine r_callT ?_; refine spliced_more ?_; (with_reducible refine wpAny_BinOp ?_; refine List_ ?_); refine spliced_more ?_; (with_reducible refine wpAny_BinOp ?_; refine r_int S558 fun t578 s578 S578 => ?_; clear S558); refine rq_loc S578 rfl ?_; (with_reducible refine r_add S578 fun t580 s580 S580 => ?_; clear S578; refine spliced_none ?_; refine r_list S580 (by with_unfolding_all exact bL rfl) fun a582 s582 S582 => ?_; clear S580); refine rq_loc S582 rfl ?_; refine r_addL S582 (by repeat (first | exact List.Mem.head _ | refine List.Mem.tail _ ?_)) (by repeat (first | exact List.Mem.head _ | refine List.Mem.tail _ ?_)) (by first | decide | (with_unfolding_all exact Nat.le_of_ble_eq_true rfl)) fun a584 s584 S584 => ?_; clear S582; (with_reducible refine spliced_none ?_); refine r_tupL S584 (by repeat (first | exact List.Mem.head _ | refine List.Mem.tail _ ?_)) (by with_unfolding_all exact bL rfl) fun a586 s586 S586 => ?_; clear S584; refine spliced_more ?_; (with_reducible refine wpAny_BinOp ?_; refine r_int S586 fun t589 s589 S589 => ?_; clear S586; refine r_call ?_); refine rq_bui C1 S589 (gb_int w) (by boot_by_name) (by decide) ?_; refine r_callT ?_; refine spliced_more ?_; (with_reducible refine wpAny_Compare1 ?_); refine rq_loc S589 rfl ?_; (with_reducible refine r_int S589 fun t596 s596 S596 => ?_; clear S589; refine gt_int ?_; refine spliced_none ?_; refine r_intBool S596 fun t599 s599 S599 => ?_; clear S596; refine r_sub S599 fun t600 s600 S600 => ?_; clear S599; refine spliced_none ?_; refine ⟨C1.inK S600, ?_⟩); refine c_failL (pre := _ :: _ :: _ :: _ :: _ :: pre) (high' := high) false fs (C1.le (by decide)) S600 W (.cons _ _ hI) (by first | lia | (rw [if_pos (by decide)]; lia) | (rw [if_neg (by decide)]; lia)) (by lia) (by lia) (by lia) hsx1 fun news603 s603 W S603 => ?_; (try simp only [cA, nA] at S603); clear S600; (with_reducible refine seq_next ?_; refine r_cons ?_); refine wpAny_Assign_Subscript ?_; (with_reducible refine wpAny_Compare1 ?_); refine rq_loc S603 rfl ?_; (with_reducible refine r_int S603 fun t609 s609 S609 => ?_; clear S603; refine ne_int ?_); refine rq_loc S609 rfl ?_; (with_reducible refine r_str S609 fun t612 s612 S612 => ?_; clear S609); (with_reducible refine sl_dead (pre := _ :: _ :: _ :: _ :: _ :: pre) S612 W fun news613 s613 W S613 => ?_); (try simp only [cA, nA] at S613); clear S612; (with_reducible refine k_sn ?_); k_unfold; (with_reducible refine r_leave S613 fun S613 => ?_)
        obtain rfl : M = l := by simpa using hM
        skip; exact k true _ _ _ (LW.le W (by lia)) (by first | assumption | exact St.tail (by assumption) | exact St.tail (St.tail (by assumption)) | exact St.tail (St.tail (St.tail (by assumption))) | exact St.tail (St.tail (St.tail (St.tail (by assumption)))) | exact St.tail (St.tail (St.tail (St.tail (St.tail (by assumption))))))
      · have hps : PS1 e.K e.F e.P false (high + 1) fs [13, l] false high fs := ps_brif (by lia) (by lia) (by lia)
        (with_reducible refine seq_next ?_; refine k_if ?_; refine wpAny_isTrue_Compare1 ?_); refine rq_loc S95 rfl ?_; (with_reducible refine r_int S95 fun t706 s706 S706 => ?_; clear S95; refine gt_int ?_; refine wpAny_truthy_bool ?_; refine t_pos (by simp only [beq_iff_eq, decide_eq_true_eq]; lia) ?_; refine k_ex ?_; refine r_call ?_); refine rq_glb C1 S706 (gl_law_emit w) ?_; refine r_callK (keep_413 w) ?_; refine spliced_more ?_; refine rq_loc S706 rfl ?_; refine spliced_more ?_; (with_reducible refine Tuple_ ?_); refine spliced_more ?_; (with_reducible refine r_int S706 fun t720 s720 S720 => ?_; clear S706); refine spliced_more ?_; (with_reducible refine r_int S720 fun t722 s722 S722 => ?_; clear S720; refine spliced_none ?_; refine r_tuple S722 (by with_unfolding_all exact bL rfl) fun a724 s724 S724 => ?_; clear S722); refine spliced_more ?_; (with_reducible refine r_int S724 fun t726 s726 S726 => ?_; clear S724; refine spliced_none ?_; refine ⟨C1.inK S726, ?_⟩); refine c_constL (pre := _ :: _ :: _ :: pre) (C1.le (by decide)) S726 W (by lia) (by lia) (by lia) (by lia) fun news729 s729 W S729 => ?_; (try simp only [cA, nA] at S729); clear S726; (with_reducible refine k_sn ?_; refine seq_next ?_; refine k_if ?_; refine wpAny_isTrue_Compare1 ?_; refine r_call ?_); refine rq_bui C1 S729 (gb_max w) (by boot_by_name) (by decide) ?_; refine r_callB ?_; refine spliced_more ?_; refine rq_loc S729 rfl ?_; (with_reducible refine spliced_none ?_); refine r_max C1 S729 (by repeat (first | exact List.Mem.head _ | refine List.Mem.tail _ ?_)) hI (by exact Nat.le_of_ble_eq_true rfl) fun M t742 s742 hM hM2 S742 => ?_; clear S729; refine rq_cell S742 (by rfl) (by repeat (first | exact List.Mem.head _ | refine List.Mem.tail _ ?_)) (by assumption) ?_; (with_reducible refine ge_int ?_; refine wpAny_truthy_bool ?_; refine t_neg (by simp_all) ?_; refine wpAny_execs_nil ?_; refine seq_next ?_; refine k_ex ?_; refine r_call ?_); refine rq_glb C1 S742 (gl_law_emit w) ?_; refine r_callK (keep_413 w) ?_; refine spliced_more ?_; refine rq_loc S742 rfl ?_; refine spliced_more ?_; (with_reducible refine r_call ?_); refine rq_bui C1 S742 (gb_tuple w) (by boot_by_name) (by decide) ?_; refine r_callT ?_; refine spliced_more ?_; (with_reducible refine wpAny_BinOp ?_; refine List_ ?_); refine spliced_more ?_; (with_reducible refine wpAny_BinOp ?_; refine r_int S742 fun t765 s765 S765 => ?_; clear S742); refine rq_loc S765 rfl ?_; (with_reducible refine r_add S765 fun t767 s767 S767 => ?_; clear S765; refine spliced_none ?_; refine r_list S767 (by with_unfolding_all exact bL rfl) fun a769 s769 S769 => ?_; clear S767); refine rq_loc S769 rfl ?_; refine r_addL S769 (by repeat (first | exact List.Mem.head _ | refine List.Mem.tail _ ?_)) (by repeat (first | exact List.Mem.head _ | refine List.Mem.tail _ ?_)) (by first | decide | (with_unfolding_all exact Nat.le_of_ble_eq_true rfl)) fun a771 s771 S771 => ?_; clear S769; (with_reducible refine spliced_none ?_); refine r_tupL S771 (by repeat (first | exact List.Mem.head _ | refine List.Mem.tail _ ?_)) (by with_unfolding_all exact bL rfl) fun a773 s773 S773 => ?_; clear S771; refine spliced_more ?_; (with_reducible refine wpAny_BinOp ?_; refine r_int S773 fun t776 s776 S776 => ?_; clear S773; refine r_call ?_); refine rq_bui C1 S776 (gb_int w) (by boot_by_name) (by decide) ?_; refine r_callT ?_; refine spliced_more ?_; (with_reducible refine wpAny_Compare1 ?_); refine rq_loc S776 rfl ?_; (with_reducible refine r_int S776 fun t783 s783 S783 => ?_; clear S776; refine gt_int ?_; refine spliced_none ?_; refine r_intBool S783 fun t786 s786 S786 => ?_; clear S783; refine r_sub S786 fun t787 s787 S787 => ?_; clear S786; refine spliced_none ?_; refine ⟨C1.inK S787, ?_⟩); refine c_emitL (pre := _ :: _ :: _ :: _ :: _ :: pre) (high' := high) (C1.le (by decide)) S787 W (.cons _ _ hI) (by first | lia | (rw [if_pos (by decide)]; lia) | (rw [if_neg (by decide)]; lia)) (by lia) (by lia) (by lia) (by lia) (fun _ => hps) fun news790 s790 W S790 => ?_; (try simp only [cA, nA] at S790); clear S787; (with_reducible refine seq_next ?_; refine r_cons ?_); refine wpAny_Assign_Subscript ?_; (with_reducible refine wpAny_Compare1 ?_); refine rq_loc S790 rfl ?_; (with_reducible refine r_int S790 fun t796 s796 S796 => ?_; clear S790; refine ne_int ?_); refine rq_loc S796 rfl ?_; (with_reducible refine r_str S796 fun t799 s799 S799 => ?_; clear S796); (with_reducible refine sl_dead (pre := _ :: _ :: _ :: _ :: _ :: pre) S799 W fun news800 s800 W S800 => ?_); (try simp only [cA, nA] at S800); clear S799; (with_reducible refine k_sn ?_); k_unfold; (with_reducible refine r_leave S800 fun S800 => ?_)
        obtain rfl : M = l := by simpa using hM
        skip; exact k false _ _ _ (LW.le W (by lia)) (by first | assumption | exact St.tail (by assumption) | exact St.tail (St.tail (by assumption)) | exact St.tail (St.tail (St.tail (by assumption))) | exact St.tail (St.tail (St.tail (St.tail (by assumption)))) | exact St.tail (St.tail (St.tail (St.tail (St.tail (by assumption))))))
    · obtain rfl : kn = 2 := by lia
      obtain ⟨l, t, l', t', rfl, rfl⟩ : ∃ l t l' t', ys = [.int l t, .int l' t'] ∧ ns = [l, l'] := by
        cases hI with
        | nil => cases hl
        | cons l t h =>
          cases h with
          | nil => cases hl
          | cons l' t' h =>
            cases h with
            | nil => exact ⟨l, t, l', t', rfl, rfl⟩
            | cons => cases hl
      have hl1 := hns l (.head _)
      have hl2 := hns l' (.tail _ (.head _))
      by_cases hv : (fs.length : Int) + 1 ≤ l ∨ (fs.length : Int) + 1 ≤ l'
      · have hsx0 : StepX e.K e.F e.P ⟨high + 1, blocksOf fs⟩ [14, l, l'] "unknown label" := by
          obtain ⟨c0, bs, e1, e2, e3⟩ := top_open fs
          rw [e2]
          by_cases h : (fs.length : Int) + 1 ≤ l'
          · exact .brta (by lia) (by lia) (by lia)
          · exact .brtb (by lia) (by lia) (by lia) (by lia) (by lia)
        (with_reducible refine seq_next ?_; refine k_if ?_; refine wpAny_isTrue_Compare1 ?_); refine rq_loc S95 rfl ?_; (with_reducible refine r_int S95 fun t906 s906 S906 => ?_; clear S95; refine gt_int ?_; refine wpAny_truthy_bool ?_; refine t_pos (by simp only [beq_iff_eq, decide_eq_true_eq]; lia) ?_; refine k_ex ?_; refine r_call ?_); refine rq_glb C1 S906 (gl_law_emit w) ?_; refine r_callK (keep_413 w) ?_; refine spliced_more ?_; refine rq_loc S906 rfl ?_; refine spliced_more ?_; (with_reducible refine Tuple_ ?_); refine spliced_more ?_; (with_reducible refine r_int S906 fun t920 s920 S920 => ?_; clear S906); refine spliced_more ?_; (with_reducible refine r_int S920 fun t922 s922 S922 => ?_; clear S920; refine spliced_none ?_; refine r_tuple S922 (by with_unfolding_all exact bL rfl) fun a924 s924 S924 => ?_; clear S922); refine spliced_more ?_; (with_reducible refine r_int S924 fun t926 s926 S926 => ?_; clear S924; refine spliced_none ?_; refine ⟨C1.inK S926, ?_⟩); refine c_constL (pre := _ :: _ :: _ :: pre) (C1.le (by decide)) S926 W (by lia) (by lia) (by lia) (by lia) fun news929 s929 W S929 => ?_; (try simp only [cA, nA] at S929); clear S926; (with_reducible refine k_sn ?_; refine seq_next ?_; refine k_if ?_; refine wpAny_isTrue_Compare1 ?_; refine r_call ?_); refine rq_bui C1 S929 (gb_max w) (by boot_by_name) (by decide) ?_; refine r_callB ?_; refine spliced_more ?_; refine rq_loc S929 rfl ?_; (with_reducible refine spliced_none ?_); refine r_max C1 S929 (by repeat (first | exact List.Mem.head _ | refine List.Mem.tail _ ?_)) hI (by exact Nat.le_of_ble_eq_true rfl) fun M t942 s942 hM hM2 S942 => ?_; clear S929; refine rq_cell S942 (by rfl) (by repeat (first | exact List.Mem.head _ | refine List.Mem.tail _ ?_)) (by assumption) ?_; (with_reducible refine ge_int ?_; refine wpAny_truthy_bool ?_)
        have hMv : (fs.length : Int) + 1 ≤ M := by
          have h1 := hM2 l (.head _)
          have h2 := hM2 l' (.tail _ (.head _))
          lia
        (with_reducible refine t_pos (by simp only [beq_iff_eq, decide_eq_true_eq]; lia) ?_; refine k_ex ?_; refine r_call ?_); refine rq_glb C1 S942 (gl_law_bad w) ?_; refine r_callK (keep_420 w) ?_; refine spliced_more ?_; refine rq_loc S942 rfl ?_; refine spliced_more ?_; (with_reducible refine r_str S942 fun t1010 s1010 S1010 => ?_; clear S942; refine spliced_none ?_; refine ⟨C1.inK S1010, ?_⟩); refine c_badL (pre := _ :: _ :: _ :: pre) (C1.le (by decide)) S1010 W (by lia) fun news1013 s1013 W S1013 => ?_; (try simp only [cA, nA] at S1013); clear S1010; (with_reducible refine k_sn ?_; refine seq_next ?_; refine k_ex ?_; refine r_call ?_); refine rq_glb C1 S1013 (gl_law_emit w) ?_; refine r_callK (keep_413 w) ?_; refine spliced_more ?_; refine rq_loc S1013 rfl ?_; refine spliced_more ?_; (with_reducible refine r_call ?_); refine rq_bui C1 S1013 (gb_tuple w) (by boot_by_name) (by decide) ?_; refine r_callT ?_; refine spliced_more ?_; (with_reducible refine wpAny_BinOp ?_; refine List_ ?_); refine spliced_more ?_; (with_reducible refine wpAny_BinOp ?_; refine r_int S1013 fun t1033 s1033 S1033 => ?_; clear S1013); refine rq_loc S1033 rfl ?_; (with_reducible refine r_add S1033 fun t1035 s1035 S1035 => ?_; clear S1033; refine spliced_none ?_; refine r_list S1035 (by with_unfolding_all exact bL rfl) fun a1037 s1037 S1037 => ?_; clear S1035); refine rq_loc S1037 rfl ?_; refine r_addL S1037 (by repeat (first | exact List.Mem.head _ | refine List.Mem.tail _ ?_)) (by repeat (first | exact List.Mem.head _ | refine List.Mem.tail _ ?_)) (by first | decide | (with_unfolding_all exact Nat.le_of_ble_eq_true rfl)) fun a1039 s1039 S1039 => ?_; clear S1037; (with_reducible refine spliced_none ?_); refine r_tupL S1039 (by repeat (first | exact List.Mem.head _ | refine List.Mem.tail _ ?_)) (by with_unfolding_all exact bL rfl) fun a1041 s1041 S1041 => ?_; clear S1039; refine spliced_more ?_; (with_reducible refine wpAny_BinOp ?_; refine r_int S1041 fun t1044 s1044 S1044 => ?_; clear S1041; refine r_call ?_); refine rq_bui C1 S1044 (gb_int w) (by boot_by_name) (by decide) ?_; refine r_callT ?_; refine spliced_more ?_; (with_reducible refine wpAny_Compare1 ?_); refine rq_loc S1044 rfl ?_; (with_reducible refine r_int S1044 fun t1051 s1051 S1051 => ?_; clear S1044; refine gt_int ?_; refine spliced_none ?_; refine r_intBool S1051 fun t1054 s1054 S1054 => ?_; clear S1051; refine r_sub S1054 fun t1055 s1055 S1055 => ?_; clear S1054; refine spliced_none ?_; refine ⟨C1.inK S1055, ?_⟩); refine c_failL (pre := _ :: _ :: _ :: _ :: _ :: pre) (high' := high) true fs (C1.le (by decide)) S1055 W (.cons _ _ hI) (by first | lia | (rw [if_pos (by decide)]; lia) | (rw [if_neg (by decide)]; lia)) (by lia) (by lia) (by lia) hsx0 fun news1058 s1058 W S1058 => ?_; (try simp only [cA, nA] at S1058); clear S1055; (with_reducible refine seq_next ?_; refine r_cons ?_); refine wpAny_Assign_Subscript ?_; (with_reducible refine wpAny_Compare1 ?_); refine rq_loc S1058 rfl ?_; (with_reducible refine r_int S1058 fun t1064 s1064 S1064 => ?_; clear S1058; refine ne_int ?_); refine rq_loc S1064 rfl ?_; (with_reducible refine r_str S1064 fun t1067 s1067 S1067 => ?_; clear S1064); (with_reducible refine sl_dead (pre := _ :: _ :: _ :: _ :: _ :: pre) S1067 W fun news1068 s1068 W S1068 => ?_); (try simp only [cA, nA] at S1068); clear S1067; (with_reducible refine k_sn ?_); k_unfold; (with_reducible refine r_leave S1068 fun S1068 => ?_); exact k true _ _ _ (LW.le W (by lia)) (by first | assumption | exact St.tail (by assumption) | exact St.tail (St.tail (by assumption)) | exact St.tail (St.tail (St.tail (by assumption))) | exact St.tail (St.tail (St.tail (St.tail (by assumption)))) | exact St.tail (St.tail (St.tail (St.tail (St.tail (by assumption))))))
      · have hps : PS1 e.K e.F e.P false (high + 1) fs [14, l, l'] true high fs := ps_brt (by lia) (by lia) (by lia) (by lia) (by lia)
        (with_reducible refine seq_next ?_; refine k_if ?_; refine wpAny_isTrue_Compare1 ?_); refine rq_loc S95 rfl ?_; (with_reducible refine r_int S95 fun t1106 s1106 S1106 => ?_; clear S95; refine gt_int ?_; refine wpAny_truthy_bool ?_; refine t_pos (by simp only [beq_iff_eq, decide_eq_true_eq]; lia) ?_; refine k_ex ?_; refine r_call ?_); refine rq_glb C1 S1106 (gl_law_emit w) ?_; refine r_callK (keep_413 w) ?_; refine spliced_more ?_; refine rq_loc S1106 rfl ?_; refine spliced_more ?_; (with_reducible refine Tuple_ ?_); refine spliced_more ?_; (with_reducible refine r_int S1106 fun t1120 s1120 S1120 => ?_; clear S1106); refine spliced_more ?_; (with_reducible refine r_int S1120 fun t1122 s1122 S1122 => ?_; clear S1120; refine spliced_none ?_; refine r_tuple S1122 (by with_unfolding_all exact bL rfl) fun a1124 s1124 S1124 => ?_; clear S1122); refine spliced_more ?_; (with_reducible refine r_int S1124 fun t1126 s1126 S1126 => ?_; clear S1124; refine spliced_none ?_; refine ⟨C1.inK S1126, ?_⟩); refine c_constL (pre := _ :: _ :: _ :: pre) (C1.le (by decide)) S1126 W (by lia) (by lia) (by lia) (by lia) fun news1129 s1129 W S1129 => ?_; (try simp only [cA, nA] at S1129); clear S1126; (with_reducible refine k_sn ?_; refine seq_next ?_; refine k_if ?_; refine wpAny_isTrue_Compare1 ?_; refine r_call ?_); refine rq_bui C1 S1129 (gb_max w) (by boot_by_name) (by decide) ?_; refine r_callB ?_; refine spliced_more ?_; refine rq_loc S1129 rfl ?_; (with_reducible refine spliced_none ?_); refine r_max C1 S1129 (by repeat (first | exact List.Mem.head _ | refine List.Mem.tail _ ?_)) hI (by exact Nat.le_of_ble_eq_true rfl) fun M t1142 s1142 hM hM2 S1142 => ?_; clear S1129; refine rq_cell S1142 (by rfl) (by repeat (first | exact List.Mem.head _ | refine List.Mem.tail _ ?_)) (by assumption) ?_; (with_reducible refine ge_int ?_; refine wpAny_truthy_bool ?_)
        have hMv : ¬ (fs.length : Int) + 1 ≤ M := by
          have h : M = l ∨ M = l' := by simpa using hM
          lia
        (with_reducible refine t_neg (by simp only [beq_iff_eq, decide_eq_true_eq]; lia) ?_; refine wpAny_execs_nil ?_; refine seq_next ?_; refine k_ex ?_; refine r_call ?_); refine rq_glb C1 S1142 (gl_law_emit w) ?_; refine r_callK (keep_413 w) ?_; refine spliced_more ?_; refine rq_loc S1142 rfl ?_; refine spliced_more ?_; (with_reducible refine r_call ?_); refine rq_bui C1 S1142 (gb_tuple w) (by boot_by_name) (by decide) ?_; refine r_callT ?_; refine spliced_more ?_; (with_reducible refine wpAny_BinOp ?_; refine List_ ?_); refine spliced_more ?_; (with_reducible refine wpAny_BinOp ?_; refine r_int S1142 fun t1220 s1220 S1220 => ?_; clear S1142); refine rq_loc S1220 rfl ?_; (with_reducible refine r_add S1220 fun t1222 s1222 S1222 => ?_; clear S1220; refine spliced_none ?_; refine r_list S1222 (by with_unfolding_all exact bL rfl) fun a1224 s1224 S1224 => ?_; clear S1222); refine rq_loc S1224 rfl ?_; refine r_addL S1224 (by repeat (first | exact List.Mem.head _ | refine List.Mem.tail _ ?_)) (by repeat (first | exact List.Mem.head _ | refine List.Mem.tail _ ?_)) (by first | decide | (with_unfolding_all exact Nat.le_of_ble_eq_true rfl)) fun a1226 s1226 S1226 => ?_; clear S1224; (with_reducible refine spliced_none ?_); refine r_tupL S1226 (by repeat (first | exact List.Mem.head _ | refine List.Mem.tail _ ?_)) (by with_unfolding_all exact bL rfl) fun a1228 s1228 S1228 => ?_; clear S1226; refine spliced_more ?_; (with_reducible refine wpAny_BinOp ?_; refine r_int S1228 fun t1231 s1231 S1231 => ?_; clear S1228; refine r_call ?_); refine rq_bui C1 S1231 (gb_int w) (by boot_by_name) (by decide) ?_; refine r_callT ?_; refine spliced_more ?_; (with_reducible refine wpAny_Compare1 ?_); refine rq_loc S1231 rfl ?_; (with_reducible refine r_int S1231 fun t1238 s1238 S1238 => ?_; clear S1231; refine gt_int ?_; refine spliced_none ?_; refine r_intBool S1238 fun t1241 s1241 S1241 => ?_; clear S1238; refine r_sub S1241 fun t1242 s1242 S1242 => ?_; clear S1241; refine spliced_none ?_; refine ⟨C1.inK S1242, ?_⟩); refine c_emitL (pre := _ :: _ :: _ :: _ :: _ :: pre) (high' := high) (C1.le (by decide)) S1242 W (.cons _ _ hI) (by first | lia | (rw [if_pos (by decide)]; lia) | (rw [if_neg (by decide)]; lia)) (by lia) (by lia) (by lia) (by lia) (fun _ => hps) fun news1245 s1245 W S1245 => ?_; (try simp only [cA, nA] at S1245); clear S1242; (with_reducible refine seq_next ?_; refine r_cons ?_); refine wpAny_Assign_Subscript ?_; (with_reducible refine wpAny_Compare1 ?_); refine rq_loc S1245 rfl ?_; (with_reducible refine r_int S1245 fun t1251 s1251 S1251 => ?_; clear S1245; refine ne_int ?_); refine rq_loc S1251 rfl ?_; (with_reducible refine r_str S1251 fun t1254 s1254 S1254 => ?_; clear S1251); (with_reducible refine sl_dead (pre := _ :: _ :: _ :: _ :: _ :: pre) S1254 W fun news1255 s1255 W S1255 => ?_); (try simp only [cA, nA] at S1255); clear S1254; (with_reducible refine k_sn ?_); k_unfold; (with_reducible refine r_leave S1255 fun S1255 => ?_); exact k false _ _ _ (LW.le W (by lia)) (by first | assumption | exact St.tail (by assumption) | exact St.tail (St.tail (by assumption)) | exact St.tail (St.tail (St.tail (by assumption))) | exact St.tail (St.tail (St.tail (St.tail (by assumption)))) | exact St.tail (St.tail (St.tail (St.tail (St.tail (by assumption))))))
  · try k_fold
    obtain ⟨ns, hI, hl, _⟩ := hJ
    rw [hI.length, hl]
end
end Mine
end
section
open PySem PySem.W PyProof.Rows PySem.Calls PySem.Spec
set_option maxHeartbeats 2000000
namespace Mine
theorem lay_ints (ns : List Int) : PyData.canLayAll0 (ns.map PyData.int) = true := by
  induction ns with
  | nil => simp [PyData.canLayAll0]
  | cons x ns ih => simp [PyData.canLayAll0, PyData.canLay0, ih]
theorem dep_ints (ns : List Int) : PyData.depthAll (ns.map PyData.int) = 0 := by
  induction ns with
  | nil => simp [PyData.depthAll]
  | cons x ns ih => simp [PyData.depthAll, PyData.depth, ih]
theorem shaped_list {xs : List PyData} (h : ∀ x ∈ xs, x.canLay0 = true ∧ x.depth ≤ 1) : PySem.SeqAt.shaped (.list xs) = true := by
  have h1 : PyData.canLayAll0 xs = true ∧ PyData.depthAll xs ≤ 1 := by
    induction xs with
    | nil => simp [PyData.canLayAll0, PyData.depthAll]
    | cons x xs ih =>
      have a := h x (.head _)
      have b := ih fun y hy => h y (.tail _ hy)
      simp only [PyData.canLayAll0, PyData.depthAll, Bool.and_eq_true]
      exact ⟨⟨a.1, b.1⟩, by lia⟩
  unfold PySem.SeqAt.shaped
  rw [Bool.and_eq_true]
  refine ⟨by simp only [PyData.canLay0]; exact h1.1, decide_eq_true ?_⟩
  simp only [PyData.depth]
  lia
noncomputable def rowD (r : List Int) : PyData := .tuple (r.map PyData.int)
noncomputable def htD : Option Nat → PyData
  | none => .none
  | some n => .int n
noncomputable def fmD (f : Fm) : PyData := .list ([f.sort, (f.over : Int), (f.base : Int)].map PyData.int)
theorem rowD_ok (r : List Int) : (rowD r).canLay0 = true ∧ (rowD r).depth ≤ 1 := by
  unfold rowD
  refine ⟨by simp only [PyData.canLay0]; exact lay_ints r, ?_⟩
  simp only [PyData.depth, dep_ints]
  decide
theorem fmD_ok (f : Fm) : (fmD f).canLay0 = true ∧ (fmD f).depth ≤ 1 := by
  unfold fmD
  refine ⟨by simp only [PyData.canLay0]; exact lay_ints _, ?_⟩
  simp only [PyData.depth, dep_ints]
  decide
theorem htD_ok (h : Option Nat) : (htD h).canLay0 = true ∧ (htD h).depth ≤ 1 := by
  cases h <;> simp [htD, PyData.canLay0, PyData.depth]
theorem eqv_ints (ns : List Int) : PyData.eqvAll (ns.map PyData.int) (ns.map PyData.int) = true := by
  induction ns with
  | nil => simp [PyData.eqvAll]
  | cons x ns ih => simp [PyData.eqvAll, PyData.eqv, ih]
theorem eqv_self {α : Type} {d : α → PyData} (h : ∀ x, PyData.eqv (d x) (d x) = true) (xs : List α) : PyData.eqv (.list (xs.map d)) (.list (xs.map d)) = true := by
  simp only [PyData.eqv]
  induction xs with
  | nil => simp [PyData.eqvAll]
  | cons x xs ih => simp [PyData.eqvAll, h, ih]
theorem rowD_eq (r : List Int) : PyData.eqv (rowD r) (rowD r) = true := by simp only [rowD, PyData.eqv]; exact eqv_ints r
theorem htD_eq (h : Option Nat) : PyData.eqv (htD h) (htD h) = true := by cases h <;> simp [htD, PyData.eqv]
theorem eqv_nilR (xs : List PyData) : PyData.eqv (.list xs) (.list []) = decide (xs = []) := by
  simp only [PyData.eqv]
  cases xs with
  | nil => simp [PyData.eqvAll]
  | cons x xs => simp [PyData.eqvAll]
theorem reads_snoc {h : Heap} {vs : List Value} {xs : List PyData} {as bs : List Addr} {v : Value} {x : PyData} (H : ReadsAll h vs xs as) (hx : Reads h v x bs) : ∃ cs, ReadsAll h (vs ++ [v]) (xs ++ [x]) cs := by
  induction vs generalizing xs as with
  | nil =>
    cases H
    exact ⟨_, .cons hx .nil⟩
  | cons a vs ih =>
    cases H with
    | cons h1 h2 =>
      obtain ⟨cs, h3⟩ := ih h2
      exact ⟨_, .cons h1 h3⟩
theorem RowsAre.reads {h : Heap} {fx : Led} {refs : List Value} {rows : List (List Int)} (H : RowsAre fx refs rows) (hg : ∀ q ∈ fx, h.get? q.1 = some q.2) : ∃ as, ReadsAll h refs (rows.map rowD) as := by
  induction H with
  | nil => exact ⟨[], .nil⟩
  | cons a b _ ih =>
    obtain ⟨as, h1⟩ := ih
    exact ⟨_, .cons (.tuple (hg _ a) rfl rfl (IntsAre.reads _ b)) h1⟩
theorem HsAre.reads {h : Heap} {vs : List Value} {hs : List (Option Nat)} (H : HsAre vs hs) : ∃ as, ReadsAll h vs (hs.map htD) as := by
  induction H with
  | nil => exact ⟨[], .nil⟩
  | @cons v h' vs hs a _ ih =>
    obtain ⟨as, h1⟩ := ih
    cases h' with
    | none => have a' : v = .none := a; subst a'; exact ⟨_, .cons .none h1⟩
    | some n => obtain ⟨t, rfl⟩ := a; exact ⟨_, .cons (.int _ _) h1⟩
theorem FmsAre.reads {h : Heap} {fx : Led} {vs : List Value} {fs : List Fm} (H : FmsAre fx vs fs) (hg : ∀ q ∈ fx, h.get? q.1 = some q.2) : ∃ as, ReadsAll h vs (fs.reverse.map fmD) as := by
  induction H with
  | nil => exact ⟨[], .nil⟩
  | @cons fa k t1 t2 t3 vs f fs a _ ih =>
    obtain ⟨as, h1⟩ := ih
    rw [List.reverse_cons, List.map_append]
    exact reads_snoc h1 (.list (hg _ a) rfl rfl (IntsAre.reads _ (.cons _ _ (.cons _ _ (.cons _ _ .nil)))))
section
variable {w : World} {base : Heap} {outer : List Env} {env : Env} {A : Around} {c : Shared} {g : Heap} {L : Addr} {n : Nat} {m : Loc} {news pre : Led} {s : Shared} {Q E : Value → Shared → Prop} {e : WE} {lo B high high' : Nat} {dW dI d d' : Bool} {fs fsW fsI fsI' : List Fm} {D : Bool} {why : Str}
theorem el_frames {a k : Nat} (C : Cx w base outer env A g L n) (S : St c g L m ((a, lst [] k) :: (pre ++ news)) s) (W : LW w e lo B high dW dI fsW fsI D news) (k : St c g L m (pre ++ news) s → Q (.bool (decide (fsW = []))) s) :
    wpAny (model PRG w) A (compareOp .Eq (.ref e.fr) (.ref a)) Q E s := by
  obtain ⟨rows, hs, due, ⟨o, hi, bits, hits, frs, tvs, ns, nb, nh, nf, nt, vdu, fx, hp, hd, hR, hH, hF, hT, hTz, hD⟩, W2, h1, h2, h3⟩ := W
  have mem : ∀ q ∈ fx, q ∈ news := fun q hq => hp.mem_iff.mpr (.tail _ (.tail _ (.tail _ (.tail _ (.tail _ hq)))))
  obtain ⟨as, hr⟩ := hF.reads (h := s.heap) fun q hq => S.tail.get (List.mem_append_right _ (mem q hq))
  have := C.un
  refine r_eqd (r := decide (fsW = [])) (.list (S.tail.get (List.mem_append_right _ (hp.mem_iff.mpr (.tail _ (.tail _ (.tail _ (.head _))))))) rfl rfl hr) (.list (S.get (.head _)) rfl rfl .nil) (shaped_list fun x hx => ?_) (by decide) (by show _ + 64 < 9900; lia) ((eqv_nilR _).trans (by simp)) (k S.tail)
  obtain ⟨f, _, rfl⟩ := List.mem_map.mp hx
  exact fmD_ok f
theorem nl_frames {a k : Nat} (C : Cx w base outer env A g L n) (S : St c g L m ((a, lst [] k) :: (pre ++ news)) s) (W : LW w e lo B high dW dI fsW fsI D news) (k : St c g L m (pre ++ news) s → Q (.bool (!decide (fsW = []))) s) :
    wpAny (model PRG w) A (compareOp .NotEq (.ref e.fr) (.ref a)) Q E s := by
  obtain ⟨rows, hs, due, ⟨o, hi, bits, hits, frs, tvs, ns, nb, nh, nf, nt, vdu, fx, hp, hd, hR, hH, hF, hT, hTz, hD⟩, W2, h1, h2, h3⟩ := W
  have mem : ∀ q ∈ fx, q ∈ news := fun q hq => hp.mem_iff.mpr (.tail _ (.tail _ (.tail _ (.tail _ (.tail _ hq)))))
  obtain ⟨as, hr⟩ := hF.reads (h := s.heap) fun q hq => S.tail.get (List.mem_append_right _ (mem q hq))
  have := C.un
  refine r_ned (r := decide (fsW = [])) (.list (S.tail.get (List.mem_append_right _ (hp.mem_iff.mpr (.tail _ (.tail _ (.tail _ (.head _))))))) rfl rfl hr) (.list (S.get (.head _)) rfl rfl .nil) (shaped_list fun x hx => ?_) (by decide) (by show _ + 64 < 9900; lia) ((eqv_nilR _).trans (by simp)) (k S.tail)
  obtain ⟨f, _, rfl⟩ := List.mem_map.mp hx
  exact fmD_ok f
end
end Mine
end
section
open PySem PySem.W PyProof.Rows PySem.Calls PySem.Spec
set_option maxHeartbeats 1000000
namespace Mine

inductive AllInt : List Expr → List Int → Prop
  | nil : AllInt [] []
  | cons {n : Int} {k : Nat} {p : Pos} {es : List Expr} {ns : List Int} : AllInt es ns → AllInt (.Constant (.int n) k p :: es) (n :: ns)
theorem r_consts {w : World} {A : Around} {c : Shared} {g : Heap} {L : Addr} {m : Loc} {news : Led} {E : Value → Shared → Prop} {env : Env} {pos : Pos} {es : List Expr} {ns : List Int} (H : AllInt es ns) :
    ∀ {s : Shared} {Q : List Value → Shared → Prop}, St c g L m news s → (∀ vs s', IntsAre vs ns → St c g L m news s' → Q vs s') → wpAny (model PRG w) A (spliced (backTo pos (starEach es env))) Q E s := by
  induction H with
  | nil => intro s Q S k; exact spliced_none (k _ _ .nil S)
  | cons _ ih =>
    intro s Q S k; refine spliced_more (r_int S fun t s' S' => ?_); exact ih S' fun vs s'' hi S'' => k _ _ (.cons _ _ hi) S''
section
theorem c_none {w : World} {base : Heap} {outer : List Env} {env : Env} {A : Around} {c : Shared} {g : Heap} {L : Addr} {m : Loc} {news : Led} {s : Shared} {Q E : Value → Shared → Prop} (C : Cx w base outer env A g L 1) (S : St c g L m news s)
    (k : ∀ a vs s', IntsAre vs BAD → St c g L m ((a, lst vs 0) :: news) s' → Q (.ref a) s') :
    wpAny (model PRG w) A (call (.ref 399) []) Q E s := by
  refine' r_def C S (binds := []) ?ho ?hcd ?hb ?hl ?_ ?c1 ?c2 ?c3 ?c4
  case ho => k_is
  case hcd => k_is
  case hb => exact BindsTo.of_eq rfl
  case hl => exact locs rfl
  case c1 => decide
  case c2 => exact rfl
  case c3 => exact rfl
  case c4 => exact rfl
  intro g1 L1 s1 C1 S1 F1; k_fold
  with_reducible refine r_cons ?_
  with_reducible refine wpAny_Return_some ?_
  with_reducible refine List_ ?_
  with_reducible refine r_consts (ns := BAD) ?_ S1 fun vs s2 hI S2 => ?_
  · repeat (first | exact AllInt.nil | refine AllInt.cons ?_)
  clear S1
  with_reducible refine r_list S2 ?_ fun a s3 S3 => ?_
  · rw [hI.length]; exact Nat.le_of_ble_eq_true rfl
  (with_reducible refine seq_ret ?_); k_unfold; (with_reducible refine r_leave S3 fun S3 => ?_); exact k _ _ _ hI (by assumption)
end
end Mine
end
section
open PySem PySem.W PyProof.Rows PySem.Calls PySem.Spec
set_option maxHeartbeats 2000000
namespace Mine
theorem ints_get {vs : List Value} {ns : List Int} (H : IntsAre vs ns) : ∀ {j : Nat} (h : j < ns.length), ∃ t, vs[j]? = some (.int ns[j] t) := by
  induction H with
  | nil => intro j h; cases h
  | cons n t _ ih =>
    intro j h
    cases j with
    | zero => exact ⟨t, rfl⟩
    | succ j => simpa using ih (j := j) (by simpa using h)
section
variable {w : World} {base : Heap} {outer : List Env} {env : Env} {A : Around} {c : Shared} {g : Heap} {L : Addr} {n : Nat} {m : Loc} {news : Led} {s : Shared} {Q E : Value → Shared → Prop}
theorem r_lenB {a : Addr} {vs : List Value} {k' : Nat} (S : St c g L m news s) (ha : (a, lst vs k') ∈ news) (hI : IntsAre vs BAD) (k : ∀ t s', St c g L m news s' → Q (.int 33 t) s') : wpAny (model PRG w) A (call (.builtin "len") [.ref a]) Q E s := by
  have e : vs.length = 33 := hI.length
  refine r_len S ha (by lia) ?_
  rw [e]
  exact k
theorem r_pickB {value slice : Expr} {a : Addr} {vs : List Value} {k' : Nat} {x : Int} {u : Tok} (S : St c g L m news s) (ha : (a, lst vs k') ∈ news) (hI : IntsAre vs BAD) (k : ∀ code t, code ∈ BAD → Q (.int code t) s)
    (hs : ∀ i : Int, subscripted slice false (.ref a) (.int i u) = operate [.ref a, .int i u] (getItem (.ref a) (.int i u)) := by intro _; with_unfolding_all rfl) :
    wpAny (model PRG w) A (subscriptTail value slice (.ref a) (.int (x.fmod 33) u)) Q E s := by
  obtain ⟨j, hj, hj2⟩ := fmodN x 33 (by decide)
  have hj' : x.fmod 33 = j := hj
  rw [hj']
  obtain ⟨t, ht⟩ := ints_get hI (j := j) hj2
  exact r_item S ha (by lia) (by lia) (by simpa using ht) (k _ t (List.getElem_mem hj2)) (hs _)
end
end Mine
end
section
open PySem PySem.W PyProof.Rows PySem.Calls PySem.Spec
set_option maxHeartbeats 1000000
namespace Mine

theorem sx_blk {K F P n : Nat} {fs : List Fm} {code told : Int} (hc : code = 2 ∨ code = 3) (h0 : 0 ≤ told) (h1 : (K : Int) ≤ told) : StepX K F P ⟨n, blocksOf fs⟩ [code, told] "unknown type" := by
  obtain ⟨c0, bs, e1, e2, e3⟩ := top_open fs
  rw [e2]
  exact .blk hc h0 h1
theorem code23 (y : Int) : 2 + y.fmod 2 = 2 ∨ 2 + y.fmod 2 = 3 := by
  have h1 := Int.fmod_nonneg_of_pos y (b := 2) (by decide)
  have h2 := Int.fmod_lt_of_pos y (b := 2) (by decide)
  lia
section
theorem fmod10 (x : Int) : x.fmod 10 = 0 ∨ x.fmod 10 = 1 ∨ x.fmod 10 = 2 ∨ x.fmod 10 = 3 ∨ x.fmod 10 = 4 ∨ x.fmod 10 = 5 ∨ x.fmod 10 = 6 ∨ x.fmod 10 = 7 ∨ x.fmod 10 = 8 ∨ x.fmod 10 = 9 := by
  have h1 := Int.fmod_nonneg_of_pos x (b := 10) (by decide)
  have h2 := Int.fmod_lt_of_pos x (b := 10) (by decide)
  lia
set_option maxHeartbeats 8000000
theorem c_edgeL {w : World} {base : Heap} {outer : List Env} {env : Env} {A : Around} {c : Shared} {g : Heap} {L : Addr} {m : Loc} {news : Led} {s : Shared} {Q E : Value → Shared → Prop} {pre : Led} {e : WE} {lo B high : Nat} {fs : List Fm} {tk tf tq : Tok} (C : Cx w base outer env A g L 7)
    (S : St c g L m (pre ++ news) s) (W : LW w e lo B high false false fs fs false news) (hcod : ∀ f ∈ fs, (f.sort = 2 ↔ f.code = 4)) (hB : B ≤ 200) (hh : high = topH fs) (hz2 : high ≤ 100) (hz3 : fs.length ≤ 50) (hK : 1 ≤ e.K) (hF : 1 ≤ e.F)
    (k : ∀ D d fsI news' s', LW w e 1 (B + 5) high d d fs fsI D news' → fsI.map Fm.base = fs.map Fm.base → St c g L m (pre ++ news') s' → Q .none s') :
    wpAny (model PRG w) A (call (.ref 467) [.ref e.tp, .ref e.wd, .int e.K tk, .int e.F tf, .int e.P tq]) Q E s := by
  refine' r_def C S (binds := [("places", .int e.P tq), ("funcs", .int e.F tf), ("kinds", .int e.K tk), ("world", .ref e.wd), ("tape", .ref e.tp)]) ?ho ?hcd ?hb ?hl ?_ ?c1 ?c2 ?c3 ?c4
  case ho => k_is
  case hcd => k_is
  case hb => exact BindsTo.of_eq rfl
  case hl => exact locs rfl
  case c1 => decide
  case c2 => exact rfl
  case c3 => exact rfl
  case c4 => exact rfl
  intro g1 L1 s1 C1 S1 F1; k_fold; (with_reducible refine k_as ?_; refine wpAny_BinOp ?_; refine q_call0 C1 g0 S1 (gl_law_next w) (keep_406 w) ?_); refine c_nextL (pre := pre) (C1.le (by decide)) S1 W fun x11 t11 news11 s11 W S11 => ?_; (try simp only [cA, nA] at S11); clear S1; (with_reducible refine r_int S11 fun t12 s12 S12 => ?_; clear S11; refine r_mod S12 (by decide) fun t13 s13 S13 => ?_; clear S12; refine k_st S13 fun s14 S14 => ?_; clear S13; refine q_if g0 S14 fun τ20 α20 s20 S20 => ?_; clear S14)
  obtain hx | hx | hx | hx | hx | hx | hx | hx | hx | hx := fmod10 x11
  · rw [hx] at S20 ⊢
    refine t_tt ?_; (with_reducible refine k_ex ?_; refine q_call C1 g0 S20 (gl_law_bad w) (keep_420 w) fun τ110 α110 s110 S110 => ?_; clear S20); refine c_badL (pre := pre) (C1.le (by decide)) S110 W (by lia) fun news113 s113 W S113 => ?_; (try simp only [cA, nA] at S113); clear S110; (with_reducible refine seq_next ?_; refine k_ex ?_; refine r_call ?_); refine r_glb C1 S113 (gl_law_emit w) ?_; refine r_callK (keep_413 w) ?_; refine spliced_more ?_; refine r_loc S113 rfl ?_; refine spliced_more ?_; (with_reducible refine Tuple_ ?_); refine spliced_more ?_; (with_reducible refine Subscript_ ?_; refine q_call0 C1 g0 S113 (gl_law_none w) (keep_399 w) ?_); refine c_none (C1.le (by decide)) S113 fun a129 vs129 s129 hI129 S129 => ?_; clear S113; (with_reducible refine wpAny_BinOp ?_; refine q_call0 C1 g0 S129 (gl_law_next w) (keep_406 w) ?_); refine c_nextP (pre := _ :: pre) (C1.le (by decide)) S129 W fun x138 t138 news138 s138 W S138 => ?_; (try simp only [cA, nA] at S138); clear S129; (with_reducible refine r_call ?_); refine r_bui C1 S138 (gb_len w) (by boot_by_name) (by decide) ?_; refine r_callB ?_; refine spliced_more ?_; (with_reducible refine q_call0 C1 g0 S138 (gl_law_none w) (keep_399 w) ?_); refine c_none (C1.le (by decide)) S138 fun a146 vs146 s146 hI146 S146 => ?_; clear S138; (with_reducible refine spliced_none ?_); refine r_lenB S146 (by repeat (first | exact List.Mem.head _ | refine List.Mem.tail _ ?_)) (by assumption) fun t148 s148 S148 => ?_; clear S146; (with_reducible refine r_mod S148 (by decide) fun t149 s149 S149 => ?_; clear S148); refine r_pickB S149 (by repeat (first | exact List.Mem.head _ | refine List.Mem.tail _ ?_)) (by assumption) fun code tc hcode => ?_; (with_reducible refine q_sp g0 S149 fun τ154 α154 s154 S154 => ?_; clear S149; refine r_tuple S154 (by with_unfolding_all exact bL rfl) fun a156 s156 S156 => ?_; clear S154; refine q_sp g0 S156 fun τ158 α158 s158 S158 => ?_; clear S156; refine ⟨C1.inK S158, ?_⟩); refine c_failL (pre := _ :: _ :: pre) (high' := high) false fs (C1.le (by decide)) S158 W (.cons _ _ (.cons _ _ (.cons _ _ .nil))) (Int.add_zero _) (by lia) (by lia) (by lia) (.bad hcode) fun news161 s161 W S161 => ?_; (try simp only [cA, nA] at S161); clear S158; (with_reducible refine k_sn ?_; refine k_sn ?_); k_unfold; (with_reducible refine r_leave S161 fun S161 => ?_); exact k _ _ _ _ _ (LW.le W (by lia)) rfl (by first | assumption | exact St.tail (by assumption) | exact St.tail (St.tail (by assumption)) | exact St.tail (St.tail (St.tail (by assumption))) | exact St.tail (St.tail (St.tail (St.tail (by assumption)))) | exact St.tail (St.tail (St.tail (St.tail (St.tail (by assumption))))))
  · rw [hx] at S20 ⊢
    (with_reducible refine t_neg (by simp only [beq_iff_eq, decide_eq_true_eq]; lia) ?_; refine q_if g0 S20 fun τ206 α206 s206 S206 => ?_; clear S20); refine t_tt ?_; (with_reducible refine k_if ?_; refine isTrue_or ?_; refine wpAny_isTrue_Compare1 ?_; refine Subscript_ ?_); refine r_loc S206 rfl ?_; (with_reducible refine r_str S206 fun t216 s216 S216 => ?_; clear S206); (with_reducible refine gl_frames (pre := pre) S216 W fun s217 S217 => ?_); (try simp only [cA, nA] at S217); clear S216; (with_reducible refine q_ev g0 S217 fun τ220 α220 s220 S220 => ?_; clear S217; refine el_frames (pre := pre) C1 S220 W fun S221 => ?_; clear S220; refine wpAny_truthy_bool ?_)
    rcases fs with _ | ⟨⟨so, co, ov, ba⟩, fs⟩
    · have hsxA : StepX e.K e.F e.P ⟨high, blocksOf []⟩ [5] "else without if" := .els (by decide)
      refine t_tt ?_; (with_reducible refine t_tt ?_; refine k_ex ?_; refine q_call C1 g0 S221 (gl_law_bad w) (keep_420 w) fun τ1111 α1111 s1111 S1111 => ?_; clear S221); refine c_badL (pre := pre) (C1.le (by decide)) S1111 W (by lia) fun news1114 s1114 W S1114 => ?_; (try simp only [cA, nA] at S1114); clear S1111; (with_reducible refine k_sn ?_; refine seq_next ?_; refine k_ex ?_; refine q_call C1 g0 S1114 (gl_law_emit w) (keep_413 w) fun τ1132 α1132 s1132 S1132 => ?_; clear S1114); refine c_failL (pre := pre) (high' := high) false [] (C1.le (by decide)) S1132 W (.cons _ _ .nil) (Int.add_zero _) (by lia) (by lia) (by decide) hsxA fun news1135 s1135 W S1135 => ?_; (try simp only [cA, nA] at S1135); clear S1132; (with_reducible refine k_sn ?_; refine k_sn ?_; refine k_sn ?_); k_unfold; (with_reducible refine r_leave S1135 fun S1135 => ?_); exact k _ _ _ _ _ (LW.le W (by lia)) rfl (by first | assumption | exact St.tail (by assumption) | exact St.tail (St.tail (by assumption)) | exact St.tail (St.tail (St.tail (by assumption))) | exact St.tail (St.tail (St.tail (St.tail (by assumption)))) | exact St.tail (St.tail (St.tail (St.tail (St.tail (by assumption))))))
    · have hcd := hcod _ (.head _)
      have hl3 : fs.length + 1 ≤ 50 := hz3
      have hba : high = ba := hh
      subst hba
      have hlen : ((⟨so, co, ov, high⟩ : Fm) :: fs).length ≤ 300 := by show fs.length + 1 ≤ 300; lia
      by_cases hs2 : so = 2
      · obtain rfl : co = 4 := hcd.mp hs2
        subst hs2
        have hpsC : PS1 e.K e.F e.P false high (⟨2, 4, ov, high⟩ :: fs) [5] false high (⟨3, 5, ov, high⟩ :: fs) := ps_els
        refine t_ff ?_; (with_reducible refine isTrue_or ?_; refine wpAny_isTrue_Compare1 ?_; refine Subscript_ ?_; refine Subscript_ ?_; refine Subscript_ ?_); refine r_loc S221 rfl ?_; (with_reducible refine r_str S221 fun t1208 s1208 S1208 => ?_; clear S221); (with_reducible refine gl_frames (pre := pre) S1208 W fun s1209 S1209 => ?_); (try simp only [cA, nA] at S1209); clear S1208; (with_reducible refine q_ev g0 S1209 fun τ1212 α1212 s1212 S1212 => ?_; clear S1209; refine il_frames (pre := pre) S1212 W (by lia) fun fa kf u1 u2 u3 hfa => ?_; refine r_int S1212 fun t1214 s1214 S1214 => ?_; clear S1212; refine r_item S1214 (by repeat (first | exact List.mem_append_right _ hfa | refine List.Mem.tail _ ?_)) (by decide) (by decide) (by with_unfolding_all rfl) ?_; refine r_int S1214 fun t1216 s1216 S1216 => ?_; clear S1214; refine ne_int ?_; refine wpAny_truthy_bool ?_); refine t_ff ?_; (with_reducible refine isTrue_or_nil ?_; refine t_ff ?_; refine wpAny_execs_nil ?_; refine seq_next ?_; refine k_ex ?_; refine q_call C1 g0 S1216 (gl_law_emit w) (keep_413 w) fun τ1238 α1238 s1238 S1238 => ?_; clear S1216); refine c_emitL (pre := pre) (high' := high) (C1.le (by decide)) S1238 W (.cons _ _ .nil) (Int.add_zero _) (by lia) (by lia) (by lia) hlen (fun _ => hpsC) fun news1241 s1241 W S1241 => ?_; (try simp only [cA, nA] at S1241); clear S1238; (with_reducible refine k_sn ?_; refine k_sn ?_; refine k_sn ?_); k_unfold; (with_reducible refine r_leave S1241 fun S1241 => ?_); exact k _ _ _ _ _ (LW.le W (by lia)) rfl (by first | assumption | exact St.tail (by assumption) | exact St.tail (St.tail (by assumption)) | exact St.tail (St.tail (St.tail (by assumption))) | exact St.tail (St.tail (St.tail (St.tail (by assumption)))) | exact St.tail (St.tail (St.tail (St.tail (St.tail (by assumption))))))
      · have hsxB : StepX e.K e.F e.P ⟨high, blocksOf (⟨so, co, ov, high⟩ :: fs)⟩ [5] "else without if" := .els (fun h => hs2 (hcd.mpr h))
        refine t_ff ?_; (with_reducible refine isTrue_or ?_; refine wpAny_isTrue_Compare1 ?_; refine Subscript_ ?_; refine Subscript_ ?_; refine Subscript_ ?_); refine r_loc S221 rfl ?_; (with_reducible refine r_str S221 fun t1308 s1308 S1308 => ?_; clear S221); (with_reducible refine gl_frames (pre := pre) S1308 W fun s1309 S1309 => ?_); (try simp only [cA, nA] at S1309); clear S1308; (with_reducible refine q_ev g0 S1309 fun τ1312 α1312 s1312 S1312 => ?_; clear S1309; refine il_frames (pre := pre) S1312 W (by lia) fun fa kf u1 u2 u3 hfa => ?_; refine r_int S1312 fun t1314 s1314 S1314 => ?_; clear S1312; refine r_item S1314 (by repeat (first | exact List.mem_append_right _ hfa | refine List.Mem.tail _ ?_)) (by decide) (by decide) (by with_unfolding_all rfl) ?_; refine r_int S1314 fun t1316 s1316 S1316 => ?_; clear S1314; refine ne_int ?_; refine wpAny_truthy_bool ?_; refine t_pos (by simp only [bne_iff_ne, ne_eq, List.length_cons]; lia) ?_; refine t_tt ?_; refine k_ex ?_; refine q_call C1 g0 S1316 (gl_law_bad w) (keep_420 w) fun τ1329 α1329 s1329 S1329 => ?_; clear S1316); refine c_badL (pre := pre) (C1.le (by decide)) S1329 W (by lia) fun news1332 s1332 W S1332 => ?_; (try simp only [cA, nA] at S1332); clear S1329; (with_reducible refine k_sn ?_; refine seq_next ?_; refine k_ex ?_; refine q_call C1 g0 S1332 (gl_law_emit w) (keep_413 w) fun τ1350 α1350 s1350 S1350 => ?_; clear S1332); refine c_failL (pre := pre) (high' := high) false (⟨so, co, ov, high⟩ :: fs) (C1.le (by decide)) S1350 W (.cons _ _ .nil) (Int.add_zero _) (by lia) (by lia) hlen hsxB fun news1353 s1353 W S1353 => ?_; (try simp only [cA, nA] at S1353); clear S1350; (with_reducible refine k_sn ?_; refine k_sn ?_; refine k_sn ?_); k_unfold; (with_reducible refine r_leave S1353 fun S1353 => ?_); exact k _ _ _ _ _ (LW.le W (by lia)) rfl (by first | assumption | exact St.tail (by assumption) | exact St.tail (St.tail (by assumption)) | exact St.tail (St.tail (St.tail (by assumption))) | exact St.tail (St.tail (St.tail (St.tail (by assumption)))) | exact St.tail (St.tail (St.tail (St.tail (St.tail (by assumption))))))
  · rw [hx] at S20 ⊢
    (with_reducible refine t_neg (by simp only [beq_iff_eq, decide_eq_true_eq]; lia) ?_; refine q_if g0 S20 fun τ306 α306 s306 S306 => ?_; clear S20; refine t_neg (by simp only [beq_iff_eq, decide_eq_true_eq]; lia) ?_; refine q_if g0 S306 fun τ314 α314 s314 S314 => ?_; clear S306); refine t_tt ?_; (with_reducible refine k_as ?_; refine q_call0 C1 g0 S314 (gl_law_spot w) (keep_441 w) ?_); refine c_spotL (pre := pre) (C1.le (by decide)) S314 W fun v329 t329 news329 s329 hv329 W S329 => ?_; (try simp only [cA, nA] at S329); clear S314; (with_reducible refine k_st S329 fun s330 S330 => ?_; clear S329; refine k_if ?_; refine wpAny_isTrue_Compare1 ?_); refine r_loc S330 rfl ?_; refine r_loc S330 rfl ?_; (with_reducible refine ge_int ?_; refine wpAny_truthy_bool ?_)
    by_cases hvK : (e.K : Int) ≤ v329
    · (with_reducible refine t_pos (by simp only [beq_iff_eq, decide_eq_true_eq]; lia) ?_; refine k_ex ?_; refine q_call C1 g0 S330 (gl_law_bad w) (keep_420 w) fun τ1410 α1410 s1410 S1410 => ?_; clear S330); refine c_badL (pre := pre) (C1.le (by decide)) S1410 W (by lia) fun news1413 s1413 W S1413 => ?_; (try simp only [cA, nA] at S1413); clear S1410; (with_reducible refine k_sn ?_; refine seq_next ?_; refine k_ex ?_; refine r_call ?_); refine r_glb C1 S1413 (gl_law_emit w) ?_; refine r_callK (keep_413 w) ?_; refine spliced_more ?_; refine r_loc S1413 rfl ?_; refine spliced_more ?_; (with_reducible refine Tuple_ ?_); refine spliced_more ?_; (with_reducible refine wpAny_BinOp ?_; refine r_int S1413 fun t1428 s1428 S1428 => ?_; clear S1413; refine wpAny_BinOp ?_; refine q_call0 C1 g0 S1428 (gl_law_next w) (keep_406 w) ?_); refine c_nextP (pre := pre) (C1.le (by decide)) S1428 W fun x1437 t1437 news1437 s1437 W S1437 => ?_; (try simp only [cA, nA] at S1437); clear S1428; (with_reducible refine r_int S1437 fun t1438 s1438 S1438 => ?_; clear S1437; refine r_mod S1438 (by decide) fun t1439 s1439 S1439 => ?_; clear S1438; refine r_add S1439 fun t1440 s1440 S1440 => ?_; clear S1439; refine q_sp0 g0 S1440 ?_; refine r_tuple S1440 (by with_unfolding_all exact bL rfl) fun a1444 s1444 S1444 => ?_; clear S1440; refine q_sp g0 S1444 fun τ1446 α1446 s1446 S1446 => ?_; clear S1444; refine ⟨C1.inK S1446, ?_⟩); refine c_failL (pre := pre) (high' := high) false fs (C1.le (by decide)) S1446 W (.cons _ _ (.cons _ _ .nil)) (Int.add_zero _) (by lia) (by lia) (by lia) (sx_blk (code23 _) (by lia) hvK) fun news1449 s1449 W S1449 => ?_; (try simp only [cA, nA] at S1449); clear S1446; (with_reducible refine seq_next ?_; refine k_ex ?_; refine q_call C1 g0 S1449 (gl_law_emit w) (keep_413 w) fun τ1465 α1465 s1465 S1465 => ?_; clear S1449); refine c_emitL (pre := pre) (high' := high) (d' := false) (fsI' := fs) (C1.le (by decide)) S1465 W (.cons _ _ .nil) (Int.add_zero _) (by lia) (by lia) (by lia) (by lia) (fun h => nomatch h) fun news1468 s1468 W S1468 => ?_; (try simp only [cA, nA] at S1468); clear S1465; (with_reducible refine k_sn ?_; refine k_sn ?_; refine k_sn ?_; refine k_sn ?_); k_unfold; (with_reducible refine r_leave S1468 fun S1468 => ?_); exact k _ _ _ _ _ (LW.le W (by lia)) rfl (by first | assumption | exact St.tail (by assumption) | exact St.tail (St.tail (by assumption)) | exact St.tail (St.tail (St.tail (by assumption))) | exact St.tail (St.tail (St.tail (St.tail (by assumption)))) | exact St.tail (St.tail (St.tail (St.tail (St.tail (by assumption))))))
    · have hv0 : 0 ≤ v329 := by lia
      have hv1 : v329 < e.K := by lia
      (with_reducible refine t_neg (by simp only [beq_iff_eq, decide_eq_true_eq]; lia) ?_; refine wpAny_execs_nil ?_; refine seq_next ?_; refine k_ex ?_; refine r_call ?_); refine r_glb C1 S330 (gl_law_emit w) ?_; refine r_callK (keep_413 w) ?_; refine spliced_more ?_; refine r_loc S330 rfl ?_; refine spliced_more ?_; (with_reducible refine Tuple_ ?_); refine spliced_more ?_; (with_reducible refine wpAny_BinOp ?_; refine r_int S330 fun t1515 s1515 S1515 => ?_; clear S330; refine wpAny_BinOp ?_; refine q_call0 C1 g0 S1515 (gl_law_next w) (keep_406 w) ?_); refine c_nextL (pre := pre) (C1.le (by decide)) S1515 W fun x1524 t1524 news1524 s1524 W S1524 => ?_; (try simp only [cA, nA] at S1524); clear S1515; (with_reducible refine r_int S1524 fun t1525 s1525 S1525 => ?_; clear S1524; refine r_mod S1525 (by decide) fun t1526 s1526 S1526 => ?_; clear S1525; refine r_add S1526 fun t1527 s1527 S1527 => ?_; clear S1526; refine q_sp0 g0 S1527 ?_; refine r_tuple S1527 (by with_unfolding_all exact bL rfl) fun a1531 s1531 S1531 => ?_; clear S1527; refine q_sp g0 S1531 fun τ1533 α1533 s1533 S1533 => ?_; clear S1531; refine ⟨C1.inK S1533, ?_⟩); refine c_emitL (pre := pre) (high' := high) (C1.le (by decide)) S1533 W (.cons _ _ (.cons _ _ .nil)) (Int.add_zero _) (by lia) (by lia) (by lia) (by lia) (fun _ => ps_blkT (sort := 0) (over := 0) (code23 _) hv0 hv1 (by lia)) fun news1536 s1536 W S1536 => ?_; (try simp only [cA, nA] at S1536); clear S1533; (with_reducible refine seq_next ?_; refine k_ex ?_; refine q_call C1 g0 S1536 (gl_law_emit w) (keep_413 w) fun τ1552 α1552 s1552 S1552 => ?_; clear S1536); refine c_emitL (pre := pre) (high' := high) (C1.le (by decide)) S1552 W (.cons _ _ .nil) (Int.add_zero _) (by lia) (by lia) (by show high ≤ 300; lia) (by show fs.length + 1 ≤ 300; lia) (fun _ => ps_fin (fun _ => rfl) (by show topH fs ≤ high; lia)) fun news1555 s1555 W S1555 => ?_; (try simp only [cA, nA] at S1555); clear S1552; (with_reducible refine k_sn ?_; refine k_sn ?_; refine k_sn ?_; refine k_sn ?_); k_unfold; (with_reducible refine r_leave S1555 fun S1555 => ?_); exact k _ _ _ _ _ (LW.le W (by lia)) rfl (by first | assumption | exact St.tail (by assumption) | exact St.tail (St.tail (by assumption)) | exact St.tail (St.tail (St.tail (by assumption))) | exact St.tail (St.tail (St.tail (St.tail (by assumption)))) | exact St.tail (St.tail (St.tail (St.tail (St.tail (by assumption))))))
  · rw [hx] at S20 ⊢
    (with_reducible refine t_neg (by simp only [beq_iff_eq, decide_eq_true_eq]; lia) ?_; refine q_if g0 S20 fun τ406 α406 s406 S406 => ?_; clear S20; refine t_neg (by simp only [beq_iff_eq, decide_eq_true_eq]; lia) ?_; refine q_if g0 S406 fun τ414 α414 s414 S414 => ?_; clear S406; refine t_neg (by simp only [beq_iff_eq, decide_eq_true_eq]; lia) ?_; refine q_if g0 S414 fun τ422 α422 s422 S422 => ?_; clear S414); refine t_tt ?_; (with_reducible refine k_ex ?_; refine q_call0 C1 g0 S422 (gl_law_local w) (keep_448 w) ?_); refine c_localL (pre := pre) (C1.le (by decide)) S422 W (by lia) hh hz2 hz3 fun D439 news439 s439 W S439 => ?_; (try simp only [cA, nA] at S439); clear S422; (with_reducible refine k_sn ?_; refine k_sn ?_; refine k_sn ?_; refine k_sn ?_; refine k_sn ?_); k_unfold; (with_reducible refine r_leave S439 fun S439 => ?_); exact k _ _ _ _ _ (LW.le W (by lia)) rfl (by first | assumption | exact St.tail (by assumption) | exact St.tail (St.tail (by assumption)) | exact St.tail (St.tail (St.tail (by assumption))) | exact St.tail (St.tail (St.tail (St.tail (by assumption)))) | exact St.tail (St.tail (St.tail (St.tail (St.tail (by assumption))))))
  · rw [hx] at S20 ⊢
    (with_reducible refine t_neg (by simp only [beq_iff_eq, decide_eq_true_eq]; lia) ?_; refine q_if g0 S20 fun τ506 α506 s506 S506 => ?_; clear S20; refine t_neg (by simp only [beq_iff_eq, decide_eq_true_eq]; lia) ?_; refine q_if g0 S506 fun τ514 α514 s514 S514 => ?_; clear S506; refine t_neg (by simp only [beq_iff_eq, decide_eq_true_eq]; lia) ?_; refine q_if g0 S514 fun τ522 α522 s522 S522 => ?_; clear S514; refine t_neg (by simp only [beq_iff_eq, decide_eq_true_eq]; lia) ?_; refine k_if ?_; refine isTrue_or ?_; refine wpAny_isTrue_Compare1 ?_); refine r_loc S522 rfl ?_; (with_reducible refine r_int S522 fun t531 s531 S531 => ?_; clear S522; refine eq_int ?_; refine wpAny_truthy_bool ?_); refine t_tt ?_; (with_reducible refine t_tt ?_; refine k_as ?_; refine q_call0 C1 g0 S531 (gl_law_spot w) (keep_441 w) ?_); refine c_spotL (pre := pre) (C1.le (by decide)) S531 W fun v547 t547 news547 s547 hv547 W S547 => ?_; (try simp only [cA, nA] at S547); clear S531; (with_reducible refine k_st S547 fun s548 S548 => ?_; clear S547; refine k_if ?_; refine wpAny_isTrue_Compare1 ?_); refine r_loc S548 rfl ?_; refine r_loc S548 rfl ?_; (with_reducible refine ge_int ?_; refine wpAny_truthy_bool ?_)
    by_cases hvF : (e.F : Int) ≤ v547
    · have hsxC : StepX e.K e.F e.P ⟨high, blocksOf fs⟩ [16, v547] "unknown function" := .call (.inl rfl) hvF
      (with_reducible refine t_pos (by simp only [beq_iff_eq, decide_eq_true_eq]; lia) ?_; refine k_ex ?_; refine q_call C1 g0 S548 (gl_law_bad w) (keep_420 w) fun τ1610 α1610 s1610 S1610 => ?_; clear S548); refine c_badL (pre := pre) (C1.le (by decide)) S1610 W (by lia) fun news1613 s1613 W S1613 => ?_; (try simp only [cA, nA] at S1613); clear S1610; (with_reducible refine k_sn ?_; refine seq_next ?_; refine k_ex ?_; refine r_call ?_); refine r_glb C1 S1613 (gl_law_emit w) ?_; refine r_callK (keep_413 w) ?_; refine spliced_more ?_; refine r_loc S1613 rfl ?_; refine spliced_more ?_; (with_reducible refine Tuple_ ?_); refine spliced_more ?_; (with_reducible refine wpAny_IfExp ?_; refine wpAny_isTrue_Compare1 ?_); refine r_loc S1613 rfl ?_; (with_reducible refine r_int S1613 fun t1630 s1630 S1630 => ?_; clear S1613; refine eq_int ?_; refine wpAny_truthy_bool ?_); refine t_tt ?_; (with_reducible refine r_int S1630 fun t1634 s1634 S1634 => ?_; clear S1630; refine q_sp0 g0 S1634 ?_; refine r_tuple S1634 (by with_unfolding_all exact bL rfl) fun a1638 s1638 S1638 => ?_; clear S1634; refine q_sp g0 S1638 fun τ1640 α1640 s1640 S1640 => ?_; clear S1638; refine ⟨C1.inK S1640, ?_⟩); refine c_failL (pre := pre) (high' := high) false fs (C1.le (by decide)) S1640 W (.cons _ _ (.cons _ _ .nil)) (Int.add_zero _) (by lia) (by lia) (by lia) hsxC fun news1643 s1643 W S1643 => ?_; (try simp only [cA, nA] at S1643); clear S1640; (with_reducible refine seq_next ?_; refine r_cons ?_); refine wpAny_Assign_Subscript ?_; (with_reducible refine q_ev g0 S1643 fun τ1649 α1649 s1649 S1649 => ?_; clear S1643); refine r_loc S1649 rfl ?_; (with_reducible refine r_str S1649 fun t1652 s1652 S1652 => ?_; clear S1649); (with_reducible refine sl_dead (pre := pre) S1652 W fun news1653 s1653 W S1653 => ?_); (try simp only [cA, nA] at S1653); clear S1652; (with_reducible refine k_sn ?_; refine k_sn ?_; refine k_sn ?_; refine k_sn ?_; refine k_sn ?_; refine k_sn ?_); k_unfold; (with_reducible refine r_leave S1653 fun S1653 => ?_); exact k _ _ _ _ _ (LW.le W (by lia)) rfl (by first | assumption | exact St.tail (by assumption) | exact St.tail (St.tail (by assumption)) | exact St.tail (St.tail (St.tail (by assumption))) | exact St.tail (St.tail (St.tail (St.tail (by assumption)))) | exact St.tail (St.tail (St.tail (St.tail (St.tail (by assumption))))))
    · have hpsD : PS1 e.K e.F e.P false high fs [16, v547] false high fs := ps_call (by lia) (by lia) (by lia)
      (with_reducible refine t_neg (by simp only [beq_iff_eq, decide_eq_true_eq]; lia) ?_; refine wpAny_execs_nil ?_; refine seq_next ?_; refine k_ex ?_; refine r_call ?_); refine r_glb C1 S548 (gl_law_emit w) ?_; refine r_callK (keep_413 w) ?_; refine spliced_more ?_; refine r_loc S548 rfl ?_; refine spliced_more ?_; (with_reducible refine Tuple_ ?_); refine spliced_more ?_; (with_reducible refine wpAny_IfExp ?_; refine wpAny_isTrue_Compare1 ?_); refine r_loc S548 rfl ?_; (with_reducible refine r_int S548 fun t1717 s1717 S1717 => ?_; clear S548; refine eq_int ?_; refine wpAny_truthy_bool ?_); refine t_tt ?_; (with_reducible refine r_int S1717 fun t1721 s1721 S1721 => ?_; clear S1717; refine q_sp0 g0 S1721 ?_; refine r_tuple S1721 (by with_unfolding_all exact bL rfl) fun a1725 s1725 S1725 => ?_; clear S1721; refine q_sp g0 S1725 fun τ1727 α1727 s1727 S1727 => ?_; clear S1725; refine ⟨C1.inK S1727, ?_⟩); refine c_emitL (pre := pre) (high' := high) (C1.le (by decide)) S1727 W (.cons _ _ (.cons _ _ .nil)) (Int.add_zero _) (by lia) (by lia) (by lia) (by lia) (fun _ => hpsD) fun news1730 s1730 W S1730 => ?_; (try simp only [cA, nA] at S1730); clear S1727; (with_reducible refine seq_next ?_; refine r_cons ?_); refine wpAny_Assign_Subscript ?_; (with_reducible refine q_ev g0 S1730 fun τ1736 α1736 s1736 S1736 => ?_; clear S1730); refine r_loc S1736 rfl ?_; (with_reducible refine r_str S1736 fun t1739 s1739 S1739 => ?_; clear S1736); (with_reducible refine sl_dead (pre := pre) S1739 W fun news1740 s1740 W S1740 => ?_); (try simp only [cA, nA] at S1740); clear S1739; (with_reducible refine k_sn ?_; refine k_sn ?_; refine k_sn ?_; refine k_sn ?_; refine k_sn ?_; refine k_sn ?_); k_unfold; (with_reducible refine r_leave S1740 fun S1740 => ?_); exact k _ _ _ _ _ (LW.le W (by lia)) rfl (by first | assumption | exact St.tail (by assumption) | exact St.tail (St.tail (by assumption)) | exact St.tail (St.tail (St.tail (by assumption))) | exact St.tail (St.tail (St.tail (St.tail (by assumption)))) | exact St.tail (St.tail (St.tail (St.tail (St.tail (by assumption))))))
  · rw [hx] at S20 ⊢
    (with_reducible refine t_neg (by simp only [beq_iff_eq, decide_eq_true_eq]; lia) ?_; refine q_if g0 S20 fun τ606 α606 s606 S606 => ?_; clear S20; refine t_neg (by simp only [beq_iff_eq, decide_eq_true_eq]; lia) ?_; refine q_if g0 S606 fun τ614 α614 s614 S614 => ?_; clear S606; refine t_neg (by simp only [beq_iff_eq, decide_eq_true_eq]; lia) ?_; refine q_if g0 S614 fun τ622 α622 s622 S622 => ?_; clear S614; refine t_neg (by simp only [beq_iff_eq, decide_eq_true_eq]; lia) ?_; refine k_if ?_; refine isTrue_or ?_; refine wpAny_isTrue_Compare1 ?_); refine r_loc S622 rfl ?_; (with_reducible refine r_int S622 fun t631 s631 S631 => ?_; clear S622; refine eq_int ?_; refine wpAny_truthy_bool ?_; refine t_neg (by simp only [beq_iff_eq, decide_eq_true_eq]; lia) ?_; refine isTrue_or ?_; refine wpAny_isTrue_Compare1 ?_); refine r_loc S631 rfl ?_; (with_reducible refine r_int S631 fun t638 s638 S638 => ?_; clear S631; refine eq_int ?_; refine wpAny_truthy_bool ?_); refine t_tt ?_; (with_reducible refine t_tt ?_; refine k_as ?_; refine q_call0 C1 g0 S638 (gl_law_spot w) (keep_441 w) ?_); refine c_spotL (pre := pre) (C1.le (by decide)) S638 W fun v654 t654 news654 s654 hv654 W S654 => ?_; (try simp only [cA, nA] at S654); clear S638; (with_reducible refine k_st S654 fun s655 S655 => ?_; clear S654; refine k_if ?_; refine wpAny_isTrue_Compare1 ?_); refine r_loc S655 rfl ?_; refine r_loc S655 rfl ?_; (with_reducible refine ge_int ?_; refine wpAny_truthy_bool ?_)
    by_cases hvF : (e.F : Int) ≤ v654
    · have hsxE : StepX e.K e.F e.P ⟨high, blocksOf fs⟩ [18, v654] "unknown function" := .call (.inr rfl) hvF
      (with_reducible refine t_pos (by simp only [beq_iff_eq, decide_eq_true_eq]; lia) ?_; refine k_ex ?_; refine q_call C1 g0 S655 (gl_law_bad w) (keep_420 w) fun τ1810 α1810 s1810 S1810 => ?_; clear S655); refine c_badL (pre := pre) (C1.le (by decide)) S1810 W (by lia) fun news1813 s1813 W S1813 => ?_; (try simp only [cA, nA] at S1813); clear S1810; (with_reducible refine k_sn ?_; refine seq_next ?_; refine k_ex ?_; refine r_call ?_); refine r_glb C1 S1813 (gl_law_emit w) ?_; refine r_callK (keep_413 w) ?_; refine spliced_more ?_; refine r_loc S1813 rfl ?_; refine spliced_more ?_; (with_reducible refine Tuple_ ?_); refine spliced_more ?_; (with_reducible refine wpAny_IfExp ?_; refine wpAny_isTrue_Compare1 ?_); refine r_loc S1813 rfl ?_; (with_reducible refine r_int S1813 fun t1830 s1830 S1830 => ?_; clear S1813; refine eq_int ?_; refine wpAny_truthy_bool ?_; refine t_neg (by simp only [beq_iff_eq, decide_eq_true_eq]; lia) ?_; refine r_int S1830 fun t1834 s1834 S1834 => ?_; clear S1830; refine q_sp0 g0 S1834 ?_; refine r_tuple S1834 (by with_unfolding_all exact bL rfl) fun a1838 s1838 S1838 => ?_; clear S1834; refine q_sp g0 S1838 fun τ1840 α1840 s1840 S1840 => ?_; clear S1838; refine ⟨C1.inK S1840, ?_⟩); refine c_failL (pre := pre) (high' := high) true fs (C1.le (by decide)) S1840 W (.cons _ _ (.cons _ _ .nil)) (Int.add_zero _) (by lia) (by lia) (by lia) hsxE fun news1843 s1843 W S1843 => ?_; (try simp only [cA, nA] at S1843); clear S1840; (with_reducible refine seq_next ?_; refine r_cons ?_); refine wpAny_Assign_Subscript ?_; (with_reducible refine q_ev g0 S1843 fun τ1849 α1849 s1849 S1849 => ?_; clear S1843); refine r_loc S1849 rfl ?_; (with_reducible refine r_str S1849 fun t1852 s1852 S1852 => ?_; clear S1849); (with_reducible refine sl_dead (pre := pre) S1852 W fun news1853 s1853 W S1853 => ?_); (try simp only [cA, nA] at S1853); clear S1852; (with_reducible refine k_sn ?_; refine k_sn ?_; refine k_sn ?_; refine k_sn ?_; refine k_sn ?_; refine k_sn ?_); k_unfold; (with_reducible refine r_leave S1853 fun S1853 => ?_); exact k _ _ _ _ _ (LW.le W (by lia)) rfl (by first | assumption | exact St.tail (by assumption) | exact St.tail (St.tail (by assumption)) | exact St.tail (St.tail (St.tail (by assumption))) | exact St.tail (St.tail (St.tail (St.tail (by assumption)))) | exact St.tail (St.tail (St.tail (St.tail (St.tail (by assumption))))))
    · have hpsD : PS1 e.K e.F e.P false high fs [18, v654] true high fs := ps_tail (by lia) (by lia) (by lia)
      (with_reducible refine t_neg (by simp only [beq_iff_eq, decide_eq_true_eq]; lia) ?_; refine wpAny_execs_nil ?_; refine seq_next ?_; refine k_ex ?_; refine r_call ?_); refine r_glb C1 S655 (gl_law_emit w) ?_; refine r_callK (keep_413 w) ?_; refine spliced_more ?_; refine r_loc S655 rfl ?_; refine spliced_more ?_; (with_reducible refine Tuple_ ?_); refine spliced_more ?_; (with_reducible refine wpAny_IfExp ?_; refine wpAny_isTrue_Compare1 ?_); refine r_loc S655 rfl ?_; (with_reducible refine r_int S655 fun t1917 s1917 S1917 => ?_; clear S655; refine eq_int ?_; refine wpAny_truthy_bool ?_; refine t_neg (by simp only [beq_iff_eq, decide_eq_true_eq]; lia) ?_; refine r_int S1917 fun t1921 s1921 S1921 => ?_; clear S1917; refine q_sp0 g0 S1921 ?_; refine r_tuple S1921 (by with_unfolding_all exact bL rfl) fun a1925 s1925 S1925 => ?_; clear S1921; refine q_sp g0 S1925 fun τ1927 α1927 s1927 S1927 => ?_; clear S1925; refine ⟨C1.inK S1927, ?_⟩); refine c_emitL (pre := pre) (high' := high) (C1.le (by decide)) S1927 W (.cons _ _ (.cons _ _ .nil)) (Int.add_zero _) (by lia) (by lia) (by lia) (by lia) (fun _ => hpsD) fun news1930 s1930 W S1930 => ?_; (try simp only [cA, nA] at S1930); clear S1927; (with_reducible refine seq_next ?_; refine r_cons ?_); refine wpAny_Assign_Subscript ?_; (with_reducible refine q_ev g0 S1930 fun τ1936 α1936 s1936 S1936 => ?_; clear S1930); refine r_loc S1936 rfl ?_; (with_reducible refine r_str S1936 fun t1939 s1939 S1939 => ?_; clear S1936); (with_reducible refine sl_dead (pre := pre) S1939 W fun news1940 s1940 W S1940 => ?_); (try simp only [cA, nA] at S1940); clear S1939; (with_reducible refine k_sn ?_; refine k_sn ?_; refine k_sn ?_; refine k_sn ?_; refine k_sn ?_; refine k_sn ?_); k_unfold; (with_reducible refine r_leave S1940 fun S1940 => ?_); exact k _ _ _ _ _ (LW.le W (by lia)) rfl (by first | assumption | exact St.tail (by assumption) | exact St.tail (St.tail (by assumption)) | exact St.tail (St.tail (St.tail (by assumption))) | exact St.tail (St.tail (St.tail (St.tail (by assumption)))) | exact St.tail (St.tail (St.tail (St.tail (St.tail (by assumption))))))
  · rw [hx] at S20 ⊢
    (with_reducible refine t_neg (by simp only [beq_iff_eq, decide_eq_true_eq]; lia) ?_; refine q_if g0 S20 fun τ706 α706 s706 S706 => ?_; clear S20; refine t_neg (by simp only [beq_iff_eq, decide_eq_true_eq]; lia) ?_; refine q_if g0 S706 fun τ714 α714 s714 S714 => ?_; clear S706; refine t_neg (by simp only [beq_iff_eq, decide_eq_true_eq]; lia) ?_; refine q_if g0 S714 fun τ722 α722 s722 S722 => ?_; clear S714; refine t_neg (by simp only [beq_iff_eq, decide_eq_true_eq]; lia) ?_; refine k_if ?_; refine isTrue_or ?_; refine wpAny_isTrue_Compare1 ?_); refine r_loc S722 rfl ?_; (with_reducible refine r_int S722 fun t731 s731 S731 => ?_; clear S722; refine eq_int ?_; refine wpAny_truthy_bool ?_; refine t_neg (by simp only [beq_iff_eq, decide_eq_true_eq]; lia) ?_; refine isTrue_or ?_; refine wpAny_isTrue_Compare1 ?_); refine r_loc S731 rfl ?_; (with_reducible refine r_int S731 fun t738 s738 S738 => ?_; clear S731; refine eq_int ?_; refine wpAny_truthy_bool ?_; refine t_neg (by simp only [beq_iff_eq, decide_eq_true_eq]; lia) ?_; refine isTrue_or_nil ?_; refine t_ff ?_; refine q_if g0 S738 fun τ748 α748 s748 S748 => ?_; clear S738; refine t_pos (by simp only [beq_iff_eq, decide_eq_true_eq]; lia) ?_; refine k_ex ?_; refine q_call C1 g0 S748 (gl_law_label w) (keep_453 w) fun τ765 α765 s765 S765 => ?_; clear S748); refine c_labelL (pre := pre) (C1.le (by decide)) S765 W (by decide) (by lia) hh hz2 hz3 fun D768 dd768 news768 s768 W S768 => ?_; (try simp only [cA, nA] at S768); clear S765; (with_reducible refine k_sn ?_; refine k_sn ?_; refine k_sn ?_; refine k_sn ?_; refine k_sn ?_; refine k_sn ?_; refine k_sn ?_); k_unfold; (with_reducible refine r_leave S768 fun S768 => ?_); exact k _ _ _ _ _ (LW.le W (by lia)) rfl (by first | assumption | exact St.tail (by assumption) | exact St.tail (St.tail (by assumption)) | exact St.tail (St.tail (St.tail (by assumption))) | exact St.tail (St.tail (St.tail (St.tail (by assumption)))) | exact St.tail (St.tail (St.tail (St.tail (St.tail (by assumption))))))
  · rw [hx] at S20 ⊢
    (with_reducible refine t_neg (by simp only [beq_iff_eq, decide_eq_true_eq]; lia) ?_; refine q_if g0 S20 fun τ806 α806 s806 S806 => ?_; clear S20; refine t_neg (by simp only [beq_iff_eq, decide_eq_true_eq]; lia) ?_; refine q_if g0 S806 fun τ814 α814 s814 S814 => ?_; clear S806; refine t_neg (by simp only [beq_iff_eq, decide_eq_true_eq]; lia) ?_; refine q_if g0 S814 fun τ822 α822 s822 S822 => ?_; clear S814; refine t_neg (by simp only [beq_iff_eq, decide_eq_true_eq]; lia) ?_; refine k_if ?_; refine isTrue_or ?_; refine wpAny_isTrue_Compare1 ?_); refine r_loc S822 rfl ?_; (with_reducible refine r_int S822 fun t831 s831 S831 => ?_; clear S822; refine eq_int ?_; refine wpAny_truthy_bool ?_; refine t_neg (by simp only [beq_iff_eq, decide_eq_true_eq]; lia) ?_; refine isTrue_or ?_; refine wpAny_isTrue_Compare1 ?_); refine r_loc S831 rfl ?_; (with_reducible refine r_int S831 fun t838 s838 S838 => ?_; clear S831; refine eq_int ?_; refine wpAny_truthy_bool ?_; refine t_neg (by simp only [beq_iff_eq, decide_eq_true_eq]; lia) ?_; refine isTrue_or_nil ?_; refine t_ff ?_; refine q_if g0 S838 fun τ848 α848 s848 S848 => ?_; clear S838; refine t_pos (by simp only [beq_iff_eq, decide_eq_true_eq]; lia) ?_; refine k_ex ?_; refine q_call C1 g0 S848 (gl_law_label w) (keep_453 w) fun τ865 α865 s865 S865 => ?_; clear S848); refine c_labelL (pre := pre) (C1.le (by decide)) S865 W (by decide) (by lia) hh hz2 hz3 fun D868 dd868 news868 s868 W S868 => ?_; (try simp only [cA, nA] at S868); clear S865; (with_reducible refine k_sn ?_; refine k_sn ?_; refine k_sn ?_; refine k_sn ?_; refine k_sn ?_; refine k_sn ?_; refine k_sn ?_); k_unfold; (with_reducible refine r_leave S868 fun S868 => ?_); exact k _ _ _ _ _ (LW.le W (by lia)) rfl (by first | assumption | exact St.tail (by assumption) | exact St.tail (St.tail (by assumption)) | exact St.tail (St.tail (St.tail (by assumption))) | exact St.tail (St.tail (St.tail (St.tail (by assumption)))) | exact St.tail (St.tail (St.tail (St.tail (St.tail (by assumption))))))
  · rw [hx] at S20 ⊢
    (with_reducible refine t_neg (by simp only [beq_iff_eq, decide_eq_true_eq]; lia) ?_; refine q_if g0 S20 fun τ906 α906 s906 S906 => ?_; clear S20; refine t_neg (by simp only [beq_iff_eq, decide_eq_true_eq]; lia) ?_; refine q_if g0 S906 fun τ914 α914 s914 S914 => ?_; clear S906; refine t_neg (by simp only [beq_iff_eq, decide_eq_true_eq]; lia) ?_; refine q_if g0 S914 fun τ922 α922 s922 S922 => ?_; clear S914; refine t_neg (by simp only [beq_iff_eq, decide_eq_true_eq]; lia) ?_; refine k_if ?_; refine isTrue_or ?_; refine wpAny_isTrue_Compare1 ?_); refine r_loc S922 rfl ?_; (with_reducible refine r_int S922 fun t931 s931 S931 => ?_; clear S922; refine eq_int ?_; refine wpAny_truthy_bool ?_; refine t_neg (by simp only [beq_iff_eq, decide_eq_true_eq]; lia) ?_; refine isTrue_or ?_; refine wpAny_isTrue_Compare1 ?_); refine r_loc S931 rfl ?_; (with_reducible refine r_int S931 fun t938 s938 S938 => ?_; clear S931; refine eq_int ?_; refine wpAny_truthy_bool ?_; refine t_neg (by simp only [beq_iff_eq, decide_eq_true_eq]; lia) ?_; refine isTrue_or_nil ?_; refine t_ff ?_; refine q_if g0 S938 fun τ948 α948 s948 S948 => ?_; clear S938; refine t_pos (by simp only [beq_iff_eq, decide_eq_true_eq]; lia) ?_; refine k_ex ?_; refine q_call C1 g0 S948 (gl_law_label w) (keep_453 w) fun τ965 α965 s965 S965 => ?_; clear S948); refine c_labelL (pre := pre) (C1.le (by decide)) S965 W (by decide) (by lia) hh hz2 hz3 fun D968 dd968 news968 s968 W S968 => ?_; (try simp only [cA, nA] at S968); clear S965; (with_reducible refine k_sn ?_; refine k_sn ?_; refine k_sn ?_; refine k_sn ?_; refine k_sn ?_; refine k_sn ?_; refine k_sn ?_); k_unfold; (with_reducible refine r_leave S968 fun S968 => ?_); exact k _ _ _ _ _ (LW.le W (by lia)) rfl (by first | assumption | exact St.tail (by assumption) | exact St.tail (St.tail (by assumption)) | exact St.tail (St.tail (St.tail (by assumption))) | exact St.tail (St.tail (St.tail (St.tail (by assumption)))) | exact St.tail (St.tail (St.tail (St.tail (St.tail (by assumption))))))
  · rw [hx] at S20 ⊢
    (with_reducible refine t_neg (by simp only [beq_iff_eq, decide_eq_true_eq]; lia) ?_; refine q_if g0 S20 fun τ1006 α1006 s1006 S1006 => ?_; clear S20; refine t_neg (by simp only [beq_iff_eq, decide_eq_true_eq]; lia) ?_; refine q_if g0 S1006 fun τ1014 α1014 s1014 S1014 => ?_; clear S1006; refine t_neg (by simp only [beq_iff_eq, decide_eq_true_eq]; lia) ?_; refine q_if g0 S1014 fun τ1022 α1022 s1022 S1022 => ?_; clear S1014; refine t_neg (by simp only [beq_iff_eq, decide_eq_true_eq]; lia) ?_; refine k_if ?_; refine isTrue_or ?_; refine wpAny_isTrue_Compare1 ?_); refine r_loc S1022 rfl ?_; (with_reducible refine r_int S1022 fun t1031 s1031 S1031 => ?_; clear S1022; refine eq_int ?_; refine wpAny_truthy_bool ?_; refine t_neg (by simp only [beq_iff_eq, decide_eq_true_eq]; lia) ?_; refine isTrue_or ?_; refine wpAny_isTrue_Compare1 ?_); refine r_loc S1031 rfl ?_; (with_reducible refine r_int S1031 fun t1038 s1038 S1038 => ?_; clear S1031; refine eq_int ?_; refine wpAny_truthy_bool ?_; refine t_neg (by simp only [beq_iff_eq, decide_eq_true_eq]; lia) ?_; refine isTrue_or_nil ?_; refine t_ff ?_; refine q_if g0 S1038 fun τ1048 α1048 s1048 S1048 => ?_; clear S1038; refine t_neg (by simp only [beq_iff_eq, decide_eq_true_eq]; lia) ?_; refine k_ex ?_; refine q_call0 C1 g0 S1048 (gl_law_select w) (keep_460 w) ?_); refine c_selectL (pre := pre) (C1.le (by decide)) S1048 W (by lia) hh hz2 hz3 fun D1063 news1063 s1063 W S1063 => ?_; (try simp only [cA, nA] at S1063); clear S1048; (with_reducible refine k_sn ?_; refine k_sn ?_; refine k_sn ?_; refine k_sn ?_; refine k_sn ?_; refine k_sn ?_; refine k_sn ?_); k_unfold; (with_reducible refine r_leave S1063 fun S1063 => ?_); exact k _ _ _ _ _ (LW.le W (by lia)) rfl (by first | assumption | exact St.tail (by assumption) | exact St.tail (St.tail (by assumption)) | exact St.tail (St.tail (St.tail (by assumption))) | exact St.tail (St.tail (St.tail (St.tail (by assumption)))) | exact St.tail (St.tail (St.tail (St.tail (St.tail (by assumption))))))
end
end Mine
end
section
open PySem PySem.W PyProof.Rows PySem.Calls PySem.Spec
set_option maxHeartbeats 2000000
namespace Mine
theorem noFill_tuple_mul : fillsNumberSlot (.type "tuple") "mul" = pure false :=
  PySem.fillsNumberSlot_seq (id := "tuple.__mul__") (r := some (.builtin "tuple.__rmul__")) PySem.F.slot_tuple_mul.lookup (by decide +kernel) PySem.F.slot_tuple_rmul.lookup (by decide +kernel)
theorem repeat_tuple : seqRepeat? (.type "tuple") = pure (some (.builtin "tuple.__mul__")) := by
  unfold seqRepeat?
  rw [PySem.seqSlot_of (T := "tuple") (name := "__mul__") (id := "tuple.__mul__") PySem.F.slot_tuple_mul.lookup (by decide +kernel), PySem.seqSlot_of (T := "tuple") (name := "__rmul__") (id := "tuple.__rmul__") PySem.F.slot_tuple_rmul.lookup (by decide +kernel)]
  rfl
theorem int_rmul_tuple (a : Int) (t : Tok) (l : Addr) (items : Array Value) (n : Nat) :
    Meets (Builtin.«int.__rmul__» ⟨[.int a t, .ref l], []⟩) (fun _ R s => s.heap.get? l = some { cls := .type "tuple", dict := none, data := .seq items n, slots := #[] } ∧ R (.ok (.ret Value.notImplemented)) s) :=
  .of_wp fun prog w A R s h => by obtain ⟨hp, g, d, tk, os⟩ := s; obtain ⟨hl, h⟩ := h; wp_walk; exact ⟨_, rfl, h⟩
theorem tuple_mul_1 (l : Addr) (items : Array Value) (n : Nat) (u : Tok) :
    Meets (Builtin.«tuple.__mul__» ⟨[.ref l, .int 1 u], []⟩) (fun _ R s => s.heap.get? l = some { cls := .type "tuple", dict := none, data := .seq items n, slots := #[] } ∧ R (.ok (.ret (.ref l))) s) :=
  .of_wp fun prog w A R s h => by obtain ⟨hp, g, d, tk, os⟩ := s; obtain ⟨hl, h⟩ := h; wp_walk; exact ⟨_, rfl, h⟩
theorem tuple_mul_0 (l : Addr) (items : Array Value) (n : Nat) (u : Tok) (hne : items.isEmpty = false) :
    Meets (Builtin.«tuple.__mul__» ⟨[.ref l, .int 0 u], []⟩) (fun _ R s => s.heap.get? l = some { cls := .type "tuple", dict := none, data := .seq items n, slots := #[] } ∧ R (.ok (.ret (.ref s.heap.objs.size))) { s with heap := s.heap.push { cls := .type "tuple", data := .seq #[] } }) :=
  .of_wp fun prog w A R s h => by obtain ⟨hp, g, d, tk, os⟩ := s; obtain ⟨hl, h⟩ := h; wp_walk; exact ⟨_, rfl, h⟩
theorem tuple_mul_2 (l : Addr) (v : Value) (n : Nat) (u : Tok) :
    Meets (Builtin.«tuple.__mul__» ⟨[.ref l, .int 2 u], []⟩) (fun _ R s => s.heap.get? l = some { cls := .type "tuple", dict := none, data := .seq #[v] n, slots := #[] } ∧ R (.ok (.ret (.ref s.heap.objs.size))) { s with heap := s.heap.push { cls := .type "tuple", data := .seq #[v, v] } }) :=
  .of_wp fun prog w A R s h => by obtain ⟨hp, g, d, tk, os⟩ := s; obtain ⟨hl, h⟩ := h; wp_walk; exact ⟨_, rfl, h⟩
theorem tuple_mul_3 (l : Addr) (v : Value) (n : Nat) (u : Tok) :
    Meets (Builtin.«tuple.__mul__» ⟨[.ref l, .int 3 u], []⟩) (fun _ R s => s.heap.get? l = some { cls := .type "tuple", dict := none, data := .seq #[v] n, slots := #[] } ∧ R (.ok (.ret (.ref s.heap.objs.size))) { s with heap := s.heap.push { cls := .type "tuple", data := .seq #[v, v, v] } }) :=
  .of_wp fun prog w A R s h => by obtain ⟨hp, g, d, tk, os⟩ := s; obtain ⟨hl, h⟩ := h; wp_walk; exact ⟨_, rfl, h⟩
end Mine
end
section
open PySem PySem.W PyProof.Rows PySem.Calls PySem.Spec
set_option maxHeartbeats 2000000
namespace Mine
section
variable {w : World} {base : Heap} {outer : List Env} {env : Env} {A : Around} {c : Shared} {g : Heap} {L : Addr} {n : Nat} {m : Loc} {news : Led} {s : Shared} {E : Value → Shared → Prop}
theorem rep_one (v : Value) (k : Nat) : (List.foldl (fun x1 x2 => x1 ++ x2) #[] (List.replicate k #[v])) = (List.replicate k v).toArray := by
  rw [listMul_foldl]
  simp [lm_rep_flat_one]
theorem r_mulL {l : Addr} {v : Value} {k' : Nat} {x : Nat} {u : Tok} {Q : Value → Shared → Prop} (S : St c g L m news s) (hl : (l, lst [v] k') ∈ news) (hx : x ≤ 1000)
    (k : ∀ d s', St c g L m ((d, lst (List.replicate x v) 0) :: news) s' → Q (.ref d) s') : wpAny (model PRG w) A (binaryOp .Mult (.ref l) (.int x u)) Q E s := by
  refine mul_list S.fr S.nw (items := #[v]) (S.get hl) (by lia) (by lia) (by simp; lia) fun h' F N => ?_
  have e : (if (#[v] : Array Value).isEmpty = true then 0 else (x : Int).toNat) = x := by simp
  rw [e, rep_one] at N
  refine k _ _ ⟨F, N, ?_, S.gens, S.drawn, S.os⟩
  rw [List.map_cons, List.nodup_cons]
  refine ⟨fun h => ?_, S.nd⟩
  obtain ⟨p, hp, e⟩ := List.mem_map.mp h
  exact absurd (e ▸ S.lt hp) (Nat.lt_irrefl _)
theorem r_mulT {t : Addr} {v : Value} {k' : Nat} {x : Nat} {u : Tok} {Q : Value → Shared → Prop} (S : St c g L m ((t, tup [v] k') :: news) s) (hx : x < 4)
    (k : ∀ d kd s', St c g L m ((d, tup (List.replicate x v) kd) :: news) s' → Q (.ref d) s') : wpAny (model PRG w) A (binaryOp .Mult (.ref t) (.int x u)) Q E s := by
  have z := S.get (.head _)
  refine wpAny_binaryOp_repeat_ref (T := "tuple") (U := "int") (by decide) ⟨_, z, rfl⟩ (fun s' => typeIs_int s' x u) noFill_tuple_mul PySem.F.fills_int_mul PySem.F.slot_int_rmul repeat_tuple PySem.F.slot_int_index.lookup
    (call_meets PySem.F.slot_int_rmul (typeIs_int s x u) PySem.F.entry_int_rmul (PySem.F.args_int_rmul_2 _ _) (int_rmul_tuple x u t [v].toArray k') ⟨z, rfl, ⟨_, z, rfl⟩, ?_⟩)
  rcases x with _ | _ | _ | _ | x
  · exact call_meets PySem.F.slot_tuple_mul ⟨_, z, rfl⟩ PySem.F.entry_tuple_mul (PySem.F.args_tuple_mul_2 _ _) (tuple_mul_0 t [v].toArray k' u (by simp)) ⟨z, k _ _ _ ((S.push (o := tup [] 0) (tk := s.toks)).drop (.tl .hd))⟩
  · exact call_meets PySem.F.slot_tuple_mul ⟨_, z, rfl⟩ PySem.F.entry_tuple_mul (PySem.F.args_tuple_mul_2 _ _) (tuple_mul_1 t [v].toArray k' u) ⟨z, k _ _ _ S⟩
  · exact call_meets PySem.F.slot_tuple_mul ⟨_, z, rfl⟩ PySem.F.entry_tuple_mul (PySem.F.args_tuple_mul_2 _ _) (tuple_mul_2 t v k' u) ⟨z, k _ _ _ ((S.push (o := tup [v, v] 0) (tk := s.toks)).drop (.tl .hd))⟩
  · exact call_meets PySem.F.slot_tuple_mul ⟨_, z, rfl⟩ PySem.F.entry_tuple_mul (PySem.F.args_tuple_mul_2 _ _) (tuple_mul_3 t v k' u) ⟨z, k _ _ _ ((S.push (o := tup [v, v, v] 0) (tk := s.toks)).drop (.tl .hd))⟩
  · lia
theorem r_listCopy {a : Addr} {vs : List Value} {k' : Nat} {Q : Value → Shared → Prop} (S : St c g L m news s) (ha : (a, lst vs k') ∈ news) (hz : vs.length ≤ 1000)
    (k : ∀ d kd s', St c g L m ((d, lst vs kd) :: news) s' → Q (.ref d) s') : wpAny (model PRG w) A (call (.type "list") [.ref a]) Q E s := by
  refine call_list_seq (items := vs.toArray) a (.inl rfl) (S.get ha) rfl rfl (fun h' c' hk hD => ?_) (by rw [List.size_toArray, sizeLine_eq]; lia); refine k _ c' _ (S.remake (dead := []) (tk := s.toks) (fun b o _ q => hk b o q) (fun _ h => nomatch h) (fun q hq => ?_) ?_)
  · rcases List.mem_cons.mp hq with rfl | hq
    · exact ⟨hD, .inr (Nat.le_refl _)⟩
    · exact ⟨hk _ _ (S.get hq), .inl ⟨q.2, hq⟩⟩
  · rw [List.map_cons, List.nodup_cons]
    refine ⟨fun h => ?_, S.nd⟩
    obtain ⟨p, hp, e⟩ := List.mem_map.mp h
    exact absurd (e ▸ S.lt hp) (Nat.lt_irrefl _)
end
end Mine
end
section
open PySem PySem.W PyProof.Rows PySem.Calls PySem.Spec
set_option maxHeartbeats 2000000
namespace Mine
section
variable {w : World} {base : Heap} {outer : List Env} {env : Env} {A : Around} {c : Shared} {g : Heap} {L : Addr} {n : Nat} {m : Loc} {news : Led} {s : Shared} {E : Value → Shared → Prop}
theorem r_dict {keys : List (Option Expr)} {values : List Expr} {pos : Pos} {Q : Value → Shared → Prop} (C : Cx w base outer env A g L n) (S : St c g L m news s) (hs : strLits keys = true) (hall : keys.all (·.isSome) = true) (hl : keys.length = values.length) (h0 : keys ≠ []) (hlen : keys.length ≤ 15)
    (h : ∀ d o s', o.IsDictOf (PySem.strKind PRG w) [] → St c g L m ((d, o) :: news) s' → wpAny (model PRG w) A (evalPairs (pairTrees keys values env pos)) (fun vs s₁ => KdnMade PRG w (PySem.strKind PRG w) d Q vs s₁) E s') :
    wpAny (model PRG w) A (eval (.Dict keys values pos) env) Q E s := by
  obtain ⟨mean, mg, mb, T⟩ := C.T
  refine kdn_str hs S.fr S.nw T.nolimit hall hl h0 hlen fun d h' o F N lt _ ho => h d o _ ho ⟨F, N, ?_, S.gens, S.drawn, S.os⟩
  rw [List.map_cons, List.nodup_cons]
  refine ⟨fun h => ?_, S.nd⟩
  obtain ⟨p, hp, e⟩ := List.mem_map.mp h
  exact absurd (e ▸ lt p hp) (Nat.lt_irrefl _)
theorem r_made {d : Addr} {o : Obj} {vs : List (Value × Value)} {news' : Obj → Led} {Q : Value → Shared → Prop} (S : St c g L m news s) (U : ∀ o', At (d, o) (d, o') news (news' o')) (hd : o.IsDictOf (PySem.strKind PRG w) []) (hk : allStrKeys vs = true) (hn : ((strPairs vs).map (·.1)).Nodup)
    (k : ∀ o' s', o'.IsDictOf (PySem.strKind PRG w) (strPairs vs) → St c g L m (news' o') s' → Q (.ref d) s') : KdnMade PRG w (PySem.strKind PRG w) d Q vs s := by
  refine display_done_str hk hn (Heap.dictOf_iff.mpr ⟨o, S.get (U o).mem, hd⟩) fun h' hmm hs => ?_
  obtain ⟨o', ho', hd'⟩ := Heap.dictOf_iff.mp hmm
  exact k o' _ hd' (S.upd (U o') hs ho')
theorem r_revTail {value slice : Expr} {l : Addr} {vs : List Value} {vk : Value} {ops : List Value} {Q : Value → Shared → Prop} (S : St c g L m news s) (hl : s.heap.IsList l vs.toArray) (pk : IsPart vk (some (-1))) (hz : vs.length ≤ 1000)
    (k : ∀ d s', St c g L m ((d, lst vs.reverse 0) :: news) s' → Q (.ref d) s')
    (hs : subscripted slice false (.ref l) (.ref s.heap.objs.size) = operate ops (getItem (.ref l) (.ref s.heap.objs.size)) := by with_unfolding_all rfl) (ht : ∀ r, letTemporaryGo value (.ref l) r = pure () := by intro _; with_unfolding_all rfl) :
    wpAny (model PRG w) A (subscriptTail value slice (.ref l) (.ref s.heap.objs.size)) Q E { s with heap := s.heap.push { cls := .type "slice", data := .fields #[.none, .none, vk] } } := by
  refine krv_lit (zs := vs.reverse) S.fr S.nw hl pk (by simp) (fun D h' F N lt => k D _ ⟨F, N, ?_, S.gens, S.drawn, S.os⟩) hs ht (by rw [List.size_toArray, sizeLine_eq]; lia)
  rw [List.map_cons, List.nodup_cons]
  refine ⟨fun h => ?_, S.nd⟩
  obtain ⟨p, hp, e⟩ := List.mem_map.mp h
  exact absurd (e ▸ lt p hp) (Nat.lt_irrefl _)
end
end Mine
end
section
open PySem PySem.W PyProof.Rows PySem.Calls PySem.Spec
set_option maxHeartbeats 2000000
namespace Mine
noncomputable def Chn : List Fm → Prop
  | [] => True
  | f :: fs => f.base = topH fs + f.over ∧ f.over ≤ 2 ∧ Chn fs
theorem Chn.top : ∀ {fs : List Fm}, Chn fs → topH fs ≤ 2 * fs.length
  | [], _ => Nat.le_refl _
  | f :: fs, h => by
    have := Chn.top h.2.2
    show f.base ≤ 2 * (fs.length + 1)
    have h1 := h.1
    have h2 := h.2.1
    lia
theorem LW.start {w : World} {wd b hsa fr tp : Addr} {o : Obj} {t0 tfn : Tok} {fni : Int} {K F P nt : Nat} {tvs : List Value} {ns : List Int} {news : Led} (hd : WDict w o (.ref b) (.ref hsa) (.int 0 t0) (.bool false) (.ref fr) .none (.int fni tfn)) (hT : IntsAre tvs ns) (hz : tvs.length ≤ 100000)
    (hp : news.Perm [(wd, o), (b, lst [] 0), (hsa, lst [] 0), (fr, lst [] 0), (tp, lst tvs nt)]) : LW w ⟨wd, b, hsa, fr, tp, fni, tfn, K, F, P⟩ 0 0 0 false false [] [] false news :=
  ⟨[], [], none, ⟨o, t0, [], [], [], tvs, ns, 0, 0, 0, nt, .none, [], hp, hd, .nil, .nil, .nil, hT, hz, rfl⟩, ⟨rfl, fun _ => ⟨0, .nil, fun _ => ⟨rfl, Nat.le_refl _⟩, (fun h => nomatch h)⟩, (fun _ h => nomatch h)⟩, rfl, Nat.le_refl _, Nat.le_refl _⟩
theorem LW.begin {w : World} {c : Shared} {g : Heap} {L : Addr} {m : Loc} {s : Shared} {wd b hsa fr tp : Addr} {o : Obj} {t0 tfn : Tok} {fni : Int} {nt : Nat} {tvs : List Value} {ns : List Int} (K F P : Nat) (S : St c g L m [(fr, lst [] 0), (hsa, lst [] 0), (b, lst [] 0), (wd, o), (tp, lst tvs nt)] s)
    (hd : WDict w o (.ref b) (.ref hsa) (.int 0 t0) (.bool false) (.ref fr) .none (.int fni tfn)) (hT : IntsAre tvs ns) (hz : tvs.length ≤ 100000) :
    ∃ (e : WE) (news : Led), e.wd = wd ∧ e.tp = tp ∧ e.fni = fni ∧ e.tfn = tfn ∧ e.K = K ∧ e.F = F ∧ e.P = P ∧ LW w e 0 0 0 false false [] [] false news ∧ St c g L m news s := by
  refine ⟨⟨wd, b, hsa, fr, tp, fni, tfn, K, F, P⟩, [(fr, lst [] 0), (hsa, lst [] 0), (b, lst [] 0), (wd, o), (tp, lst tvs nt)], rfl, rfl, rfl, rfl, rfl, rfl, rfl, LW.start (nt := nt) hd hT hz ?_, S⟩; exact (List.perm_append_comm_assoc [(fr, lst [] 0), (hsa, lst [] 0), (b, lst [] 0)] [(wd, o)] [(tp, lst tvs nt)]).trans (.cons _ (((List.reverse_perm [(fr, lst [] 0), (hsa, lst [] 0), (b, lst [] 0)]).symm).append_right [(tp, lst tvs nt)]))
theorem go_law {w : World} {g h₁ : Heap} {L l fa : Addr} {vs : List Value} {ns : List Int} {m : Str → Option Value} {cn : Str} {cs : Scope} {ccd : Value} {body : List Stmt} {Q : Flow → Shared → Prop} {E : Value → Shared → Prop} {s : Shared} {mean : ExcName → Option Value} {mg mb : Str → Option Value}
    (B : Below callerA g [] g) (K : (Mine.hd.heap_1 w.params).In g) (T : Top VW LS mean mg mb g) (F : Fr g L h₁ m) (hL : g.IsList l vs.toArray) (hI : IntsAre vs ns) (hn : ns.length ≤ 63) (hs : s.heap = h₁) (hm : m = fun y => List.lookup y ([("script", .ref l)] : Loc)) (hk : cs.kind = .function)
    (hQ : ∀ mf s', Fr g L s'.heap mf → s'.gens = s.gens → s'.os = s.os → Q (.ret (.bool true)) s')
    (h : ∀ (c : Shared) (g : Heap) (L fa l : Addr) (ccd : Value) (vs : List Value) (ns : List Int) (Q : Flow → Shared → Prop) (E : Value → Shared → Prop), (∀ mf s', Fr g L s'.heap mf → s'.gens = c.gens → s'.os = c.os → Q (.ret (.bool true)) s') → (∀ h', g.StaysIn h' → h'.IsList l vs.toArray) → IntsAre vs ns → vs.length ≤ 63 →
      Cx w g [] (envOf cn cs L fa ccd) (callerA.deeper (envOf cn cs L fa ccd)) g L 20 → St c g L [("script", .ref l)] [] c → wpAny (model PRG w) (callerA.deeper (envOf cn cs L fa ccd)) (execs body (envOf cn cs L fa ccd)) Q E c) :
    wpAny (model PySem.Challenge.rw_nm0142_01.row.prog w) (callerA.deeper (envOf cn cs L fa ccd)) (execs body (envOf cn cs L fa ccd)) Q E s := by
  subst hm
  subst hs
  refine h _ _ _ _ l _ vs ns _ _ hQ (fun h' st => ?_) hI (by rw [hI.length]; exact hn) ⟨⟨_, B⟩, K, ⟨_, _, _, T⟩, rfl, rfl, hk, rfl, (by show callerA.depth + 1 + 20 < 600; decide), (by show callerA.units + 3 + 8 * 20 < 8000; decide)⟩ ⟨F, (fun _ h => nomatch h), .nil, rfl, rfl, rfl⟩
  obtain ⟨o, ho, hc, n, hd⟩ := hL
  exact ⟨o, st _ _ ho, hc, n, hd⟩
end Mine
end
section
open PySem PySem.W PyProof.Rows PySem.Calls PySem.Spec
set_option maxHeartbeats 2000000
namespace Mine
noncomputable abbrev P0 : PS := ⟨0, [(-1, 0, false)]⟩
noncomputable def LF (w : World) (e : WE) (D : Bool) (news : Led) : Prop :=
  ∃ rows hs high dW due, WR w e rows hs high dW [] due news ∧ rows ≠ [] ∧ rows.length ≤ 100 ∧ due.isSome = D ∧ (due = none → Chk e.K e.F e.P P0 0 rows (.ok hs)) ∧ (∀ x, due = some x → Chk e.K e.F e.P P0 0 rows (.error x))
noncomputable def LE (w : World) (e : WE) (D : Bool) (news : Led) : Prop :=
  ∃ rows hs high dW due, WR w e rows hs high dW [] due news ∧ rows ≠ [] ∧ rows.length ≤ 90 ∧ hs.length = rows.length ∧ due.isSome = D ∧ (due = none → Run e.K e.F e.P P0 rows hs ⟨0, []⟩) ∧ (∀ x, due = some x → ∀ more, Chk e.K e.F e.P P0 0 (rows ++ more) (.error x))
theorem LE.lf {w : World} {e : WE} {D : Bool} {news : Led} (H : LE w e D news) : LF w e D news := by
  obtain ⟨rows, hs, high, dW, due, W, h1, h2, h3, h4, h5, h6⟩ := H
  refine ⟨rows, hs, high, dW, due, W, h1, by lia, h4, fun h => ?_, fun x h => ?_⟩
  · have := (h5 h).chkO (at_ := 0) (more := []) (hs' := []) .done
    simpa using this
  · have := h6 x h []
    simpa using this
section
variable {w : World} {base : Heap} {outer : List Env} {env : Env} {A : Around} {c : Shared} {g : Heap} {L : Addr} {n : Nat} {m : Loc} {news pre : Led} {s : Shared} {Q E : Value → Shared → Prop} {e : WE} {lo B : Nat} {d D : Bool}
theorem c_endL {r : Addr} {t t2 : Tok} {ki : Nat} (C : Cx w base outer env A g L 3) (S : St c g L m ((r, tup [.int 11 t] ki) :: (pre ++ news)) s) (W : LW w e lo B 0 d d [] [] D news) (hB : B ≤ 80)
    (k : ∀ news' s', LE w e D news' → St c g L m (pre ++ news') s' → Q .none s') :
    wpAny (model PRG w) A (call (.ref 413) [.ref e.wd, .ref r, .int 0 t2]) Q E s := by
  obtain ⟨rows, hs, due, W1, W2, h1, h2, h3⟩ := W
  have hl := W2.len
  refine c_emitW C S W1 (.cons _ _ .nil) (by lia) (by lia) (Int.add_zero _) fun news' s' W' S' => k news' s' ⟨_, _, _, _, due, W', by simp, by simp; lia, by simp [hl], h1, fun h => ?_, fun x h more => ?_⟩ S'
  · obtain ⟨n, R, e1, e2⟩ := W2.run h
    have hn : n = 0 := by
      cases d with
      | true => exact e2 rfl
      | false => exact (e1 rfl).1
    subst hn
    exact Run.snoc (n := 0) (c0 := -1) (h0 := 0) (d := d) (bs := []) R (by decide) (by decide) .fin
  · rw [List.append_assoc]
    exact W2.bad x h _
theorem c_behind {tw : Tok} (C : Cx w base outer env A g L 3) (S : St c g L m (pre ++ news) s) (W : LE w e D news)
    (k : ∀ news' s', (∀ r t t2 ki s₁ (Q' : Value → Shared → Prop) (E' : Value → Shared → Prop), St c g L m ((r, tup [.int 1 t] ki) :: (pre ++ news')) s₁ → (∀ news'' s₂, LF w e true news'' → St c g L m (pre ++ news'') s₂ → Q' .none s₂) → wpAny (model PRG w) A (call (.ref 413) [.ref e.wd, .ref r, .int 0 t2]) Q' E' s₁) → St c g L m (pre ++ news') s' → Q .none s') :
    wpAny (model PRG w) A (call (.ref 420) [.ref e.wd, .str "type mismatch" tw]) Q E s := by
  obtain ⟨rows, hs, high, dW, due, W1, h1, h2, h3, h4, h5, h6⟩ := W
  cases due with
  | none =>
    refine c_badW0 (C.le (by decide)) S W1 (by lia) fun news' s' W' S' => k news' s' (fun r t t2 ki s₁ Q' E' S₁ k' => ?_) S'; refine c_emitW C S₁ W' (.cons _ _ .nil) (by lia) (by lia) (Int.add_zero _) fun news'' s₂ W'' S₂ => k' news'' s₂ ⟨_, _, _, _, _, W'', by simp, by simp; lia, rfl, (fun h => nomatch h), fun x h => ?_⟩ S₂
    cases h
    refine (h5 rfl).chkE (at_ := 0) ?_
    rw [Nat.zero_add]
    exact .none_
  | some x =>
    refine c_badW1 (C.le (by decide)) S W1 fun news' s' W' S' => k news' s' (fun r t t2 ki s₁ Q' E' S₁ k' => ?_) S'; refine c_emitW C S₁ W' (.cons _ _ .nil) (by lia) (by lia) (Int.add_zero _) fun news'' s₂ W'' S₂ => k' news'' s₂ ⟨_, _, _, _, _, W'', by simp, by simp; lia, rfl, (fun h => nomatch h), fun x' h => ?_⟩ S₂
    cases h
    exact h6 x rfl _
theorem LW.left {rows : List (List Int)} {hs : List (Option Nat)} (W : WI e.K e.F e.P rows hs 0 d [] none) : Chk e.K e.F e.P P0 0 rows (.error ("type mismatch", (rows.length : Int) - 1)) := by
  obtain ⟨n, R, e1, e2⟩ := W.run rfl
  have := R.chkE (at_ := 0) (more := []) (e := ("type mismatch", ((0 + rows.length : Nat) : Int) - 1)) (.left (by decide))
  simpa using this
end
end Mine
end
section
open PySem PySem.W PyProof.Rows PySem.Calls PySem.Spec
set_option maxHeartbeats 1000000
namespace Mine
theorem ga_124 (w : World) : findIn (Mine.hd.heap_1 w.params) (.ref 124) "__getattribute__" = some (some (.builtin "BaseException.__getattribute__")) := by kernel_rfl
theorem gn_124 (w : World) : findIn (Mine.hd.heap_1 w.params) (.ref 124) "__getattr__" = some none := by kernel_rfl
theorem hd_124 (w : World) : hasDictIn (Mine.hd.heap_1 w.params) 124 = true := by kernel_rfl
theorem chk_ga {w : World} {M : Model} {A : Around} {E : Value → Shared → Prop} {nameV : Value} {Q : Unit → Shared → Prop} {h : Heap} {g : Array GenState} {d : Drawn} {t : Nat} {os : OsState} {a : Addr} {o : Obj} (X : (Mine.hd.heap_1 w.params).In h) (hx : h.get? a = some o) (hc : o.cls = .ref 124) (hq : Q () ⟨h, g, d, t, os⟩) :
    wpAny M A (checkBuiltinCall "BaseException.__getattribute__" ⟨[.ref a, nameV], []⟩) Q E ⟨h, g, d, t, os⟩ := by
  have hC : h.get? 124 = some _ := X _ _ (cls124 w)
  have hk : builtinKind "BaseException.__getattribute__" = some .slot := by decide +kernel
  have hsplit : splitId "BaseException.__getattribute__" = some ("BaseException", "__getattribute__") := by decide +kernel
  have hcB : (Value.ref 124 :: excTail).contains (.type "BaseException") = true := by decide
  have ha := PySem.F.args_bexc_ga (.ref a) nameV
  simp only [checkBuiltinCall, hk, hsplit]
  refine wpAny_bind ?_
  · unfold isInstance
    repeat (first | (with_reducible refine wpAny_loadPart_at hx ?_; rw [hc]) | (with_reducible refine wpAny_isSubtype_exc hC ?_; rw [hcB]) | wp_step)
    exact hq
theorem get_exc {w : World} {A : Around} {E : Value → Shared → Prop} {Q : Value → Shared → Prop} {s : Shared} {e : Addr} {oe : Obj} {es : List DictEntry} {n : Nat} {v : Value} {name : Str} {expr : Bool} (X : (Mine.hd.heap_1 w.params).In s.heap) (I : InstAt s.heap e oe 124 (some (dictOf es n)))
    (ha : findIn (Mine.hd.heap_1 w.params) (.ref 124) name = some none) (hl : getL name es = some (some v)) (hv : handedIn v = true) (h : Q v { s with toks := s.toks + 1 }) : wpAny (model PRG w) A (getAttr (.ref e) name expr) Q E s := by
  have hf : findObj (Mine.hd.heap_1 w.params) 124 (some (dictOf es n)) name = some (.value v) := findObj_own (hd_124 w) ha rfl hl
  obtain ⟨hp, g, dr, t, os⟩ := s
  have L0 := I.type (M := model PRG w)
  have L1 := looks_findIn (M := model PRG w) X (ga_124 w)
  have L2 := looks_findIn (M := model PRG w) X (gn_124 w)
  have L3 := looks_find (M := model PRG w) X I hf
  have hC : hp.get? 124 = some _ := X _ _ (cls124 w)
  have f3 := PySem.F.attr_Exception.ga.bind (.ref e)
  have hx0 : (expr && onTheHeap (Value.builtin "BaseException.__getattribute__")) = false := by cases expr <;> rfl
  unfold getAttr getAttrBy
  refine wpAny_bind (wpAny_mkText (wpAny_holding (wpAny_bind (L0.at (wpAny_bind (L1.at ?_))))))
  have hx1 : (onTheHeap (Value.ref 124) && Value.builtin "BaseException.__getattribute__" == Value.builtin "object.__getattribute__") = false := by
    rw [show (Value.builtin "BaseException.__getattribute__" == Value.builtin "object.__getattribute__") = false from by decide +kernel]; rfl
  dsimp only
  rw [hx1]
  rw [if_neg Bool.false_ne_true]
  unfold getAttrByItsOwn hookBefore
  rw [if_pos (show onTheHeap (Value.ref 124) = true from rfl)]
  refine wpAny_bind (L2.at ?_); refine wpAny_bind (wpAny_attempt (wpAny_holding ?_))
  unfold callGetattribute
  rw [hx0, if_neg Bool.false_ne_true]
  unfold boundAndCalled
  rw [f3]
  refine wpAny_bind (wpAny_pure ?_)
  show wpAny _ _ (call (.builtin "BaseException.__getattribute__") [.ref e, .str name t]) _ _ _
  refine wpAny_call (codeAny_call_builtin PySem.F.attr_Exception.ga.plain PySem.F.entry_bexc_ga (chk_ga (w := w) X I.at_ I.cls ?_))
  have hd' : ∀ (Q' : Fin → Shared → Prop) (E' : Value → Shared → Prop) (A' : Around), Q' (.done (.ret v)) ⟨hp, g, dr, t + 1, os⟩ → wpAny (model PRG w) A' (Builtin.«object.__getattribute__» ⟨[.ref e, .str name t], []⟩) Q' E' ⟨hp, g, dr, t + 1, os⟩ := by
    intro Q' E' A' hq
    unfold Builtin.«object.__getattribute__»
    repeat (any_goals (first | assumption | (refine L0.at ?_) | (refine L3.at ?_) | wp_step))
  refine hd' _ _ _ ?_
  show wpAny _ _ (handedOut v) _ _ _
  rw [handedOut_of hv]
  exact wpAny_pure h
end Mine
end
section
open PySem PySem.W PyProof.Rows PySem.Calls PySem.Spec
set_option maxHeartbeats 2000000
namespace Mine
section
variable {w : World} {outer : List Env} {env : Env} {A : Around} {c : Shared} {g : Heap} {L : Addr} {nn : Nat} {m : Loc} {keep : Led} {E : Value → Shared → Prop}
theorem x_land {n x : Str} {np pos : Pos} {b₀ : Stmt} {suite : List Stmt} {rest : List ExceptHandler} {why : Str} {fn v : Value} {at_ : Int} {s' : Shared} {Q : Flow → Shared → Prop} (C : Cx w g outer env A g L nn) (R : RX g (env :: outer) c g L m keep why fn at_ .none v s')
    (ex : nsIn (Mine.hd.heap_1 w.params) mainGlobals x = some (some (.ref 124))) (hnd : (keep.map (·.1)).Nodup) (hdk : ∀ q ∈ keep, ∀ ex kx t1 t2, q.2 ≠ dictOf (xEnt ex (.str why t1) fn (.int at_ t2)) kx)
    (hG : env.globals = mainGlobals) (hLo : env.locals = L) (hx : env.kindOf x = some .globalImplicit) (hd : (x == ("__debug__" : Str)) = false) (hlo : env.kindOf n = some .local)
    (k : ∀ e oe d ex kx t1 t2 s'', v = .ref e → oe.cls = .ref 124 → oe.dict = some d → notCls oe = true → St c g L ((n, v) :: m) ((e, oe) :: (d, dictOf (xEnt ex (.str why t1) fn (.int at_ t2)) kx) :: keep) s'' →
      wpAny (model PRG w) (A.mark (some (.ref e))) (execs (b₀ :: suite) env)
        (fun f s₄ => wpAny (model PRG w) A (do bindName env n .none; unbindBehindTheSuite env n pos) (fun _ s₅ => Q f s₅) E s₄)
        (AsSuiteRaised (model PRG w) (A.mark (some (.ref e))) env n pos (notedBy (model PRG w) (A.mark (some (.ref e))) env (cameBackBy (model PRG w) A env E))) s'') :
    wpAny (model PRG w) A (noteFrame v env)
      (fun _ s₂ => wpAny (model PRG w) A (setFlight v none) (fun _ s₃ =>
        wpAny (model PRG w) A (handleBy v env (.ExceptHandler (some (.Name x np)) (some n) (b₀ :: suite) pos :: rest)) Q E s₃) E s₂) E s' := by
  obtain ⟨h1, h2, h3, ⟨g₂, F₂, u⟩, e, d, B, exx, kx, t1, t2, rfl, st, hl, X⟩ := R
  have hLB : B.get? L = none := by
    obtain ⟨_, ⟨L', _, hf, hn', _⟩, _⟩ := X.ff
    rw [C.ef] at hf
    obtain rfl : L = L' := Option.some.inj hf
    exact hn'
  refine noteOn (firmX d) C.fr C.ef X fun h4 Y k4 => ?_; refine setFl (f := none) Y fun h5 Z k5 => ?_
  have gst : ∀ {h : Heap}, B.StaysIn h → g.StaysIn h := fun q b o e => q b o (st b o e)
  have F5 : Fr g L h5 (fun y => m.lookup y) := F₂.of_stays (gst Z.st) ((u.trans k4).trans k5)
  obtain ⟨oe5, vs5, T5, oT5, ts5, he5, hp5, hd5, _⟩ := Z.tr
  obtain ⟨mean, mg, mb, T⟩ := C.T
  refine wpAny_handleBy_cons (codeAny_handlers_test ?_) (by intro q; cases q); refine Name_function_global C.ek hx (loadGlobal_global (env := env) (by rw [hG]; exact (topRead_of T).g.keeps F5.keep) (mg_of C.K (topRead_of T).g ex) ?_) hd; refine wpAny_excMatches_sub_self (C.K.keeps F5.keep _ _ (cls124 w)) he5 hp5.1 (by decide) (codeAny_handlers_suite_as ?_); refine setFl (f := none) Z fun h6 Z6 k6 => ?_
  have F6 : Fr g L h6 (fun y => m.lookup y) := F5.of_stays (gst Z6.st) k6
  obtain ⟨oe, vs, T6, oT6, ts6, he, hp, hdd, _⟩ := Z6.tr
  have ge : g.get? e = none := by
    cases q : g.get? e with
    | none => rfl
    | some o => have := st _ _ q; rw [Z6.en] at this; cases this
  have eL : e ≠ L := fun q => by
    obtain ⟨o, es, ep, ho, hdat, _⟩ := F6.ns
    rw [← q, he] at ho
    cases ho
    rw [hdd] at hdat
    cases hdat
  have S6 : St c g L m ((e, oe) :: (d, dictOf (xEnt exx (.str why t1) fn (.int at_ t2)) kx) :: keep) { s' with heap := h6 } := by
    refine ⟨F6, fun q hq => ?_, ?_, h1, h2, h3⟩
    · rcases List.mem_cons.mp hq with rfl | hq
      · exact ⟨he, eL, ge⟩
      · exact ⟨Z6.st _ _ (hl q hq).1, (fun z => by have := (hl q hq).1; rw [z, hLB] at this; cases this), (hl q hq).2⟩
    · rw [List.map_cons, List.map_cons, List.nodup_cons, List.nodup_cons]
      refine ⟨fun hm => ?_, fun hm => ?_, hnd⟩
      · have : ∃ q ∈ (d, dictOf (xEnt exx (.str why t1) fn (.int at_ t2)) kx) :: keep, q.1 = e := by
          obtain ⟨q, hq, hqe⟩ := List.mem_map.mp (show e ∈ ((d, dictOf (xEnt exx (.str why t1) fn (.int at_ t2)) kx) :: keep).map (·.1) from hm)
          exact ⟨q, hq, hqe⟩
        obtain ⟨q, hq, rfl⟩ := this
        have := (hl q hq).1
        rw [Z6.en] at this; cases this
      · obtain ⟨q, hq, hqd⟩ := List.mem_map.mp hm
        have a1 := (hl q (.tail _ hq)).1
        have a2 := (hl _ (.head _)).1
        rw [hqd] at a1
        rw [a1] at a2
        exact hdk q hq _ _ _ _ (Option.some.inj a2)
  refine rq_store S6 (fun s7 S7 => ?_) hLo C.ek hlo; exact k e oe d exx kx t1 t2 s7 rfl hp.1 hp.2 (by unfold notCls; rw [hdd]) S7
end
end Mine
end
section
open PySem PySem.W PyProof.Rows PySem.Calls PySem.Spec
set_option maxHeartbeats 2000000
namespace Mine
section
variable {w : World} {A : Around} {c : Shared} {g : Heap} {L : Addr} {m : Loc} {news fx : Led} {s : Shared} {Q E : Value → Shared → Prop}
theorem r_getx {e d : Addr} {oe : Obj} {es : List DictEntry} {n : Nat} {name : Str} {v : Value} {expr : Bool} (K : (Mine.hd.heap_1 w.params).In g) (S : St c g L m news s) (he : (e, oe) ∈ news) (hc : oe.cls = .ref 124) (hdct : oe.dict = some d) (hn : notCls oe = true) (hd : (d, dictOf es n) ∈ news)
    (ha : findIn (Mine.hd.heap_1 w.params) (.ref 124) name = some none) (hl : getL name es = some (some v)) (hv : handedIn v = true) (k : ∀ s', St c g L m news s' → Q v s') : wpAny (model PRG w) A (getAttr (.ref e) name expr) Q E s :=
  get_exc (K.keeps S.fr.keep) ⟨S.get he, hc, hn, by rw [hdct]; exact S.get hd⟩ ha hl hv (k _ S.tok)
theorem x_name {env : Env} {n : Str} {pos : Pos} {Q : Unit → Shared → Prop} (S : St c g L m news s) (hL : env.locals = L) (hk : env.scope.kind = .function) (hlo : env.kindOf n = some .local)
    (k : ∀ mf s', Fr g L s'.heap mf → s'.gens = c.gens → s'.os = c.os → Q () s') : wpAny (model PRG w) A (do bindName env n .none; unbindBehindTheSuite env n pos) Q E s := by
  subst hL
  exact wpAny_nameGoes hlo S.fr.ns (by rw [hk]; rfl) fun h' m' hn hs => k m' _ (S.fr.set hn hs) S.gens S.os
theorem r_eqHs {a b : Addr} {found hits : List Value} {hs : List (Option Nat)} {ka kb : Nat} (hu : A.units + 64 < 9900) (S : St c g L m news s) (ha : (a, lst found ka) ∈ news) (hb : (b, lst hits kb) ∈ news) (H1 : HsAre found hs) (H2 : HsAre hits hs) (k : Q (.bool true) s) :
    wpAny (model PRG w) A (compareOp .Eq (.ref a) (.ref b)) Q E s := by
  obtain ⟨as, h1⟩ := H1.reads (h := s.heap)
  obtain ⟨bs, h2⟩ := H2.reads (h := s.heap)
  have sh : PySem.SeqAt.shaped (.list (hs.map htD)) = true := shaped_list fun x hx => by
    obtain ⟨f, _, rfl⟩ := List.mem_map.mp hx
    exact htD_ok f
  exact r_eqd (.list (S.get ha) rfl rfl h1) (.list (S.get hb) rfl rfl h2) sh sh (by show _ + 64 < 9900; exact hu) (eqv_self htD_eq hs) k
theorem r_eqRows {a b : Addr} {bits : List Value} {rows : List (List Int)} {ka kb : Nat} (hu : A.units + 64 < 9900) (S : St c g L m news s) (ha : (a, lst bits ka) ∈ news) (hb : (b, lst bits kb) ∈ news) (hR : RowsAre fx bits rows) (hfx : ∀ q ∈ fx, q ∈ news) (k : Q (.bool true) s) :
    wpAny (model PRG w) A (compareOp .Eq (.ref a) (.ref b)) Q E s := by
  obtain ⟨as, h1⟩ := hR.reads (h := s.heap) fun q hq => S.get (hfx q hq)
  have sh : PySem.SeqAt.shaped (.list (rows.map rowD)) = true := shaped_list fun x hx => by
    obtain ⟨f, _, rfl⟩ := List.mem_map.mp hx
    exact rowD_ok f
  exact r_eqd (.list (S.get ha) rfl rfl h1) (.list (S.get hb) rfl rfl h1) sh sh (by show _ + 64 < 9900; exact hu) (eqv_self rowD_eq rows) k
theorem r_eqDue {a b : Addr} {why : Str} {f x : Int} {t1 t2 t3 u1 u2 u3 : Tok} {ka kb : Nat} (hu : A.units + 64 < 9900) (S : St c g L m news s) (ha : (a, tup [.str why t1, .int f t2, .int x t3] ka) ∈ news) (hb : (b, tup [.str why u1, .int f u2, .int x u3] kb) ∈ news) (hw : PyData.strOk why = true) (k : Q (.bool true) s) :
    wpAny (model PRG w) A (compareOp .Eq (.ref a) (.ref b)) Q E s := by
  have sh : PySem.SeqAt.shaped (.tuple [.str why, .int f, .int x]) = true := by
    unfold PySem.SeqAt.shaped
    rw [Bool.and_eq_true]
    refine ⟨by simp [PyData.canLay0, PyData.canLayAll0, hw], decide_eq_true ?_⟩
    simp [PyData.depth, PyData.depthAll]
  exact r_eqd (.tuple (S.get ha) rfl rfl (.cons (.str _ _) (.cons (.int _ _) (.cons (.int _ _) .nil)))) (.tuple (S.get hb) rfl rfl (.cons (.str _ _) (.cons (.int _ _) (.cons (.int _ _) .nil)))) sh sh (by show _ + 64 < 9900; exact hu)
    (by simp [PyData.eqv, PyData.eqvAll]) k
end
theorem StepX.ok {K F P : Nat} {p : PS} {row : List Int} {why : Str} (h : StepX K F P p row why) : PyData.strOk why = true := by
  cases h <;> decide +kernel
theorem Chk.ok {K F P : Nat} {p : PS} {at_ : Nat} {rows : List (List Int)} {R : Except (Str × Int) (List (Option Nat))} (h : Chk K F P p at_ rows R) : ∀ x, R = .error x → PyData.strOk x.1 = true := by
  induction h with
  | done => intro x e; cases e
  | left _ => intro x e; cases e; exact (by decide +kernel : PyData.strOk (Str.ofString "type mismatch") = true)
  | none_ => intro x e; cases e; exact (by decide +kernel : PyData.strOk (Str.ofString "type mismatch") = true)
  | bad _ _ st => intro x e; cases e; exact st.ok
  | step _ _ _ _ _ => intro x e; cases e
  | stepE _ _ _ _ ih => intro x e; exact ih x e
theorem RowsAre.tuples {fx : Led} {refs : List Value} {rows : List (List Int)} (H : RowsAre fx refs rows) : RowsAre (fx.filter fun q => q.2.cls == .type "tuple") refs rows := by
  induction H with
  | nil => exact .nil
  | cons a b _ ih => exact .cons (List.mem_filter.mpr ⟨a, (by decide : (Value.type "tuple" == Value.type "tuple") = true)⟩) b ih
theorem not_xEnt_tup {q : Addr × Obj} (h : (q.2.cls == .type "tuple") = true) (ex : Nat → Int × Tok) (a b c : Value) (k : Nat) : q.2 ≠ dictOf (xEnt ex a b c) k := fun e => by
  rw [e] at h; exact absurd (show (Value.type "dict" == Value.type "tuple") = true from h) (by decide)
theorem not_xEnt_lst (vs : List Value) (n : Nat) (ex : Nat → Int × Tok) (a b c : Value) (k : Nat) : lst vs n ≠ dictOf (xEnt ex a b c) k := fun e => by
  have := congrArg Obj.cls e
  exact absurd (show Value.type "list" = Value.type "dict" from this) (by decide)
theorem not_xEnt_world {w : World} {o : Obj} {v1 v2 v3 v4 v5 v6 v7 : Value} (h : WDict w o v1 v2 v3 v4 v5 v6 v7) (ex : Nat → Int × Tok) (a b c : Value) (k : Nat) : o ≠ dictOf (xEnt ex a b c) k := fun e => by
  subst e
  obtain ⟨es, ep, _, hd, _, hp, _⟩ := h
  have : es = (xEnt ex a b c).toArray := by
    have := hd
    injection this with h1 h2
    exact h1.symm
  subst this
  have := hp.length
  simp at this
end Mine
end
section
open PySem PySem.W PyProof.Rows PySem.Calls PySem.Spec
set_option maxHeartbeats 1000000
namespace Mine

local macro_rules | `(tactic| k_qdec) => `(tactic| decide +kernel)
set_option maxHeartbeats 4000000
theorem lawHolds : PySem.Challenge.rw_nm0142_01.Holds := Mine.hd (by
  k_go0
  rename World => w
  rename Below _ _ _ _ => B0
  rename Frag.In _ _ => KX
  rename Top _ _ _ _ _ _ => T0
  rename Fr _ _ _ _ => F0
  rename Heap.IsList _ _ _ => hL
  rename IntsAre _ _ => hI
  rename ¬ _ => hcond
  rename _ = (#[] : Array _) => hg0
  have hlen : List.length (α := Int) _ ≤ 63 := Nat.le_of_not_lt (fun h => hcond (by exact_mod_cast h))
  refine go_law B0 KX T0 F0 hL hI hlen rfl rfl rfl (fun mf s' F' hg2 ho2 => ?_) fun c g L fa l ccd vs ns Q E k hV hS hz C1 S1 => ?_
  · have hg' := hg2.trans hg0
    dsimp only at F' hg' ho2 ⊢
    refine goodW_bool F' hg' (raisesW_false (by wrow_none_raised)) ?_ ho2
    wrow_post
  clear hcond hI hL F0 KX B0 hlen
  dsimp only at C1 S1 ⊢
  (with_reducible refine k_as ?_; refine Subscript_ ?_); refine r_loc S1 rfl ?_; rename St _ _ _ _ _ _ => S10; refine wpAny_Slice ?_; refine wpAny_pure ?_; refine wpAny_pure ?_
  show wpAny _ _ (eval (.UnaryOp _ _ _) _) _ _ _
  (with_reducible refine q_ev g0 S10 fun τ23 α23 s23 S23 => ?_; clear S10); rename St _ _ _ _ _ _ => S30; refine r_revTail S30 (hV _ S30.fr.keep) (.int _ _) (by lia) fun tp s31 S31 => ?_; clear S30
  have hT := hS.reverse
  have hTz : vs.reverse.length ≤ 100000 := by rw [List.length_reverse]; lia
  (with_reducible refine k_st S31 fun s41 S41 => ?_; clear S31; refine r_cons ?_); refine Assign_Tuple_swapped ?_; (with_reducible refine Tuple_ ?_); refine spliced_more ?_; (with_reducible refine wpAny_BinOp ?_; refine q_call0 C1 g0 S41 (gl_law_next w) (keep_406 w) ?_); refine c_next (C1.le (by decide)) S41 hT hTz fun x55 t55 tvs55 ns55 nt55 s55 hT hTz S55 => ?_; clear S41; (with_reducible refine r_int S55 fun t56 s56 S56 => ?_; clear S55; refine r_mod S56 (by decide) fun t57 s57 S57 => ?_; clear S56); refine spliced_more ?_; (with_reducible refine wpAny_BinOp ?_; refine r_int S57 fun t60 s60 S60 => ?_; clear S57; refine wpAny_BinOp ?_; refine q_call0 C1 g0 S60 (gl_law_next w) (keep_406 w) ?_); refine c_next (C1.le (by decide)) S60 hT hTz fun x69 t69 tvs69 ns69 nt69 s69 hT hTz S69 => ?_; clear S60; (with_reducible refine r_int S69 fun t70 s70 S70 => ?_; clear S69; refine r_mod S70 (by decide) fun t71 s71 S71 => ?_; clear S70; refine r_add S71 fun t72 s72 S72 => ?_; clear S71); refine spliced_more ?_; (with_reducible refine wpAny_BinOp ?_; refine r_int S72 fun t75 s75 S75 => ?_; clear S72; refine wpAny_BinOp ?_; refine q_call0 C1 g0 S75 (gl_law_next w) (keep_406 w) ?_); refine c_next (C1.le (by decide)) S75 hT hTz fun x84 t84 tvs84 ns84 nt84 s84 hT hTz S84 => ?_; clear S75; (with_reducible refine r_int S84 fun t85 s85 S85 => ?_; clear S84; refine r_mod S85 (by decide) fun t86 s86 S86 => ?_; clear S85; refine r_add S86 fun t87 s87 S87 => ?_; clear S86; refine spliced_none ?_; refine r_tuple S87 (by with_unfolding_all exact bL rfl) fun a89 s89 S89 => ?_; clear S87; refine r_unpackItems C1 S89 rfl fun s90 S90 => ?_; clear S89); refine r_orderB ?_; refine r_store S90 fun s92 S92 => ?_; clear S90; refine r_orderB ?_; refine r_store S92 fun s94 S94 => ?_; clear S92; refine r_orderB ?_; refine r_store S94 fun s96 S96 => ?_; clear S94; refine r_order0 ?_; (with_reducible refine seq_next ?_; refine r_cons ?_); refine Assign_Tuple_swapped ?_; (with_reducible refine Tuple_ ?_); refine spliced_more ?_; (with_reducible refine wpAny_BinOp ?_; refine q_call0 C1 g0 S96 (gl_law_next w) (keep_406 w) ?_); refine c_next (C1.le (by decide)) S96 hT hTz fun x111 t111 tvs111 ns111 nt111 s111 hT hTz S111 => ?_; clear S96; (with_reducible refine r_int S111 fun t112 s112 S112 => ?_; clear S111; refine r_mod S112 (by decide) fun t113 s113 S113 => ?_; clear S112); refine spliced_more ?_; (with_reducible refine wpAny_BinOp ?_; refine q_call0 C1 g0 S113 (gl_law_next w) (keep_406 w) ?_); refine c_next (C1.le (by decide)) S113 hT hTz fun x123 t123 tvs123 ns123 nt123 s123 hT hTz S123 => ?_; clear S113; (with_reducible refine r_int S123 fun t124 s124 S124 => ?_; clear S123; refine r_mod S124 (by decide) fun t125 s125 S125 => ?_; clear S124; refine spliced_none ?_; refine r_tuple S125 (by with_unfolding_all exact bL rfl) fun a127 s127 S127 => ?_; clear S125; refine r_unpackItems C1 S127 rfl fun s128 S128 => ?_; clear S127); refine r_orderB ?_; refine r_store S128 fun s130 S130 => ?_; clear S128; refine r_orderB ?_; refine r_store S130 fun s132 S132 => ?_; clear S130; refine r_order0 ?_; (with_reducible refine seq_next ?_; refine k_as ?_); rename St _ _ _ _ _ _ => S140
  with_reducible refine r_dict C1 S140 ?_ ?_ ?_ ?_ ?_ fun wd o s141 ho S141 => ?_
  · rfl
  · rfl
  · rfl
  · exact fun h => nomatch h
  · decide
  clear S140; (with_reducible refine pairTrees_cons_walk ?_; refine r_str S141 fun t152 s152 S152 => ?_; clear S141; refine q_ev g0 S152 fun τ155 α155 s155 S155 => ?_; clear S152; refine pairTrees_cons_walk ?_; refine r_str S155 fun t157 s157 S157 => ?_; clear S155; refine q_ev g0 S157 fun τ160 α160 s160 S160 => ?_; clear S157; refine pairTrees_cons_walk ?_; refine r_str S160 fun t162 s162 S162 => ?_; clear S160; refine r_int S162 fun t163 s163 S163 => ?_; clear S162; refine pairTrees_cons_walk ?_; refine r_str S163 fun t165 s165 S165 => ?_; clear S163; refine wpAny_Constant_bool ?_; refine pairTrees_cons_walk ?_; refine r_str S165 fun t168 s168 S168 => ?_; clear S165; refine q_ev g0 S168 fun τ171 α171 s171 S171 => ?_; clear S168; refine pairTrees_cons_walk ?_; refine r_str S171 fun t173 s173 S173 => ?_; clear S171; refine r_none ?_; refine pairTrees_cons_walk ?_; refine r_str S173 fun t176 s176 S176 => ?_; clear S173); refine r_loc S176 rfl ?_; (with_reducible refine pairTrees_nil_walk ?_); rename St _ _ _ _ _ _ => S190
  with_reducible refine r_made S190 (fun o' => .tl (.tl (.tl .hd))) ho ?_ ?_ fun o' s191 hd S191 => ?_
  · rfl
  · show (["body", "heights", "high", "dead", "frames", "due", "function"] : List Str).Nodup
    decide
  clear S190
  obtain ⟨nn, hnn, hn4⟩ := fmodN x55 4 (by decide)
  obtain ⟨kn, hkn, hk3⟩ := fmodN x69 3 (by decide)
  obtain ⟨fn, hfn, hf3⟩ := fmodN x84 3 (by decide)
  obtain ⟨pn, hpn, hp4⟩ := fmodN x111 4 (by decide)
  have e1 : x55.fmod 4 = nn := hnn
  have e2 : 1 + x69.fmod 3 = ((kn + 1 : Nat) : Int) := by have : x69.fmod 3 = kn := hkn; lia
  have e3 : 1 + x84.fmod 3 = ((fn + 1 : Nat) : Int) := by have : x84.fmod 3 = fn := hfn; lia
  have e4 : x111.fmod 4 = pn := hpn
  have hd : WDict w o' (.ref (α155 0)) (.ref (α160 0)) (.int 0 t163) (.bool false) (.ref (α171 0)) .none (.int (x123.fmod 5) t125) := hd
  rw [e1, e2, e3, e4] at S191
  generalize x123.fmod 5 = fni at S191 hd
  obtain ⟨e, news, rfl, rfl, rfl, rfl, h4, h5, h6, W, S⟩ := LW.begin (kn + 1) (fn + 1) pn S191 hd hT hTz
  rw [← h4, ← h5, ← h6] at S
  have hK : 1 ≤ e.K := by lia
  have hF : 1 ≤ e.F := by lia
  have hKm : e.K ≤ 3 := by lia
  have hFm : e.F ≤ 3 := by lia
  have hPm : e.P ≤ 3 := by lia
  clear S191 hd hT hTz e1 e2 e3 e4 hnn hkn hfn hpn; (with_reducible refine k_st S fun s201 S201 => ?_; clear S; refine r_cons ?_); refine wpAny_For ?_; (with_reducible refine q_callB0 C1 g0 S201 (bb_range w) .T ?_; refine r_range1 S201 fun r211 t211 u211 v211 s211 S211 => ?_; clear S201); rename St _ _ _ _ _ _ => S300
  with_reducible refine r_iterRange (k' := (nn : Int)) S300 .hd ?_ ?_ fun it s301 S301 => ?_
  · exact (small_up (k := nn) (by decide) (by lia) (by lia)).1
  · exact (small_up (k := nn) (by decide) (by lia) (by lia)).2
  clear S300; refine r_forRangeF (I := fun i news₁ => ∃ high fs, LW w e 0 (5 * i) high false false fs fs false news₁ ∧ high = topH fs ∧ Chn fs ∧ (∀ f ∈ fs, (f.sort = 2 ↔ f.code = 4)) ∧ fs.length = i) C1 S301 ?_ ?_ (fun i news₁ t302 s302 hi hI S302 => ?_) (fun m₁ news₁ s303 hm hI S303 => ?_)
  · exact ⟨0, [], W, rfl, trivial, (fun _ h => nomatch h), rfl⟩
  · exact fun _ _ _ _ _ _ S k => r_asg S k
  · try k_fold
    clear W
    obtain ⟨high, fs, W, hh, hch, hcod, hlen⟩ := hI
    have htop := hch.top
    have hz2 : high ≤ 100 := by lia
    have hz3 : fs.length ≤ 50 := by lia
    try k_fold
    (with_reducible refine k_ex ?_; refine q_call0 C1 g0 S302 (gl_law_open w) (keep_427 w) ?_); refine c_openL (pre := _ :: []) (C1.le (by decide)) S302 W (by lia) hh hz2 hz3 fun f news412 s412 W hfb hfo hfc S412 => ?_; (try simp only [cA, nA] at S412); clear S302; (with_reducible refine k_sn ?_); rename St _ _ _ _ _ _ => S490; refine ⟨_, ⟨f.base, f :: fs, (LW.le W (by lia)).lo0 (Nat.zero_le _), rfl, ⟨by rw [hfb, hh], hfo, hch⟩, fun f' hf' => ?_, by rw [List.length_cons, hlen]⟩, S490⟩
    rcases List.mem_cons.mp hf' with rfl | hf'
    · exact hfc
    · exact hcod f' hf'
  · try k_fold
    clear W
    obtain ⟨high, fs, W, hh, hch, hcod, hlen⟩ := hI
    have htop := hch.top
    have hz2 : high ≤ 100 := by lia
    have hz3 : fs.length ≤ 50 := by lia
    (with_reducible refine seq_next ?_)
    try k_fold
    (with_reducible refine k_ex ?_; refine r_call ?_); refine r_glb C1 S303 (gl_law_edge w) ?_; refine r_callK (keep_467 w) ?_; refine spliced_more ?_; refine r_loc S303 ((hm _ (by decide)).trans rfl) ?_; refine spliced_more ?_; refine r_loc S303 ((hm _ (by decide)).trans rfl) ?_; refine spliced_more ?_; refine r_loc S303 ((hm _ (by decide)).trans rfl) ?_; refine spliced_more ?_; refine r_loc S303 ((hm _ (by decide)).trans rfl) ?_; refine spliced_more ?_; refine r_loc S303 ((hm _ (by decide)).trans rfl) ?_; (with_reducible refine spliced_none ?_; refine ⟨C1.inK S303, ?_⟩); refine c_edgeL (pre := []) (C1.le (by decide)) S303 W hcod (by lia) hh hz2 hz3 hK hF fun D d fsI news519 s519 W hmap S519 => ?_; (try simp only [cA, nA] at S519); clear S303; (with_reducible refine seq_next ?_; refine r_cons ?_; refine wpAny_While ?_); rename St _ _ _ _ _ _ => S600; refine r_while (I := fun k m₂ news₂ => m₂ = m₁ ∧ ∃ B high d fsW fsI, LW w e 1 B high d d fsW fsI D news₂ ∧ fsW.length = k ∧ k ≤ 3 ∧ high = topH fsW ∧ Chn fsW ∧ fsI.map Fm.base = fsW.map Fm.base ∧ B + 3 * k ≤ 60) nn S600 ?_ (fun kk m₂ news₂ s601 hI S601 => ?_)
    · exact ⟨rfl, 5 * nn + 5, high, d, fs, fsI, W, hlen, by lia, hh, hch, hmap, by lia⟩
    clear W S600 hh hch hcod hlen htop hz2 hz3 hmap
    obtain ⟨rfl, B, high, d, fsW, fsI, W, hlen, hk3, hh, hch, hmap, hB⟩ := hI
    have htop := hch.top
    rcases fsW with _ | ⟨f, fsW⟩
    · try k_fold
      try k_fold
      (with_reducible refine wpAny_isTrue_Compare1 ?_; refine Subscript_ ?_); refine r_loc S601 ((hm _ (by decide)).trans rfl) ?_; (with_reducible refine r_str S601 fun t704 s704 S704 => ?_; clear S601); (with_reducible refine gl_frames (pre := []) S704 W fun s705 S705 => ?_); (try simp only [cA, nA] at S705); clear S704; (with_reducible refine q_ev g0 S705 fun τ708 α708 s708 S708 => ?_; clear S705); (with_reducible refine nl_frames (pre := []) C1 S708 W fun S709 => ?_); (try simp only [cA, nA] at S709); clear S708; (with_reducible refine wpAny_truthy_bool ?_); refine t_ff ?_; (with_reducible refine seq_next ?_; refine k_as ?_; refine wpAny_BinOp ?_; refine r_call ?_); refine r_glb C1 S709 (gl_law_next w) ?_; refine r_callK (keep_406 w) ?_; refine spliced_more ?_; refine r_loc S709 ((hm _ (by decide)).trans rfl) ?_; (with_reducible refine spliced_none ?_; refine ⟨C1.inK S709, ?_⟩); refine c_nextL (pre := []) (C1.le (by decide)) S709 W fun x723 t723 news723 s723 W S723 => ?_; (try simp only [cA, nA] at S723); clear S709; (with_reducible refine r_int S723 fun t724 s724 S724 => ?_; clear S723; refine r_mod S724 (by decide) fun t725 s725 S725 => ?_; clear S724; refine k_st S725 fun s726 S726 => ?_; clear S725; refine r_cons ?_)
      obtain ⟨wy, hwy, hw4⟩ := fmodN x723 4 (by decide)
      have hwy' : x723.fmod 4 = wy := hwy
      rw [hwy'] at S726
      obtain rfl : high = 0 := hh
      obtain rfl : fsI = [] := by
        cases fsI with
        | nil => rfl
        | cons _ _ => cases hmap
      clear hwy hwy' hch; refine wpAny_mono (Q := fun fl s' => fl = .next ∧ ∃ news', ((wy = 2 ∧ LW w e 1 B 0 d d [] [] D news') ∨ (wy ≠ 2 ∧ LE w e D news')) ∧ St c g L (("way", .int wy t725) :: m₂) news' s') ?_ (fun fl s' h => ?_) (fun _ _ x => x)
      · try k_fold
        by_cases h2 : wy = 2
        · subst h2
          try k_fold
          (with_reducible refine wpAny_If ?_; refine wpAny_isTrue_Compare1 ?_); refine r_loc S726 rfl ?_; (with_reducible refine r_int S726 fun t1004 s1004 S1004 => ?_; clear S726; refine ne_int ?_; refine wpAny_truthy_bool ?_); refine t_ff ?_; (with_reducible refine wpAny_execs_nil ?_); rename St _ _ _ _ _ _ => S1090; exact ⟨rfl, _, .inl ⟨rfl, W⟩, S1090⟩
        · (with_reducible refine wpAny_If ?_; refine wpAny_isTrue_Compare1 ?_); refine r_loc S726 rfl ?_; (with_reducible refine r_int S726 fun t1104 s1104 S1104 => ?_; clear S726; refine ne_int ?_; refine wpAny_truthy_bool ?_; refine t_pos (by simp only [bne_iff_ne, ne_eq, List.length_cons]; lia) ?_; refine k_ex ?_; refine r_call ?_); refine r_glb C1 S1104 (gl_law_emit w) ?_; refine r_callK (keep_413 w) ?_; refine spliced_more ?_; refine r_loc S1104 ((hm _ (by decide)).trans rfl) ?_; (with_reducible refine q_sp g0 S1104 fun τ1122 α1122 s1122 S1122 => ?_; clear S1104; refine ⟨C1.inK S1122, ?_⟩); refine c_endL (pre := []) (C1.le (by decide)) S1122 W (by lia) fun news1125 s1125 W S1125 => ?_; (try simp only [cA, nA] at S1125); clear S1122; (with_reducible refine k_sn ?_); rename St _ _ _ _ _ _ => S1190; exact ⟨rfl, _, .inr ⟨h2, W⟩, S1190⟩
      clear W S726
      obtain ⟨rfl, news1, hcase, S1200⟩ := h
      with_reducible refine seq_next ?_
      with_reducible refine r_cons ?_
      refine wpAny_mono (Q := fun fl s' => fl = .next ∧ ∃ news', ((wy = 2 ∧ LW w e 1 B 0 d d [] [] D news') ∨ (wy ≠ 2 ∧ ∃ D', LF w e D' news')) ∧ St c g L (("way", .int wy t725) :: m₂) news' s') ?_ (fun fl s' h => ?_) (fun _ _ x => x)
      · try k_fold
        rcases hcase with ⟨h2, W⟩ | ⟨h2, W⟩
        · subst h2
          try k_fold
          (with_reducible refine wpAny_If ?_; refine wpAny_isTrue_Compare1 ?_); refine r_loc S1200 rfl ?_; (with_reducible refine r_int S1200 fun t1304 s1304 S1304 => ?_; clear S1200; refine eq_int ?_; refine wpAny_truthy_bool ?_; refine t_neg (by simp only [beq_iff_eq, decide_eq_true_eq]; lia) ?_; refine wpAny_execs_nil ?_); rename St _ _ _ _ _ _ => S1390; exact ⟨rfl, _, .inl ⟨rfl, W⟩, S1390⟩
        · by_cases h3 : wy = 3
          · subst h3
            (with_reducible refine wpAny_If ?_; refine wpAny_isTrue_Compare1 ?_); refine r_loc S1200 rfl ?_; (with_reducible refine r_int S1200 fun t1404 s1404 S1404 => ?_; clear S1200; refine eq_int ?_; refine wpAny_truthy_bool ?_; refine t_pos (by simp only [beq_iff_eq, decide_eq_true_eq]; lia) ?_; refine k_ex ?_; refine r_call ?_); refine r_glb C1 S1404 (gl_law_bad w) ?_; refine r_callK (keep_420 w) ?_; refine spliced_more ?_; refine r_loc S1404 ((hm _ (by decide)).trans rfl) ?_; (with_reducible refine q_sp g0 S1404 fun τ1416 α1416 s1416 S1416 => ?_; clear S1404; refine ⟨C1.inK S1416, ?_⟩); rename St _ _ _ _ _ _ => S1480; refine c_behind (pre := []) (C1.le (by decide)) S1480 W fun news1481 s1481 HB S1481 => ?_; (try simp only [cA, nA] at S1481); clear S1480; (with_reducible refine seq_next ?_; refine k_ex ?_; refine r_call ?_); refine r_glb C1 S1481 (gl_law_emit w) ?_; refine r_callK (keep_413 w) ?_; refine spliced_more ?_; refine r_loc S1481 ((hm _ (by decide)).trans rfl) ?_; (with_reducible refine q_sp g0 S1481 fun τ1498 α1498 s1498 S1498 => ?_; clear S1481; refine ⟨C1.inK S1498, ?_⟩); refine HB _ _ _ _ _ _ _ S1498 fun news1501 s1501 W S1501 => ?_; (try simp only [cA, nA] at S1501); clear S1498; (with_reducible refine k_sn ?_); rename St _ _ _ _ _ _ => S1490; exact ⟨rfl, _, .inr ⟨h2, true, W⟩, S1490⟩
          · (with_reducible refine wpAny_If ?_; refine wpAny_isTrue_Compare1 ?_); refine r_loc S1200 rfl ?_; (with_reducible refine r_int S1200 fun t1504 s1504 S1504 => ?_; clear S1200; refine eq_int ?_; refine wpAny_truthy_bool ?_; refine t_neg (by simp only [beq_iff_eq, decide_eq_true_eq]; lia) ?_; refine wpAny_execs_nil ?_); rename St _ _ _ _ _ _ => S1590; exact ⟨rfl, _, .inr ⟨h2, D, W.lf⟩, S1590⟩
      clear hcase S1200
      obtain ⟨rfl, news2, hcase, S1600⟩ := h
      with_reducible refine seq_next ?_
      with_reducible refine r_cons ?_
      refine wpAny_mono (Q := fun fl s' => fl = .next ∧ ∃ D' news', LF w e D' news' ∧ St c g L (("way", .int wy t725) :: m₂) news' s') ?_ (fun fl s' h => ?_) (fun _ _ x => x)
      · try k_fold
        rcases hcase with ⟨h2, W⟩ | ⟨h2, D', W⟩
        · subst h2
          obtain ⟨rows, hs, due, W1, W2, h1, hl1, hl2⟩ := W
          have hne : rows ≠ [] := fun h => by subst h; exact absurd hl1 (by decide)
          have hrl : rows.length ≤ 100 := by lia
          cases due with
          | none =>
            try k_fold
            (with_reducible refine wpAny_If ?_; refine isTrue_and ?_; refine wpAny_isTrue_Compare1 ?_); refine r_loc S1600 rfl ?_; (with_reducible refine r_int S1600 fun t1705 s1705 S1705 => ?_; clear S1600; refine eq_int ?_; refine wpAny_truthy_bool ?_; refine t_pos (by simp only [beq_iff_eq, decide_eq_true_eq]; lia) ?_; refine isTrue_and ?_; refine wpAny_isTrue_Compare1 ?_; refine Subscript_ ?_); refine r_loc S1705 ((hm _ (by decide)).trans rfl) ?_; (with_reducible refine r_str S1705 fun t1713 s1713 S1713 => ?_; clear S1705); (with_reducible refine g_due0 (pre := []) S1713 W1 fun s1714 S1714 => ?_); (try simp only [cA, nA] at S1714); clear S1713; (with_reducible refine r_none ?_; refine is_none_none ?_; refine wpAny_truthy_bool ?_; refine t_tt ?_; refine isTrue_and_nil ?_; refine t_tt ?_; refine r_cons ?_); refine wpAny_Assign_Subscript ?_; (with_reducible refine Tuple_ ?_); refine spliced_more ?_; (with_reducible refine r_str S1714 fun t1725 s1725 S1725 => ?_; clear S1714); refine spliced_more ?_; refine r_loc S1725 ((hm _ (by decide)).trans rfl) ?_; refine spliced_more ?_; (with_reducible refine wpAny_BinOp ?_; refine r_call ?_); refine r_bui C1 S1725 (gb_len w) (by boot_by_name) (by decide) ?_; refine r_callB ?_; refine spliced_more ?_; (with_reducible refine Subscript_ ?_); refine r_loc S1725 ((hm _ (by decide)).trans rfl) ?_; (with_reducible refine r_str S1725 fun t1736 s1736 S1736 => ?_; clear S1725); (with_reducible refine g_body (pre := []) S1736 W1 fun s1737 S1737 => ?_); (try simp only [cA, nA] at S1737); clear S1736; (with_reducible refine spliced_none ?_); refine l_body (pre := []) S1737 W1 (by lia) fun t1739 s1739 S1739 => ?_; (try simp only [cA, nA] at S1739); clear S1737; (with_reducible refine r_int S1739 fun t1740 s1740 S1740 => ?_; clear S1739; refine r_sub S1740 fun t1741 s1741 S1741 => ?_; clear S1740; refine spliced_none ?_; refine r_tuple S1741 (by with_unfolding_all exact bL rfl) fun a1743 s1743 S1743 => ?_; clear S1741); refine r_loc S1743 ((hm _ (by decide)).trans rfl) ?_; (with_reducible refine r_str S1743 fun t1745 s1745 S1745 => ?_; clear S1743); (with_reducible refine s_due (x := (Str.ofString "type mismatch", (rows.length : Int) - 1)) (pre := []) S1745 W1 fun news1746 s1746 W1 S1746 => ?_); (try simp only [cA, nA] at S1746); clear S1745; (with_reducible refine k_sn ?_); rename St _ _ _ _ _ _ => S1790; exact ⟨rfl, true, _, ⟨rows, hs, 0, d, _, W1, hne, hrl, rfl, (fun h => nomatch h), fun x h => by cases h; exact LW.left W2⟩, S1790⟩
          | some x =>
            (with_reducible refine wpAny_If ?_; refine isTrue_and ?_; refine wpAny_isTrue_Compare1 ?_); refine r_loc S1600 rfl ?_; (with_reducible refine r_int S1600 fun t1805 s1805 S1805 => ?_; clear S1600; refine eq_int ?_; refine wpAny_truthy_bool ?_; refine t_pos (by simp only [beq_iff_eq, decide_eq_true_eq]; lia) ?_; refine isTrue_and ?_; refine wpAny_isTrue_Compare1 ?_; refine Subscript_ ?_); refine r_loc S1805 ((hm _ (by decide)).trans rfl) ?_; (with_reducible refine r_str S1805 fun t1813 s1813 S1813 => ?_; clear S1805); (with_reducible refine g_due1 (pre := []) S1813 W1 fun dd kd ud1 ud2 ud3 s1814 hdm S1814 => ?_); (try simp only [cA, nA] at S1814); clear S1813; (with_reducible refine r_none ?_; refine is_none_ne (by simp) ?_; refine wpAny_truthy_bool ?_; refine t_ff ?_; refine t_ff ?_; refine wpAny_execs_nil ?_); rename St _ _ _ _ _ _ => S1890; exact ⟨rfl, true, _, ⟨rows, hs, 0, d, some x, W1, hne, hrl, rfl, (fun h => nomatch h), fun x' h => by cases h; simpa using W2.bad x rfl []⟩, S1890⟩
        · (with_reducible refine wpAny_If ?_; refine isTrue_and ?_; refine wpAny_isTrue_Compare1 ?_); refine r_loc S1600 rfl ?_; (with_reducible refine r_int S1600 fun t1905 s1905 S1905 => ?_; clear S1600; refine eq_int ?_; refine wpAny_truthy_bool ?_; refine t_neg (by simp only [beq_iff_eq, decide_eq_true_eq]; lia) ?_; refine t_ff ?_; refine wpAny_execs_nil ?_); rename St _ _ _ _ _ _ => S1990; exact ⟨rfl, D', _, W, S1990⟩
      clear hcase S1600
      obtain ⟨rfl, D', news3, W, S2000⟩ := h
      with_reducible refine seq_next ?_
      obtain ⟨rows, hs, high, dW, due, ⟨o, hi, bits, hits, frs, tvs, ns', nb, nh, nf, nt, vdu, fx, hp, hwd, hR, hH, hF', hT, hTz, hDu⟩, hne, hrl, hD', hok, hbad⟩ := W
      have S2001 := S2000.perm hp
      clear S2000 hp; (with_reducible refine k_as ?_; refine r_call ?_); refine r_bui C1 S2001 (gb_list w) (by boot_by_name) (by decide) ?_; refine r_callT ?_; refine spliced_more ?_; (with_reducible refine Subscript_ ?_); refine r_loc S2001 ((hm _ (by decide)).trans rfl) ?_; (with_reducible refine r_str S2001 fun t2019 s2019 S2019 => ?_; clear S2001); refine r_dget S2019 (.head _) (by assumption) rfl fun s2020 S2020 => ?_; clear S2019; (with_reducible refine spliced_none ?_); rename St _ _ _ _ _ _ => S2030
      with_reducible refine r_listCopy (a := e.b) (vs := bits) (k' := nb) S2030 ?_ ?_ fun bd bk s2031 S2031 => ?_
      · exact .tail _ (.head _)
      · try k_fold
        rw [hR.len]; lia
      clear S2030; (with_reducible refine r_store S2031 (fun s2041 S2041 => ?_) (by with_unfolding_all rfl) (by with_unfolding_all rfl); clear S2031; refine seq_next ?_; refine r_cons ?_; refine wpAny_Try_except ?_; refine k_as ?_; refine r_call ?_; refine r_glb C1 S2041 (gl_core_heights w) ?_ (by with_unfolding_all rfl) (by with_unfolding_all rfl); refine r_callK (keep_364 w) ?_ (by with_unfolding_all rfl) (by with_unfolding_all rfl); refine spliced_more ?_ (by with_unfolding_all rfl); refine wpAny_BinOp ?_; refine List_ ?_; refine spliced_more ?_ (by with_unfolding_all rfl); refine Tuple_ ?_; refine spliced_more ?_ (by with_unfolding_all rfl); refine q_ev g0 S2041 fun τ2058 α2058 s2058 S2058 => ?_; clear S2041; refine spliced_more ?_ (by with_unfolding_all rfl); refine q_ev g0 S2058 fun τ2062 α2062 s2062 S2062 => ?_; clear S2058; refine spliced_none ?_; refine r_tuple S2062 (by with_unfolding_all exact bL rfl) fun a2064 s2064 S2064 => ?_; clear S2062; refine spliced_none ?_; refine r_list S2064 (by with_unfolding_all exact bL rfl) fun a2066 s2066 S2066 => ?_; clear S2064); refine r_loc S2066 ((hm _ (by decide)).trans rfl) ?_; refine r_mulL S2066 (.head _) (by lia) fun a2068 s2068 S2068 => ?_; clear S2066; (with_reducible refine spliced_more ?_ (by with_unfolding_all rfl); refine wpAny_BinOp ?_; refine List_ ?_; refine spliced_more ?_ (by with_unfolding_all rfl); refine wpAny_BinOp ?_); refine r_loc S2068 ((hm _ (by decide)).trans rfl) ?_; (with_reducible refine r_int S2068 fun t2075 s2075 S2075 => ?_; clear S2068; refine r_sub S2075 fun t2076 s2076 S2076 => ?_; clear S2075; refine spliced_none ?_; refine r_list S2076 (by with_unfolding_all exact bL rfl) fun a2078 s2078 S2078 => ?_; clear S2076); refine r_loc S2078 ((hm _ (by decide)).trans rfl) ?_; refine r_mulL S2078 (.head _) (by lia) fun a2080 s2080 S2080 => ?_; clear S2078; (with_reducible refine spliced_more ?_ (by with_unfolding_all rfl)); refine r_loc S2080 ((hm _ (by decide)).trans rfl) ?_; (with_reducible refine spliced_more ?_ (by with_unfolding_all rfl); refine r_call ?_; refine r_glb C1 S2080 (gl_Func w) ?_ (by with_unfolding_all rfl) (by with_unfolding_all rfl); refine r_callK (keep_388 w) ?_ (by with_unfolding_all rfl) (by with_unfolding_all rfl); refine spliced_more ?_ (by with_unfolding_all rfl); refine r_int S2080 fun t2088 s2088 S2088 => ?_; clear S2080; refine spliced_more ?_ (by with_unfolding_all rfl); refine wpAny_BinOp ?_; refine Tuple_ ?_; refine spliced_more ?_ (by with_unfolding_all rfl); refine q_ev g0 S2088 fun τ2095 α2095 s2095 S2095 => ?_; clear S2088; refine spliced_none ?_; refine r_tuple S2095 (by with_unfolding_all exact bL rfl) fun a2097 s2097 S2097 => ?_; clear S2095); refine r_loc S2097 ((hm _ (by decide)).trans rfl) ?_; (with_reducible refine r_mulT S2097 (by lia) fun a2099 ka2099 s2099 S2099 => ?_; clear S2097; refine spliced_more ?_ (by with_unfolding_all rfl); refine r_loc S2099 (by with_unfolding_all rfl) ?_ (by with_unfolding_all rfl) (by with_unfolding_all rfl); refine spliced_none ?_; refine ⟨C1.inK S2099, ?_⟩); refine c_Func (C1.le (by decide)) S2099 fun fo fd h1 t1 h2 t2 h3 t3 s2104 S2104 => ?_; clear S2099; (with_reducible refine spliced_none ?_; refine ⟨C1.inK S2104, ?_⟩); rename St _ _ _ _ _ _ => S2200
      cases due with
      | none =>
        have hvn : vdu = .none := hDu
        subst hvn
        refine c_core (K := e.K) (F := e.F) (P := e.P) (R := .ok hs) (C1.le (by decide)) S2200 (.head _) (.tail _ (.head _)) (.tail _ (.tail _ (.tail _ (.tail _ (.tail _ (.head _)))))) (.tail _ (.tail _ (.tail _ (.tail _ (.tail _ (.tail _ (.tail _ (.head _)))))))) (.tail _ (.tail _ (.tail _ (.tail _ (.tail _ (.tail _ (.tail _ (.tail _ (.tail _ (.head _)))))))))) (.tail _ (.tail _ (.tail _ (.tail _ (.tail _ (.tail _ (.tail _ (.tail _ (.head _))))))))) (.tail _ (.tail _ (.tail _ (.head _)))) (.tail _ (.tail _ (.head _))) (List.length_replicate ..) (fun v hv => ⟨_, List.eq_of_mem_replicate hv⟩) (.tail _ (.tail _ (.tail _ (.tail _ (.tail _ (.tail _ (.tail _ (.tail _ (.tail _ (.tail _ (.head _))))))))))) hK (by lia) (by lia) (by lia) (hR.mono fun q hq => (.tail _ (.tail _ (.tail _ (.tail _ (.tail _ (.tail _ (.tail _ (.tail _ (.tail _ (.tail _ (.tail _ (.tail _ (.tail _ (.tail _ (.tail _ (.tail _ hq))))))))))))))))) (by lia) hne (hok rfl) (fun fl' found fk' news' hs' s' hR' hH' hsub S' => ?_) (fun why a h => nomatch h)
        cases hR'
        have hmw := hsub _ (.tail _ (.tail _ (.tail _ (.tail _ (.tail _ (.tail _ (.tail _ (.tail _ (.tail _ (.tail _ (.tail _ (.head _))))))))))))
        have hmb := hsub _ (.tail _ (.tail _ (.tail _ (.tail _ (.tail _ (.tail _ (.tail _ (.tail _ (.tail _ (.tail _ (.tail _ (.tail _ (.head _)))))))))))))
        have hmh := hsub _ (.tail _ (.tail _ (.tail _ (.tail _ (.tail _ (.tail _ (.tail _ (.tail _ (.tail _ (.tail _ (.tail _ (.tail _ (.tail _ (.head _))))))))))))))
        have hmbd := hsub _ (.tail _ (.tail _ (.tail _ (.tail _ (.tail _ (.tail _ (.tail _ (.tail _ (.tail _ (.tail _ (.head _)))))))))))
        have hfx2 : ∀ q ∈ fx, q ∈ (fl', lst found fk') :: news' := fun q hq => .tail _ (hsub q ((.tail _ (.tail _ (.tail _ (.tail _ (.tail _ (.tail _ (.tail _ (.tail _ (.tail _ (.tail _ (.tail _ (.tail _ (.tail _ (.tail _ (.tail _ (.tail _ hq))))))))))))))))))
        clear S2200 hsub; (with_reducible refine r_store S' (fun s2301 S2301 => ?_) (by with_unfolding_all rfl) (by with_unfolding_all rfl); clear S'; refine k_sn ?_)
        show wpAny _ _ (execs [] _) _ _ _
        (with_reducible refine wpAny_execs_nil ?_; refine seq_next ?_; refine k_rt ?_; refine BoolOp_and ?_; refine wpAny_Compare1 ?_; refine Subscript_ ?_; refine r_loc S2301 (by with_unfolding_all exact (hm _ (by decide)).trans rfl) ?_ (by with_unfolding_all rfl) (by with_unfolding_all rfl); refine r_str S2301 fun t2319 s2319 S2319 => ?_; clear S2301); refine r_dget S2319 (.tail _ (hmw)) (by assumption) rfl fun s2320 S2320 => ?_; clear S2319; (with_reducible refine r_none ?_; refine is_none_none ?_; refine wpAny_truthy_bool ?_; refine t_tt ?_; refine BoolOp_and ?_; refine wpAny_Compare1 ?_; refine r_loc S2320 (by with_unfolding_all rfl) ?_ (by with_unfolding_all rfl) (by with_unfolding_all rfl); refine Subscript_ ?_; refine r_loc S2320 (by with_unfolding_all exact (hm _ (by decide)).trans rfl) ?_ (by with_unfolding_all rfl) (by with_unfolding_all rfl); refine r_str S2320 fun t2330 s2330 S2330 => ?_; clear S2320); refine r_dget S2330 (.tail _ (hmw)) (by assumption) rfl fun s2331 S2331 => ?_; clear S2330; refine r_eqHs (by show callerA.units + 3 + 64 < 9900; decide) S2331 (.head _) (.tail _ hmh) hH' hH ?_; (with_reducible refine wpAny_truthy_bool ?_; refine t_tt ?_; refine BoolOp_one ?_; refine wpAny_Compare1 ?_; refine r_loc S2331 (by with_unfolding_all rfl) ?_ (by with_unfolding_all rfl) (by with_unfolding_all rfl); refine Subscript_ ?_; refine r_loc S2331 (by with_unfolding_all exact (hm _ (by decide)).trans rfl) ?_ (by with_unfolding_all rfl) (by with_unfolding_all rfl); refine r_str S2331 fun t2340 s2340 S2340 => ?_; clear S2331); refine r_dget S2340 (.tail _ (hmw)) (by assumption) rfl fun s2341 S2341 => ?_; clear S2340; refine r_eqRows (by show callerA.units + 3 + 64 < 9900; decide) S2341 (.tail _ hmbd) (.tail _ hmb) hR hfx2 ?_; (with_reducible refine seq_ret ?_); rename St _ _ _ _ _ _ => S2390; exact k _ _ S2390.fr S2390.gens S2390.os
      | some x =>
        obtain ⟨why, at_⟩ := x
        obtain ⟨du, kd, u1, u2, u3, rfl, hdm⟩ := hDu
        have nd := S2200.nd
        refine c_core (K := e.K) (F := e.F) (P := e.P) (R := .error (why, at_)) (C1.le (by decide)) S2200 (.head _) (.tail _ (.head _)) (.tail _ (.tail _ (.tail _ (.tail _ (.tail _ (.head _)))))) (.tail _ (.tail _ (.tail _ (.tail _ (.tail _ (.tail _ (.tail _ (.head _)))))))) (.tail _ (.tail _ (.tail _ (.tail _ (.tail _ (.tail _ (.tail _ (.tail _ (.tail _ (.head _)))))))))) (.tail _ (.tail _ (.tail _ (.tail _ (.tail _ (.tail _ (.tail _ (.tail _ (.head _))))))))) (.tail _ (.tail _ (.tail _ (.head _)))) (.tail _ (.tail _ (.head _))) (List.length_replicate ..) (fun v hv => ⟨_, List.eq_of_mem_replicate hv⟩) (.tail _ (.tail _ (.tail _ (.tail _ (.tail _ (.tail _ (.tail _ (.tail _ (.tail _ (.tail _ (.head _))))))))))) hK (by lia) (by lia) (by lia) (hR.mono fun q hq => (.tail _ (.tail _ (.tail _ (.tail _ (.tail _ (.tail _ (.tail _ (.tail _ (.tail _ (.tail _ (.tail _ (.tail _ (.tail _ (.tail _ (.tail _ (.tail _ hq))))))))))))))))) (by lia) hne (hbad _ rfl) (fun _ _ _ _ _ _ h => nomatch h) (fun why' a h v s' R => ?_)
        cases h
        have hst : PyData.strOk why = true := (hbad _ rfl).ok _ rfl
        have R := R.sub (keep' := ((bd, lst bits bk) :: (e.wd, o) :: (e.b, lst bits nb) :: fx.filter fun q => q.2.cls == .type "tuple")) (fun q hq => by
          rcases List.mem_cons.mp hq with rfl | hq
          · exact (.tail _ (.tail _ (.tail _ (.tail _ (.tail _ (.tail _ (.tail _ (.tail _ (.tail _ (.tail _ (.head _)))))))))))
          rcases List.mem_cons.mp hq with rfl | hq
          · exact (.tail _ (.tail _ (.tail _ (.tail _ (.tail _ (.tail _ (.tail _ (.tail _ (.tail _ (.tail _ (.tail _ (.head _))))))))))))
          rcases List.mem_cons.mp hq with rfl | hq
          · exact (.tail _ (.tail _ (.tail _ (.tail _ (.tail _ (.tail _ (.tail _ (.tail _ (.tail _ (.tail _ (.tail _ (.tail _ (.head _)))))))))))))
          exact (.tail _ (.tail _ (.tail _ (.tail _ (.tail _ (.tail _ (.tail _ (.tail _ (.tail _ (.tail _ (.tail _ (.tail _ (.tail _ (.tail _ (.tail _ (.tail _ (List.mem_filter.mp hq).1)))))))))))))))))
        clear S2200; refine x_land C1 R (gl_Invalid w) ?_ ?_ rfl rfl rfl (by decide) rfl (fun e2 oe d2 ex kx t1 t2 s'' hv hc hdct hncls S' => ?_)
        · exact nd.sublist (List.Sublist.map _ (.cons _ (.cons _ (.cons _ (.cons _ (.cons _ (.cons _ (.cons _ (.cons _ (.cons _ (.cons _ (.cons₂ _ (.cons₂ _ (.cons₂ _ (.cons _ (.cons _ (.cons _ List.filter_sublist)))))))))))))))))
        · intro q hq ex kx t1 t2
          rcases List.mem_cons.mp hq with rfl | hq
          · exact not_xEnt_lst _ _ _ _ _ _ _
          rcases List.mem_cons.mp hq with rfl | hq
          · exact not_xEnt_world hwd _ _ _ _ _
          rcases List.mem_cons.mp hq with rfl | hq
          · exact not_xEnt_lst _ _ _ _ _ _ _
          exact not_xEnt_tup (List.mem_filter.mp hq).2 _ _ _ _ _
        subst hv
        have hdu : (du, tup [.str why u1, .int e.fni u2, .int at_ u3] kd) ∈ (fx.filter fun q => q.2.cls == .type "tuple") := List.mem_filter.mpr ⟨hdm, (by decide : (Value.type "tuple" == Value.type "tuple") = true)⟩
        have hRt := hR.tuples
        (with_reducible refine k_rt ?_; refine BoolOp_and ?_; refine wpAny_Compare1 ?_; refine Tuple_ ?_; refine spliced_more ?_ (by with_unfolding_all rfl); refine r_attr ?_; refine r_loc S' (by with_unfolding_all rfl) ?_ (by with_unfolding_all rfl) (by with_unfolding_all rfl)); refine r_getx C1.K S' (by repeat (first | exact List.Mem.head _ | refine List.Mem.tail _ ?_)) hc hdct hncls (by repeat (first | exact List.Mem.head _ | refine List.Mem.tail _ ?_)) (fi_why w) (by with_unfolding_all rfl) (by with_unfolding_all rfl) fun s2409 S2409 => ?_; clear S'; (with_reducible refine spliced_more ?_ (by with_unfolding_all rfl); refine r_attr ?_; refine r_loc S2409 (by with_unfolding_all rfl) ?_ (by with_unfolding_all rfl) (by with_unfolding_all rfl)); refine r_getx C1.K S2409 (by repeat (first | exact List.Mem.head _ | refine List.Mem.tail _ ?_)) hc hdct hncls (by repeat (first | exact List.Mem.head _ | refine List.Mem.tail _ ?_)) (fi_function w) (by with_unfolding_all rfl) (by with_unfolding_all rfl) fun s2413 S2413 => ?_; clear S2409; (with_reducible refine spliced_more ?_ (by with_unfolding_all rfl); refine r_attr ?_; refine r_loc S2413 (by with_unfolding_all rfl) ?_ (by with_unfolding_all rfl) (by with_unfolding_all rfl)); refine r_getx C1.K S2413 (by repeat (first | exact List.Mem.head _ | refine List.Mem.tail _ ?_)) hc hdct hncls (by repeat (first | exact List.Mem.head _ | refine List.Mem.tail _ ?_)) (fi_at w) (by with_unfolding_all rfl) (by with_unfolding_all rfl) fun s2417 S2417 => ?_; clear S2413; (with_reducible refine spliced_none ?_; refine r_tuple S2417 (by with_unfolding_all exact bL rfl) fun a2419 s2419 S2419 => ?_; clear S2417; refine Subscript_ ?_; refine r_loc S2419 (by with_unfolding_all exact (hm _ (by decide)).trans rfl) ?_ (by with_unfolding_all rfl) (by with_unfolding_all rfl); refine r_str S2419 fun t2422 s2422 S2422 => ?_; clear S2419); refine r_dget S2422 (.tail _ (.tail _ (.tail _ (.tail _ (.head _))))) (by assumption) rfl fun s2423 S2423 => ?_; clear S2422; refine r_eqDue (by show callerA.units + 3 + 64 < 9900; decide) S2423 (.head _) (by repeat (first | exact hdu | refine List.Mem.tail _ ?_)) hst ?_; (with_reducible refine wpAny_truthy_bool ?_; refine t_tt ?_; refine BoolOp_one ?_; refine wpAny_Compare1 ?_; refine r_loc S2423 (by with_unfolding_all rfl) ?_ (by with_unfolding_all rfl) (by with_unfolding_all rfl); refine Subscript_ ?_; refine r_loc S2423 (by with_unfolding_all exact (hm _ (by decide)).trans rfl) ?_ (by with_unfolding_all rfl) (by with_unfolding_all rfl); refine r_str S2423 fun t2432 s2432 S2432 => ?_; clear S2423); refine r_dget S2432 (.tail _ (.tail _ (.tail _ (.tail _ (.head _))))) (by assumption) rfl fun s2433 S2433 => ?_; clear S2432; refine r_eqRows (by show callerA.units + 3 + 64 < 9900; decide) S2433 (by repeat (first | exact List.Mem.head _ | refine List.Mem.tail _ ?_)) (by repeat (first | exact List.Mem.head _ | refine List.Mem.tail _ ?_)) hRt (fun q hq => by repeat (first | exact hq | refine List.Mem.tail _ ?_)) ?_; (with_reducible refine seq_ret ?_); rename St _ _ _ _ _ _ => S2490; exact x_name S2490 rfl rfl rfl fun mf s' F hg ho => k mf s' F hg ho
    · try k_fold
      rcases fsI with _ | ⟨f', fsI⟩
      · cases hmap
      have hb1 : f'.base = f.base ∧ fsI.map Fm.base = fsW.map Fm.base := List.cons_eq_cons.mp hmap
      have hl1 : fsW.length + 1 = kk := hlen
      have hl2 : fsI.length = fsW.length := by
        have := congrArg List.length hb1.2
        simpa using this
      have ht : topH fsI = topH fsW := by
        rcases fsI with _ | ⟨x, xs⟩ <;> rcases fsW with _ | ⟨y, ys⟩
        · rfl
        · cases hl2
        · cases hl2
        · exact (List.cons_eq_cons.mp hb1.2).1
      have hbt : f.base ≤ 2 * (fsW.length + 1) := htop
      have hh' : high = f.base := hh
      subst hh'
      try k_fold
      (with_reducible refine wpAny_isTrue_Compare1 ?_; refine Subscript_ ?_); refine r_loc S601 ((hm _ (by decide)).trans rfl) ?_; (with_reducible refine r_str S601 fun t804 s804 S804 => ?_; clear S601); (with_reducible refine gl_frames (pre := []) S804 W fun s805 S805 => ?_); (try simp only [cA, nA] at S805); clear S804; (with_reducible refine q_ev g0 S805 fun τ808 α808 s808 S808 => ?_; clear S805); (with_reducible refine nl_frames (pre := []) C1 S808 W fun S809 => ?_); (try simp only [cA, nA] at S809); clear S808; (with_reducible refine wpAny_truthy_bool ?_); refine t_tt ?_; (with_reducible refine k_ex ?_; refine r_call ?_); refine r_glb C1 S809 (gl_law_close w) ?_; refine r_callK (keep_434 w) ?_; refine spliced_more ?_; refine r_loc S809 ((hm _ (by decide)).trans rfl) ?_; (with_reducible refine spliced_none ?_; refine ⟨C1.inK S809, ?_⟩); refine c_closeL (pre := []) (C1.le (by decide)) S809 W (by lia) hb1.1 ht hch.1 hch.2.1 (by lia) (by lia) (by lia) fun news821 s821 W S821 => ?_; (try simp only [cA, nA] at S821); clear S809; (with_reducible refine k_sn ?_); rename St _ _ _ _ _ _ => S890; exact ⟨fsW.length, by lia, m₂, _, ⟨rfl, B + 3, topH fsW, false, fsW, fsI, W, rfl, by lia, rfl, hch.2.2, hb1.2, by lia⟩, S890⟩)
end Mine
end
theorem PySem.Challenge.cw_nm0142_01_holds : PySem.Challenge.rw_nm0142_01.Holds := by
  exact Mine.lawHolds
