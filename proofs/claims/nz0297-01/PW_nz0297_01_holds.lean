import PyProof.Rows.All
import Wide.All
import OpenK.AllK
import Wide.FinOn
import PySem.Challenge.RW_nz0297_01
open PySem PySem.W PySem.Calls PyProof.Rows
set_option Elab.async false
set_option maxRecDepth 100000
set_option maxHeartbeats 8000000
set_option compiler.extract_closed false

namespace Mine
-- The head, by hand: the law's words in small steps; the text's top run once, over a heap kept as a tree, with the library's own quick twins of its constants.
theorem law_said : PySem.Challenge.rw_nz0297_01.wellSaid = true := by
  unfold OpenLaw.wellSaid OpenRow.wellSaid OpenRow.partSaid looksOpen
  repeat' with_reducible refine look_both ?_ ?_
  all_goals decide +kernel
abbrev PG := PySem.Challenge.pw_nz0297_01
def kept : Program := view PG (0 :: 2 :: 3 :: 4 :: (List.range' 6 4 ++ (List.range' 11 21 ++ List.range' 34 6)))
abbrev lost : List Str := [Str.ofString "PostError", Str.ofString "Section", Str.ofString "show_section"]
abbrev xOk (s : Shared) : Bool := xlAt kept [] s && recOk [] s
def runG (ok : Thread → Bool) (st : SharedT → Thread → Option (SharedT × Thread)) : Nat → SharedT → Thread → Option SharedT
  | 0, _, _ => none
  | n + 1, s, t => match through t with
    | true => some s
    | false => match ok t with
      | false => none
      | true => match st s t with
        | some (s', t') => runG ok st n s' t'
        | none => none
theorem run_of {p : Program} {w : World} {n₀ : Nat} {ann : Option Value} : ∀ {n : Nat} {s s' : SharedT} {t : Thread}, runG (stepOk n₀ ann) (stepT (denote treeTable) p w) n s t = some s' → topRun treeTable p w n₀ ann n s.abs t = some s'.abs
  | 0, _, _, _, h => by cases h
  | n + 1, s, s', t, h => by
    unfold runG at h
    unfold topRun
    cases ht : through t with
    | true => rw [ht] at h; cases h; rfl
    | false =>
      rw [ht] at h
      cases hk : stepOk n₀ ann t with
      | false => rw [hk] at h; cases h
      | true =>
        rw [hk] at h
        cases hs : stepT (denote treeTable) p w s t with
        | none => rw [hs] at h; cases h
        | some r => obtain ⟨s₂, t₂⟩ := r; rw [hs] at h; rw [stepT_spec hs]; exact run_of h
noncomputable def bootT (P : Params) : BT := (boot_heap P).objs.toList.zipIdx.foldl (fun t x => t.ins x.2 x.1) .nil
theorem bootT_abs (P : Params) : absHeap (bootT P) 11 (boot_heap P).life = boot_heap P := by kernel_rfl
theorem boot_size (P : Params) : ((boot_heap P).isNs mainGlobals, (boot_heap P).objs.size, (boot_heap P).nsMap mainGlobals "__annotations__") = (true, 11, some (Value.ref 6)) := by kernel_rfl
theorem opens (w : World) : (fencedOpening treeTable PG w 2400).map (fun s => (s.heap, s.gens, s.drawn, s.toks)) = some (boot_heap w.params, Array.mk [], boot_drawn, boot_toks) :=
  boot_open (by kernel_rfl) (by rfl) (fun s => by kernel_rfl) w
noncomputable def atStart (w : World) (os : OsState) : SharedT := ⟨bootT w.params, 11, (boot_heap w.params).life, Array.mk [], boot_drawn, boot_toks, os⟩
theorem run_quick (p : Program) (w : World) (n₀ : Nat) (ann : Option Value) : runG (PySem.W.Fast.tw6613529449190102663 n₀ ann) (PySem.W.Fast.tw10156331382660048174 (PySem.W.Fast.tw11892475500146522536 PySem.W.Fast.tw14364793385576792824) p w) = runG (stepOk n₀ ann) (stepT (denote treeTable) p w) := by
  rw [← PySem.W.Fast.te6613529449190102663, ← PySem.W.Fast.te10156331382660048174, ← PySem.W.Fast.te11892475500146522536, ← PySem.W.Fast.te14364793385576792824]
noncomputable def topEnd (w : World) (os : OsState) : Option SharedT :=
  runG (PySem.W.Fast.tw6613529449190102663 11 (some (Value.ref 6))) (PySem.W.Fast.tw10156331382660048174 (PySem.W.Fast.tw11892475500146522536 PySem.W.Fast.tw14364793385576792824) PG w) 2400 (atStart w os) (topStub PG)
theorem start_abs (w : World) (os : OsState) : (atStart w os).abs = ⟨boot_heap w.params, Array.mk [], boot_drawn, boot_toks, os⟩ := congrArg (Shared.mk · _ _ _ _) (bootT_abs w.params)
theorem topEnd_of {w : World} {os : OsState} {s : SharedT} (h : topEnd w os = some s) : topRun treeTable PG w 11 (some (Value.ref 6)) 2400 ⟨boot_heap w.params, Array.mk [], boot_drawn, boot_toks, os⟩ (topStub PG) = some s.abs := by
  have e := (congrFun (congrFun (congrFun (run_quick PG w 11 (some (Value.ref 6))) 2400) (atStart w os)) (topStub PG)).symm.trans h
  have r := run_of e
  rw [start_abs w os] at r
  exact r
theorem end_seen (w : World) : (fun os => (topEnd w os).map fun s => PySem.W.Fast.tw4187177175401517315 kept lost (importedModules PG.main.body) xOk true s.abs) = fun _ => some (openGood kept lost) := by kernel_rfl
theorem seen_quick : (@openSeen) = PySem.W.Fast.tw4187177175401517315 := PySem.W.Fast.te4187177175401517315
abbrev endOk (h₀ : Heap) (s : Shared) : Bool := staticsOk (importedModules PG.main.body) h₀ s.heap && namesBound PG s.heap && gensDone s && laidKept h₀ s.heap
theorem both {α β γ : Type} {x : Option α} {f : α → β} {g : α → γ} {b : β} {c : γ} (h : x.map f = some b) (k : x.map g = some c) : ∃ s, x = some s ∧ f s = b ∧ g s = c := by
  obtain ⟨s, rfl, e⟩ := Option.map_eq_some_iff.mp h
  exact ⟨s, rfl, e, Option.some.inj k⟩
theorem from_ok {p : Program} {w : World} {N m : Nat} {ann : Option Value} {s₀ s : Shared} (z1 : s₀.heap.isNs mainGlobals = true) (z0 : (s₀.gens.size == 0) = true) (z2 : s₀.heap.objs.size = m) (z3 : s₀.heap.nsMap mainGlobals "__annotations__" = ann)
    (r : topRun treeTable p w m ann N s₀ (topStub p) = some s) (ok : (staticsOk (importedModules p.main.body) s₀.heap s.heap && namesBound p s.heap && gensDone s && laidKept s₀.heap s.heap) = true) : topFrom treeTable p w N s₀ = some s := by
  unfold topFrom
  rw [z1, z0, z2, z3, r]
  show (match staticsOk (importedModules p.main.body) s₀.heap s.heap && namesBound p s.heap && gensDone s && laidKept s₀.heap s.heap with | true => _ | false => _) = _
  rw [ok]
theorem opened {p : Program} {w : World} {N : Nat} {x : Heap × Array GenState × Drawn × Nat} (h : (fencedOpening treeTable p w N).map (fun s => (s.heap, s.gens, s.drawn, s.toks)) = some x) : ∃ os, fencedOpening treeTable p w N = some ⟨x.1, x.2.1, x.2.2.1, x.2.2.2, os⟩ := by
  obtain ⟨⟨hp, gs, d, k, os⟩, e, rfl⟩ := Option.map_eq_some_iff.mp h
  exact ⟨os, e⟩
theorem ends_of {p : Program} {w : World} {N : Nat} {s₀ s : Shared} {α : Type} {f : Shared → α} {a : α} (h : fencedOpening treeTable p w N = some s₀) (t : topFrom treeTable p w N s₀ = some s) (e : f s = a) : (openEnds treeTable p w N).map f = some a := by
  unfold openEnds
  rw [h, Option.bind_some, t, Option.map_some, e]
theorem left_by {α : Type} {Yf : Shared → α} {Ya : World → α} (h : ∀ w : World, (fun os => (topEnd w os).map fun s => (endOk (boot_heap w.params) s.abs, Yf s.abs)) = fun _ => some (true, Ya w)) : LeftO PG kept lost xOk Yf Ya 2400 true := fun w => by
  obtain ⟨os, e⟩ := opened (opens w)
  obtain ⟨s, r, l1, l2⟩ := both (congrFun (h w) os) (congrFun (end_seen w) os)
  rw [← seen_quick] at l2
  have z := boot_size w.params
  exact ends_of e (from_ok (congrArg (·.1) z) rfl (congrArg (·.2.1) z) (congrArg (·.2.2) z) (topEnd_of r) (congrArg (·.1) l1)) (Prod.ext l2 (congrArg (·.2) l1))
local macro_rules | `(tactic| o_law) => `(tactic| refine holds_law law_said fun said => ?_)
set_option hygiene false in
local macro_rules | `(tactic| o_head $H) => `(tactic| (
  refine holds_open (q := kept) (loose := lost) (Xt := xOk) (XP := XL kept []) (Yf := Hook.obs $H) (Ya := Hook.val $H) (YP := Hook.says $H) (N := 2400) ?hl (Hook.of $H) (Hook.keeps $H) (fun s e => xl_of s (Bool.and_eq_true_iff.mp e).1) XL.keeps (by rfl) (by rfl) (by rfl) (fun s e => recFacts_of (Bool.and_eq_true_iff.mp e).2) (by rfl) (by assumption) (by decide +kernel) ⟨rfl, rfl, rfl, rfl, rfl, by decide +kernel⟩ ?hw ?hc
  case hl => exact left_by (fun w => by kernel_rfl)))
open_top hd for PySem.Challenge.rw_nz0297_01

theorem calm_Ba : True := by w_top off; trivial
theorem room0 {d a R : Nat} (h : d + a < R) : d < R := Nat.lt_of_le_of_lt (Nat.le_add_right d a) h
theorem room1 {d a b R : Nat} (h : d + a < R) (hb : Nat.ble b a = true) : d + b < R := Nat.lt_of_le_of_lt (Nat.add_le_add_left (Nat.le_of_ble_eq_true hb) d) h
theorem room2 {d a b c R : Nat} (h : d + a < R) (hb : Nat.ble (b + c) a = true) : d + b + c < R := by rw [Nat.add_assoc]; exact room1 h hb
section
variable {M : Model} {A : Around} {Q E : Value → Shared → Prop} {s : Shared}
theorem cr0 (n : Addr) {l : List Value} (h : wpAny M A (call (.ref n) l) Q E s) : wpAny M A (call (.ref n) l) Q E s := h
theorem cr1 (n : Addr) {v : Value} (h : wpAny M A (call (.ref n) [v]) Q E s) : wpAny M A (call (.ref n) [v]) Q E s := h
theorem cr2 (n : Addr) {v v' : Value} (h : wpAny M A (call (.ref n) [v, v']) Q E s) : wpAny M A (call (.ref n) [v, v']) Q E s := h
theorem c1r {f : Value} {a : Addr} (h : wpAny M A (call f [.ref a]) Q E s) : wpAny M A (call f [.ref a]) Q E s := h
theorem c1s {f : Value} {z : Str} {t : Tok} (h : wpAny M A (call f [.str z t]) Q E s) : wpAny M A (call f [.str z t]) Q E s := h
theorem c1i {f : Value} {z : Int} {t : Tok} (h : wpAny M A (call f [.int z t]) Q E s) : wpAny M A (call f [.int z t]) Q E s := h
theorem ga (n : String) {v : Value} {o} (h : wpAny M A (getAttr v (Str.ofString n) o) Q E s) : wpAny M A (getAttr v (Str.ofString n) o) Q E s := h
theorem sa (n : String) {v x : Value} {R : Unit → Shared → Prop} (h : wpAny M A (setAttr v (Str.ofString n) x) R E s) : wpAny M A (setAttr v (Str.ofString n) x) R E s := h
end

/-- what stands where a call is made -/
structure Amb (w : World) (cs : Scope) (outer : List Env) (A₀ : Around) (base h₀ : Heap) (L : Addr) (h : Heap) (m : Str → Option Value) (news : List (Addr × Obj)) (p : Program) (loose : List Str) (mean : ExcName → Option Value) (mg mb : Str → Option Value) : Prop where
  B : Below A₀ base outer h₀
  F : Fr h₀ L h m
  X : (Mine.hd.heap_1 w.params).In h₀
  N : News h₀ L h news
  T : Top p loose mean mg mb h₀
  hk : cs.kind = .function

/-- a cursor's own dict -/
abbrev curD (P : Params) (b : Array UInt8) (i e : Int) (k1 k2 k3 tb ti te : Tok) : Obj :=
  dictOf [⟨PyData.keyHash P (Str.ofString "data"), .str (Str.ofString "data") k1, .bytes b tb⟩, ⟨PyData.keyHash P (Str.ofString "at"), .str (Str.ofString "at") k2, .int i ti⟩, ⟨PyData.keyHash P (Str.ofString "end"), .str (Str.ofString "end") k3, .int e te⟩] 3

theorem ne_of_allLt {d : Addr} : ∀ {l : List (Addr × Obj)}, AllLt d l → ∀ p ∈ l, p.1 ≠ d
  | [], _, _, hp => (nomatch hp)
  | q :: r, h, p, hp => by
    rcases List.mem_cons.mp hp with rfl | hp
    · exact Nat.ne_of_lt h.1
    · exact ne_of_allLt h.2 p hp

theorem cur_open {h₀ h : Heap} {L x dx : Addr} {news : List (Addr × Obj)} {g : Obj → List (Addr × Obj)} {o : Obj} (N : News h₀ L h news) (hx : (x, instObj 155 dx) ∈ news) (U : UpdF dx o news g) (ho : o.data ≠ .plain) :
    ∃ R, (∀ p ∈ R, p.1 ≠ dx) ∧ x ≠ dx ∧ News h₀ L h ((dx, o) :: (x, instObj 155 dx) :: R) ∧ ∀ h' o', News h₀ L h' ((dx, o') :: (x, instObj 155 dx) :: R) → News h₀ L h' (g o') := by
  obtain ⟨pre, post, rfl, hg, h1, h2⟩ := U.split
  have hxd : x ≠ dx := by
    intro e
    have a1 := (N _ hx).1
    have a2 := (N (dx, o) (by simp)).1
    rw [e] at a1
    rw [a1] at a2
    exact ho (congrArg Obj.data (Option.some.inj a2)).symm
  refine ⟨pre ++ post, fun p hp => (List.mem_append.mp hp).elim (h1 p) (h2 p), hxd, fun p hp => ?_, fun h' o' N' p hp => ?_⟩
  · rcases List.mem_cons.mp hp with rfl | hp
    · exact N _ (by simp)
    · rcases List.mem_cons.mp hp with rfl | hp
      · exact N _ hx
      · refine N _ ?_
        rcases List.mem_append.mp hp with q | q <;> simp [q]
  · rw [hg] at hp
    refine N' p ?_
    rcases List.mem_append.mp hp with q | q
    · simp [q]
    · rcases List.mem_cons.mp q with rfl | q
      · simp
      · simp [q]

theorem allLt_mem {d : Addr} : ∀ {l : List (Addr × Obj)}, (∀ p ∈ l, p.1 < d) → AllLt d l := fun h => allLt_of h
theorem mem_allLt {d : Addr} : ∀ {l : List (Addr × Obj)}, AllLt d l → ∀ p ∈ l, p.1 < d
  | [], _, _, hp => (nomatch hp)
  | q :: r, h, p, hp => by
    rcases List.mem_cons.mp hp with rfl | hp
    · exact h.1
    · exact mem_allLt h.2 p hp
theorem cur_open2 {h₀ h : Heap} {L x dx : Addr} {news : List (Addr × Obj)} {g : Obj → List (Addr × Obj)} {o : Obj} (N : News h₀ L h news) (hx : (x, instObj 155 dx) ∈ news) (U : UpdF dx o news g) (ho : o.data ≠ .plain) :
    ∃ R, (∀ p ∈ R, p.1 ≠ dx) ∧ x ≠ dx ∧ News h₀ L h ((dx, o) :: (x, instObj 155 dx) :: R) ∧ (∀ h' o', News h₀ L h' ((dx, o') :: (x, instObj 155 dx) :: R) → News h₀ L h' (g o')) ∧ ∀ d o', @LT.lt Nat _ dx d → AllLt d R → AllLt d (g o') := by
  obtain ⟨pre, post, rfl, hg, h1, h2⟩ := U.split
  have hxd : x ≠ dx := by
    intro e
    have a1 := (N _ hx).1
    have a2 := (N (dx, o) (by simp)).1
    rw [e] at a1
    rw [a1] at a2
    exact ho (congrArg Obj.data (Option.some.inj a2)).symm
  refine ⟨pre ++ post, fun p hp => (List.mem_append.mp hp).elim (h1 p) (h2 p), hxd, fun p hp => ?_, fun h' o' N' p hp => ?_, fun d o' hd hR => ?_⟩
  · rcases List.mem_cons.mp hp with rfl | hp
    · exact N _ (by simp)
    · rcases List.mem_cons.mp hp with rfl | hp
      · exact N _ hx
      · refine N _ ?_
        rcases List.mem_append.mp hp with q | q <;> simp [q]
  · rw [hg] at hp
    refine N' p ?_
    rcases List.mem_append.mp hp with q | q
    · simp [q]
    · rcases List.mem_cons.mp q with rfl | q
      · simp
      · simp [q]
  · refine allLt_mem fun p hp => ?_
    rw [hg] at hp
    rcases List.mem_append.mp hp with q | q
    · exact mem_allLt hR p (by simp [q])
    · rcases List.mem_cons.mp q with rfl | q
      · exact hd
      · exact mem_allLt hR p (by simp [q])
theorem news_new {h₀ h : Heap} {L tp la : Addr} {o ol : Obj} {l l' : List (Addr × Obj)} (N : News h₀ L h ((tp, o) :: (la, ol) :: l)) (bk : News h₀ L h l → News h₀ L h l') : News h₀ L h ((tp, o) :: l') := fun p hp => by
  rcases List.mem_cons.mp hp with rfl | hp
  · exact N _ (by simp)
  · exact bk (fun q hq => N q (by simp [hq])) p hp
theorem intsAre_snoc {vs : List Value} {ns : List Int} {n : Int} {t : Tok} (h : IntsAre vs ns) : IntsAre (vs ++ [.int n t]) (ns ++ [n]) := h.append (.cons n t .nil)

local macro_rules | `(tactic| walk_at "amb") => `(tactic| (refine' Amb.mk ?a1 ?a2 ?a3 ?a4 ?a5 ?a6; (case a1 => k_asm); (case a2 => k_asm); (case a3 => k_asm); (case a4 => k_asm); (case a5 => k_asm); (case a6 => first | rfl | assumption)))
local macro_rules | `(tactic| walk_at "fin") => `(tactic| ((try k_fold); (try k_sweep)))
local macro_rules | `(tactic| walk_at "fin1") => `(tactic| (k_whole; (iterate 1 intro _); walk_at "fin"))
local macro_rules | `(tactic| walk_at "fin4") => `(tactic| (k_whole; (iterate 4 intro _); walk_at "fin"))
local macro_rules | `(tactic| walk_at "fin5") => `(tactic| (k_whole; (iterate 5 intro _); walk_at "fin"))
local macro_rules | `(tactic| walk_at "fin6") => `(tactic| (k_whole; (iterate 6 intro _); walk_at "fin"))
local macro_rules | `(tactic| walk_at "fin7") => `(tactic| (k_whole; (iterate 7 intro _); walk_at "fin"))
local macro_rules | `(tactic| walk_at "fin8") => `(tactic| (k_whole; (iterate 8 intro _); walk_at "fin"))
local macro_rules | `(tactic| walk_at "fin9") => `(tactic| (k_whole; (iterate 9 intro _); walk_at "fin"))
local macro_rules | `(tactic| walk_at "fin11") => `(tactic| (k_whole; (iterate 11 intro _); walk_at "fin"))
local macro_rules | `(tactic| walk_at "finh4") => `(tactic| (k_whole; (iterate 4 intro _); (try dsimp only [List.headD_cons, List.headD_nil]); walk_at "fin"))
local macro_rules | `(tactic| walk_at "finh5") => `(tactic| (k_whole; (iterate 5 intro _); (try dsimp only [List.headD_cons, List.headD_nil]); walk_at "fin"))
local macro_rules | `(tactic| walk_at "ao") => `(tactic| first | assumption | decide | omega)
local macro_rules | `(tactic| walk_at "room") => `(tactic| first | exact room2 (by assumption) (by rfl) | exact room1 (by assumption) (by rfl) | exact room0 (by assumption) | decide)
local macro_rules | `(tactic| ktr_room) => `(tactic| walk_at "room")
local macro_rules | `(tactic| ktr_units) => `(tactic| walk_at "room")
local macro_rules | `(tactic| walk_at "ar") => `(tactic| first | assumption | exact rfl)
local macro_rules | `(tactic| cell_enter) => `(tactic| (refine' code_def ?k1 ?k2 ?k3 ?k4 ?k5 ?kA ?kF ?kK ?k6 ?k7 ?k8 ?k9 ?kB ?_ ?c2 ?c3 ?c4 ?c5; (case kA => exact rfl); (case kF => exact rfl); (case kK => assumption); (case k1 => k_asm); (case k2 => k_asm); (case k3 => k_asm); (case k4 => k_asm); (case k5 => k_asm); (case k6 => k_is); (case k7 => k_is); (case k8 => ktr_room); (case k9 => first | exact BindsTo.of_eq rfl | exact binds_K (by k_in) rfl (by k_is) rfl rfl rfl); (case c5 => decide); (case kB => exact locs rfl); (case c2 => exact rfl); (case c3 => exact rfl); (case c4 => exact rfl); k_whole; intro g' L' h' FG' F' N' B' X' T'; (try dsimp only); (try k_lift B'); (try k_fold)))
local macro_rules | `(tactic| k_all) => `(tactic| first | assumption | exact ne_of_allLt (by assumption))

section
variable {w : World} {A : Around} {h₀ : Heap} {L x dx : Addr} {m : Str → Option Value} {news : List (Addr × Obj)} {s : Shared} {b : Array UInt8} {i e : Int} {k1 k2 k3 tb ti te : Tok} {expr : Bool} {Q E : Value → Shared → Prop}
theorem cur_data (F : Fr h₀ L s.heap m) (X₀ : (Mine.hd.heap_1 w.params).In h₀) (N : News h₀ L s.heap news) (hx : (x, instObj 155 dx) ∈ news) (hdx : (dx, curD w.params b i e k1 k2 k3 tb ti te) ∈ news)
    (h : Q (.bytes b tb) { s with toks := s.toks + 1 }) : wpAny (model PG w) A (getAttr (.ref x) (Str.ofString "data") expr) Q E s := by
  refine' get_own F X₀ (InstAt.of_news N hx hdx) ?k4 ?k5 ?k6 ?k7 ?k8 ?k9 h
  case k4 => k_is
  case k5 => k_is
  case k6 => k_is
  case k7 => k_is
  case k8 => k_get
  case k9 => k_handed
theorem cur_at (F : Fr h₀ L s.heap m) (X₀ : (Mine.hd.heap_1 w.params).In h₀) (N : News h₀ L s.heap news) (hx : (x, instObj 155 dx) ∈ news) (hdx : (dx, curD w.params b i e k1 k2 k3 tb ti te) ∈ news)
    (h : Q (.int i ti) { s with toks := s.toks + 1 }) : wpAny (model PG w) A (getAttr (.ref x) (Str.ofString "at") expr) Q E s := by
  refine' get_own F X₀ (InstAt.of_news N hx hdx) ?k4 ?k5 ?k6 ?k7 ?k8 ?k9 h
  case k4 => k_is
  case k5 => k_is
  case k6 => k_is
  case k7 => k_is
  case k8 => k_get
  case k9 => k_handed
theorem cur_end (F : Fr h₀ L s.heap m) (X₀ : (Mine.hd.heap_1 w.params).In h₀) (N : News h₀ L s.heap news) (hx : (x, instObj 155 dx) ∈ news) (hdx : (dx, curD w.params b i e k1 k2 k3 tb ti te) ∈ news)
    (h : Q (.int e te) { s with toks := s.toks + 1 }) : wpAny (model PG w) A (getAttr (.ref x) (Str.ofString "end") expr) Q E s := by
  refine' get_own F X₀ (InstAt.of_news N hx hdx) ?k4 ?k5 ?k6 ?k7 ?k8 ?k9 h
  case k4 => k_is
  case k5 => k_is
  case k6 => k_is
  case k7 => k_is
  case k8 => k_get
  case k9 => k_handed
end
local macro_rules | `(tactic| walk_at "getAttr ref") => `(tactic| (k_here; (with_reducible refine ga "data" ?_); k_dflt (refine' cur_data (by k_asm) (by k_asm) (by k_asm) (by k_mem) (by k_mem) ?_; k_whole)))
local macro_rules | `(tactic| walk_at "getAttr ref") => `(tactic| (k_here; (with_reducible refine ga "at" ?_); k_dflt (refine' cur_at (by k_asm) (by k_asm) (by k_asm) (by k_mem) (by k_mem) ?_; k_whole)))
local macro_rules | `(tactic| walk_at "getAttr ref") => `(tactic| (k_here; (with_reducible refine ga "end" ?_); k_dflt (refine' cur_end (by k_asm) (by k_asm) (by k_asm) (by k_mem) (by k_mem) ?_; k_whole)))
local macro_rules | `(tactic| walk_at "call ref") => `(tactic| (k_here; (dsimp only [List.cons_append, List.nil_append, List.append_nil])))
local macro_rules | `(tactic| walk_at "ite") => `(tactic| (k_here; k_openite; first | (refine ite_pos (by first | with_reducible assumption | omega | (simp only [decide_eq_true_eq, beq_iff_eq, bne_iff_ne, ne_eq, Bool.not_eq_true', decide_eq_false_iff_not]; first | done | assumption | omega)) ?_) | (refine ite_neg (by first | with_reducible assumption | omega | (simp only [decide_eq_true_eq, beq_iff_eq, bne_iff_ne, ne_eq, Bool.not_eq_true', decide_eq_false_iff_not]; first | done | assumption | omega)) ?_)))
local macro_rules | `(tactic| walk_at "call builtin:list.append") => `(tactic| (k_here; (with_reducible show wpAny _ _ (call (Value.builtin _) [Value.ref _, _]) _ _ _); k_dflt (refine' append_K (by k_asm) (by k_asm) (by k_upd) ?_ (by rw [sizeLine_eq]; (try simp only [List.size_toArray, List.length_append, List.length_cons, List.length_nil]); omega); k_whole); intro h' F' N'; (try k_sweep)))
local macro_rules | `(tactic| walk_at "call type:tuple") => `(tactic| (k_here; (with_reducible refine c1r ?_); k_dflt (refine' kde_tupleOf (by k_asm) (by k_asm) (News.isList (by k_asm) (by k_mem)) (by ((try simp only [List.size_toArray, List.length_append, List.length_cons, List.length_nil]); omega)) rfl ?_; k_whole); intro D' h' F' N' l1; (try k_lt l1); (try k_sweep)))
theorem bi_46 : KBw.bInts [46].toArray = [46] := rfl
theorem bi_93 : KBw.bInts [93].toArray = [93] := rfl
theorem bi_91 : KBw.bInts [91].toArray = [91] := rfl
theorem bi_32 : KBw.bInts [32].toArray = [32] := rfl
theorem bi_40 : KBw.bInts [40].toArray = [40] := rfl
theorem bi_41 : KBw.bInts [41].toArray = [41] := rfl
theorem bi_60 : KBw.bInts [60].toArray = [60] := rfl
theorem bi_62 : KBw.bInts [62].toArray = [62] := rfl
theorem lst_snoc (vs : List Value) (v : Value) : PySem.W.listOf (vs.toArray.push v) (vs.length + 1) = PySem.W.listOf (vs ++ [v]).toArray (vs ++ [v]).length := by
  rw [List.length_append, List.length_singleton, List.push_toArray]
local macro_rules | `(tactic| walk_at "ite") => `(tactic| (k_here; k_closed; k_dflt (first | refine ite_pos (by decide) ?_ | refine ite_neg (by decide) ?_)))
local macro_rules | `(tactic| k_mem) => `(tactic| assumption)

theorem calm_Cu : True := by w_top off; trivial
theorem headD_in {ks : List Int} {j : Nat} (h : j < ks.length) (d : Int) : (ks.drop j).headD d = ks.getD j 0 := by
  rw [List.getD_eq_getElem?_getD, List.headD_eq_head?_getD, List.head?_drop, List.getElem?_eq_getElem h]; rfl
theorem headD_out {ks : List Int} {j : Nat} (h : ks.length ≤ j) (d : Int) : (ks.drop j).headD d = d := by
  rw [List.drop_eq_nil_of_le h]; rfl
theorem peek_val1 {ks l : List Int} {i c : Nat} {j : Int} (hl : ks.drop (i + c) = l) (hj : j = (i : Int) + (c : Int)) (h : j < (ks.length : Int)) : ks.getD j.toNat 0 = l.headD (-1) := by
  subst hl hj
  rw [show ((i : Int) + (c : Int)).toNat = i + c by omega]
  exact (headD_in (by omega) _).symm
theorem peek_val2 {ks l : List Int} {i c : Nat} (hl : ks.drop (i + c) = l) (h : ¬ (i : Int) + (c : Int) < (ks.length : Int)) : (-1 : Int) = l.headD (-1) := by
  subst hl
  exact (headD_out (by omega) _).symm

theorem c_retB {h₀ h' : Heap} {L : Addr} {m : Str → Option Value} {news : List (Addr × Obj)} {s : Shared} {Q : Value → Shared → Prop} {tk' : Nat} {x y : Bool} (hret : ∀ (h' : Heap) (tk' : Nat), Fr h₀ L h' m → News h₀ L h' news → Q (.bool x) { s with heap := h', toks := tk' }) (e : y = x) (F : Fr h₀ L h' m) (N : News h₀ L h' news) : Q (.bool y) { s with heap := h', toks := tk' } := by
  subst e
  exact hret h' tk' F N
theorem map_toNat_inj : ∀ {x y : List UInt8}, x.map (fun c => (c.toNat : Int)) = y.map (fun c => (c.toNat : Int)) → x = y
  | [], [], _ => rfl
  | [], _ :: _, h => by simp at h
  | _ :: _, [], h => by simp at h
  | a :: x, b :: y, h => by
    simp only [List.map_cons, List.cons.injEq] at h
    have h1 : a = b := UInt8.toNat_inj.mp (by omega)
    rw [h1, map_toNat_inj h.2]
theorem bInts_beq {u v : Array UInt8} {x y : List Int} (hu : KBw.bInts u = x) (hv : KBw.bInts v = y) : (u.toList == v.toList) = decide (x = y) := by
  subst hu hv
  rw [Bool.eq_iff_iff, beq_iff_eq, decide_eq_true_iff]
  exact ⟨fun h => by unfold KBw.bInts; rw [h], fun h => map_toNat_inj h⟩
theorem prefix_take {ws l : List Int} (h : ws.length ≤ l.length) : decide (l.take ws.length = ws) = ws.isPrefixOf l := by
  rw [Bool.eq_iff_iff, decide_eq_true_iff, List.isPrefixOf_iff_prefix]
  exact ⟨fun h => ⟨l.drop ws.length, by conv => lhs; rw [← h]; rw [List.length_take, Nat.min_eq_left (by assumption)]
                                        exact List.take_append_drop _ _⟩, fun ⟨r, hr⟩ => by rw [← hr, List.take_left']; rfl⟩
theorem starts_val1 {b v : Array UInt8} {ks ws l : List Int} {i : Nat} (hb : KBw.bInts b = ks) (hv : KBw.bInts v = ws) (hl : ks.drop i = l) (h : (i : Int) + (ws.length : Int) ≤ (ks.length : Int)) :
    ((KBy.picked b (some (i : Int)) (some ((i : Int) + (ws.length : Int)))).toList == v.toList) = ws.isPrefixOf l := by
  have hp := KBc.ints_picked hb (some (i : Int)) (some ((i : Int) + (ws.length : Int)))
  simp only [Option.elim] at hp
  rw [show (i : Int) + (ws.length : Int) = ((i + ws.length : Nat) : Int) by omega, clipAt_nat, clipAt_nat, Nat.min_eq_left (by omega), Nat.min_eq_left (by omega), hl, Nat.add_sub_cancel_left] at hp
  rw [show (i : Int) + (ws.length : Int) = ((i + ws.length : Nat) : Int) by omega, bInts_beq hp hv]
  exact prefix_take (by rw [← hl, List.length_drop]; omega)
theorem starts_val2 {ks ws l : List Int} {i : Nat} (hl : ks.drop i = l) (hi : i ≤ ks.length) (h : ¬ (i : Int) + (ws.length : Int) ≤ (ks.length : Int)) :
    decide ((i : Int) + (ws.length : Int) ≤ (ks.length : Int)) = ws.isPrefixOf l := by
  rw [decide_eq_false h]
  symm
  rw [Bool.eq_false_iff]
  intro e
  have := (List.isPrefixOf_iff_prefix.mp e).length_le
  rw [← hl, List.length_drop] at this
  omega

section
variable {w : World} {dp un : Nat} {gd : Option (List Code)} {cn : Str} {cs : Scope} {a : Addr} {ccd : Value} {cl : List (Str × Addr)} {outer : List Env} {A₀ : Around} {base h₀ : Heap} {L : Addr} {m : Str → Option Value} {news : List (Addr × Obj)} {p : Program} {loose : List Str} {mean : ExcName → Option Value} {mg mb : Str → Option Value} {s : Shared} {Q E : Value → Shared → Prop}

theorem peek_c (Z : Amb w cs outer A₀ base h₀ L s.heap m news p loose mean mg mb) (hd : dp + 1 < recursionLimit) (hu : un + 8 < cLine)
    {x dx : Addr} {b : Array UInt8} {ks : List Int} {i : Nat} {k1 k2 k3 tb ti te : Tok} (hx : (x, instObj 155 dx) ∈ news) (hdx : (dx, curD w.params b i ks.length k1 k2 k3 tb ti te) ∈ news)
    (hb : KBw.bInts b = ks) (hn : ks.length ≤ 1000)
    (c : Nat) (t : Tok) (hc : c ≤ 10) {l : List Int} (hl : ks.drop (i + c) = l)
    (ret : ∀ t' h' tk', Fr h₀ L h' m → News h₀ L h' news → Q (.int (l.headD (-1)) t') { s with heap := h', toks := tk' }) :
    wpAny (model PG w) (ktrTop dp un gd cn cs L a ccd cl outer) (call (.ref 103) [.ref x, .int c t]) Q E s := by
  obtain ⟨B, F, X, N, T, hk⟩ := Z
  refine wpAny_call ?_
  k_dflt cell_enter
  k_steps
  · exact cb_retI ret (peek_val1 hl rfl (by assumption)) (by k_asm) (by k_asm)
  · exact cb_retI ret (peek_val2 hl (by assumption)) (by k_asm) (by k_asm)
theorem peek0_c (Z : Amb w cs outer A₀ base h₀ L s.heap m news p loose mean mg mb) (hd : dp + 1 < recursionLimit) (hu : un + 8 < cLine)
    {x dx : Addr} {b : Array UInt8} {ks : List Int} {i : Nat} {k1 k2 k3 tb ti te : Tok} (hx : (x, instObj 155 dx) ∈ news) (hdx : (dx, curD w.params b i ks.length k1 k2 k3 tb ti te) ∈ news)
    (hb : KBw.bInts b = ks) (hn : ks.length ≤ 1000) {l : List Int} (hl : ks.drop i = l)
    (ret : ∀ t' h' tk', Fr h₀ L h' m → News h₀ L h' news → Q (.int (l.headD (-1)) t') { s with heap := h', toks := tk' }) :
    wpAny (model PG w) (ktrTop dp un gd cn cs L a ccd cl outer) (call (.ref 103) [.ref x]) Q E s := by
  obtain ⟨B, F, X, N, T, hk⟩ := Z
  refine wpAny_call ?_
  k_dflt cell_enter
  k_steps
  · exact cb_retI ret (peek_val1 (c := 0) hl rfl (by assumption)) (by k_asm) (by k_asm)
  · exact cb_retI ret (peek_val2 (c := 0) hl (by assumption)) (by k_asm) (by k_asm)
end
local macro_rules | `(tactic| walk_at "call ref") => `(tactic| (k_here; (with_reducible refine cr1 103 ?_); k_dflt (refine' peek0_c (by walk_at "amb") (by ktr_room) (by ktr_units) (by k_mem) (by k_mem) ‹_› (by walk_at "ao") (by walk_at "ar") ?_; walk_at "finh5")))
section
variable {w : World} {dp un : Nat} {gd : Option (List Code)} {cn : Str} {cs : Scope} {a : Addr} {ccd : Value} {cl : List (Str × Addr)} {outer : List Env} {A₀ : Around} {base h₀ : Heap} {L : Addr} {m : Str → Option Value} {news : List (Addr × Obj)} {p : Program} {loose : List Str} {mean : ExcName → Option Value} {mg mb : Str → Option Value} {s : Shared} {Q E : Value → Shared → Prop}

theorem take_c (Z : Amb w cs outer A₀ base h₀ L s.heap m news p loose mean mg mb) (hd : dp + 2 < recursionLimit) (hu : un + 16 < cLine)
    {x dx : Addr} {b : Array UInt8} {ks : List Int} {i : Nat} {k1 k2 k3 tb ti te : Tok} {g : Obj → List (Addr × Obj)} (hx : (x, instObj 155 dx) ∈ news) (hU : UpdF dx (curD w.params b i ks.length k1 k2 k3 tb ti te) news g)
    (hb : KBw.bInts b = ks) (hn : ks.length ≤ 1000) {c : Int} {r : List Int} (hl : ks.drop i = c :: r) (hc : 0 ≤ c)
    (ret : ∀ t' ti' h' tk', Fr h₀ L h' m → News h₀ L h' (g (curD w.params b (i + 1 : Nat) ks.length k1 k2 k3 tb ti' te)) → ks.drop (i + 1) = r → Q (.int c t') { s with heap := h', toks := tk' }) :
    wpAny (model PG w) (ktrTop dp un gd cn cs L a ccd cl outer) (call (.ref 110) [.ref x]) Q E s := by
  obtain ⟨B, F, X, N, T, hk⟩ := Z
  obtain ⟨R, hR, hxd, N, back⟩ := cur_open N hx hU (by intro e; cases e)
  have hr : ks.drop (i + 1) = r := by rw [← List.drop_drop, hl]; rfl
  refine wpAny_call ?_
  k_dflt cell_enter
  k_steps
  exact ret _ _ _ _ (by k_asm) (back _ _ (by k_asm)) hr

theorem starts_c (Z : Amb w cs outer A₀ base h₀ L s.heap m news p loose mean mg mb) (hd : dp + 1 < recursionLimit) (hu : un + 8 < cLine)
    {x dx : Addr} {b v : Array UInt8} {ks ws : List Int} {i : Nat} {k1 k2 k3 tb ti te tv : Tok} (hx : (x, instObj 155 dx) ∈ news) (hdx : (dx, curD w.params b i ks.length k1 k2 k3 tb ti te) ∈ news)
    (hb : KBw.bInts b = ks) (hn : ks.length ≤ 1000) (hv : KBw.bInts v = ws) (hvn : ws.length ≤ 1000) {l : List Int} (hl : ks.drop i = l) (hi : i ≤ ks.length)
    (ret : ∀ h' tk', Fr h₀ L h' m → News h₀ L h' news → Q (.bool (ws.isPrefixOf l)) { s with heap := h', toks := tk' }) :
    wpAny (model PG w) (ktrTop dp un gd cn cs L a ccd cl outer) (call (.ref 117) [.ref x, .bytes v tv]) Q E s := by
  obtain ⟨B, F, X, N, T, hk⟩ := Z
  refine wpAny_call ?_
  k_dflt cell_enter
  k_steps
  · exact c_retB ret (starts_val1 hb hv hl (by assumption)) (by k_asm) (by k_asm)
  · exact c_retB ret (starts_val2 hl hi (by assumption)) (by k_asm) (by k_asm)
end
local macro_rules | `(tactic| walk_at "call ref") => `(tactic| (k_here; (with_reducible refine cr2 117 ?_); k_dflt (refine' starts_c (by walk_at "amb") (by ktr_room) (by ktr_units) (by k_mem) (by k_mem) ‹_› (by walk_at "ao") (by walk_at "ar") (by first | assumption | decide) (by walk_at "ar") (by walk_at "ao") ?_; walk_at "fin4")))
section
variable {w : World} {dp un : Nat} {gd : Option (List Code)} {cn : Str} {cs : Scope} {a : Addr} {ccd : Value} {cl : List (Str × Addr)} {outer : List Env} {A₀ : Around} {base h₀ : Heap} {L : Addr} {m : Str → Option Value} {news : List (Addr × Obj)} {p : Program} {loose : List Str} {mean : ExcName → Option Value} {mg mb : Str → Option Value} {s : Shared} {Q E : Value → Shared → Prop}

theorem skip_yes (Z : Amb w cs outer A₀ base h₀ L s.heap m news p loose mean mg mb) (hd : dp + 2 < recursionLimit) (hu : un + 16 < cLine)
    {x dx : Addr} {b v : Array UInt8} {ks ws r : List Int} {i : Nat} {k1 k2 k3 tb ti te tv : Tok} {g : Obj → List (Addr × Obj)} (hx : (x, instObj 155 dx) ∈ news) (hU : UpdF dx (curD w.params b i ks.length k1 k2 k3 tb ti te) news g)
    (hb : KBw.bInts b = ks) (hn : ks.length ≤ 1000) (hv : KBw.bInts v = ws) (hvn : ws.length ≤ 1000) (hl : ks.drop i = ws ++ r) (hi : i ≤ ks.length)
    (ret : ∀ ti' h' tk', Fr h₀ L h' m → News h₀ L h' (g (curD w.params b (i + ws.length : Nat) ks.length k1 k2 k3 tb ti' te)) → ks.drop (i + ws.length) = r → i + ws.length ≤ ks.length → Q (.bool true) { s with heap := h', toks := tk' }) :
    wpAny (model PG w) (ktrTop dp un gd cn cs L a ccd cl outer) (call (.ref 124) [.ref x, .bytes v tv]) Q E s := by
  obtain ⟨B, F, X, N, T, hk⟩ := Z
  obtain ⟨R, hR, hxd, N, back⟩ := cur_open N hx hU (by intro e; cases e)
  have hr : ks.drop (i + ws.length) = r := by rw [← List.drop_drop, hl]; simp
  have hlen : i + ws.length ≤ ks.length := by
    have := congrArg List.length hl
    simp only [List.length_drop, List.length_append] at this
    omega
  have hp : ws.isPrefixOf (ws ++ r) = true := by rw [List.isPrefixOf_iff_prefix]; exact ⟨r, rfl⟩
  refine wpAny_call ?_
  k_dflt cell_enter
  k_steps
  exact ret _ _ _ (by k_asm) (back _ _ (by k_asm)) hr hlen
theorem skip_no (Z : Amb w cs outer A₀ base h₀ L s.heap m news p loose mean mg mb) (hd : dp + 2 < recursionLimit) (hu : un + 16 < cLine)
    {x dx : Addr} {b v : Array UInt8} {ks ws l : List Int} {i : Nat} {k1 k2 k3 tb ti te tv : Tok} (hx : (x, instObj 155 dx) ∈ news) (hdx : (dx, curD w.params b i ks.length k1 k2 k3 tb ti te) ∈ news)
    (hb : KBw.bInts b = ks) (hn : ks.length ≤ 1000) (hv : KBw.bInts v = ws) (hvn : ws.length ≤ 1000) (hl : ks.drop i = l) (hi : i ≤ ks.length) (hp : ws.isPrefixOf l = false)
    (ret : ∀ h' tk', Fr h₀ L h' m → News h₀ L h' news → Q (.bool false) { s with heap := h', toks := tk' }) :
    wpAny (model PG w) (ktrTop dp un gd cn cs L a ccd cl outer) (call (.ref 124) [.ref x, .bytes v tv]) Q E s := by
  obtain ⟨B, F, X, N, T, hk⟩ := Z
  refine wpAny_call ?_
  k_dflt cell_enter
  k_steps
  exact ret _ _ (by k_asm) (by k_asm)
theorem is_done_c (Z : Amb w cs outer A₀ base h₀ L s.heap m news p loose mean mg mb) (hd : dp + 1 < recursionLimit) (hu : un + 8 < cLine)
    {x dx : Addr} {b : Array UInt8} {ks : List Int} {i : Nat} {k1 k2 k3 tb ti te : Tok} (hx : (x, instObj 155 dx) ∈ news) (hdx : (dx, curD w.params b i ks.length k1 k2 k3 tb ti te) ∈ news)
    (hn : ks.length ≤ 1000) (hl : ks.drop i = []) 
    (ret : ∀ h' tk', Fr h₀ L h' m → News h₀ L h' news → Q (.bool true) { s with heap := h', toks := tk' }) :
    wpAny (model PG w) (ktrTop dp un gd cn cs L a ccd cl outer) (call (.ref 95) [.ref x]) Q E s := by
  obtain ⟨B, F, X, N, T, hk⟩ := Z
  have hi : ks.length ≤ i := by simpa using hl
  refine wpAny_call ?_
  k_dflt cell_enter
  k_steps
  exact c_retB ret (by rw [decide_eq_true_iff]; omega) (by k_asm) (by k_asm)
end

theorem mem_bInts {b : Array UInt8} {k : Int} (h0 : 0 ≤ k) (h1 : k < 256) : b.contains k.toNat.toUInt8 = decide (k ∈ KBw.bInts b) := by
  rw [Bool.eq_iff_iff, decide_eq_true_iff, Array.contains_iff_mem, ← Array.mem_toList_iff]
  unfold KBw.bInts
  rw [List.mem_map]
  have e : (k.toNat.toUInt8).toNat = k.toNat := by
    simp only [Nat.toUInt8, UInt8.toNat_ofNat']
    omega
  constructor
  · intro h
    exact ⟨_, h, by rw [e]; omega⟩
  · rintro ⟨c, hc, hk⟩
    have : c = k.toNat.toUInt8 := UInt8.toNat_inj.mp (by rw [e]; omega)
    rw [← this]; exact hc
theorem gives_bytes_in (b : Array UInt8) (k : Int) (t u : Tok) (h0 : 0 ≤ k) (h1 : k < 256) : Gives (Builtin.«bytes.__contains__» ⟨[.bytes b t, .int k u], []⟩) (.val (.bool (decide (k ∈ KBw.bInts b)))) := by
  refine .of_wp fun M A E s Q hq => ?_
  show wpAny M A (Builtin.Bytes.containsIn "bytes.__contains__" (.bytes b t) (.int k u) >>= fun r => _) _ E s
  refine wpAny_bind ?_
  unfold Builtin.Bytes.containsIn
  refine wpAny_bind (wpAny_attempt (wpAny_of_eq (rfl : asIndex (.int k u) = pure k) ?_))
  refine wpAny_bind (wpAny_of_eq KBy.buffer_eq ?_)
  show wpAny M A (if (decide (k < 0) || decide (k ≥ 256)) = true then _ else _) _ E s
  rw [if_neg (by simp; omega)]
  rw [mem_bInts h0 h1]
  exact wpAny_pure (wpAny_pure ⟨_, rfl, hq⟩)
theorem in_bytes {prog : Program} {w : World} {A : Around} {E : Value → Shared → Prop} {s : Shared} {b : Array UInt8} {ws : List Int} {k : Int} {t u : Tok} {Q : Value → Shared → Prop} (hv : KBw.bInts b = ws) (h0 : 0 ≤ k) (h1 : k < 256) (h : Q (.bool (decide (k ∈ ws))) s) :
    wpAny (model prog w) A (compareOp .In (.int k u) (.bytes b t)) Q E s :=
  in_gives rfl FB.slot_bytes_contains FB.entry_bytes_contains (FB.args_bytes_contains_2 _ _) (gives_bytes_in b k t u h0 h1) (by rw [hv]; exact h)
theorem notin_bytes {prog : Program} {w : World} {A : Around} {E : Value → Shared → Prop} {s : Shared} {b : Array UInt8} {ws : List Int} {k : Int} {t u : Tok} {Q : Value → Shared → Prop} (hv : KBw.bInts b = ws) (h0 : 0 ≤ k) (h1 : k < 256) (h : Q (.bool (!decide (k ∈ ws))) s) :
    wpAny (model prog w) A (compareOp .NotIn (.int k u) (.bytes b t)) Q E s :=
  notIn_gives rfl FB.slot_bytes_contains FB.entry_bytes_contains (FB.args_bytes_contains_2 _ _) (gives_bytes_in b k t u h0 h1) (by rw [hv]; exact h)

theorem calm_Cv : True := by w_top off; trivial
section
variable {w : World} {dp un : Nat} {gd : Option (List Code)} {cn : Str} {cs : Scope} {a : Addr} {ccd : Value} {cl : List (Str × Addr)} {outer : List Env} {A₀ : Around} {base h₀ : Heap} {L : Addr} {m : Str → Option Value} {news : List (Addr × Obj)} {p : Program} {loose : List Str} {mean : ExcName → Option Value} {mg mb : Str → Option Value} {s : Shared} {Q E : Value → Shared → Prop}
theorem skip1_yes (Z : Amb w cs outer A₀ base h₀ L s.heap m news p loose mean mg mb) (hd : dp + 2 < recursionLimit) (hu : un + 16 < cLine)
    {x dx : Addr} {b v : Array UInt8} {ks r : List Int} {c : Int} {i : Nat} {k1 k2 k3 tb ti te tv : Tok} {g : Obj → List (Addr × Obj)} (hx : (x, instObj 155 dx) ∈ news) (hU : UpdF dx (curD w.params b i ks.length k1 k2 k3 tb ti te) news g)
    (hb : KBw.bInts b = ks) (hn : ks.length ≤ 1000) (hl : ks.drop i = c :: r) (hv : KBw.bInts v = [c])
    (ret : ∀ ti' h' tk', Fr h₀ L h' m → News h₀ L h' (g (curD w.params b (i + 1 : Nat) ks.length k1 k2 k3 tb ti' te)) → ks.drop (i + 1) = r → Q (.bool true) { s with heap := h', toks := tk' }) :
    wpAny (model PG w) (ktrTop dp un gd cn cs L a ccd cl outer) (call (.ref 124) [.ref x, .bytes v tv]) Q E s :=
  skip_yes Z hd hu hx hU hb hn hv (by simp) (ws := [c]) hl (by have := congrArg List.length hl; simp at this; omega) fun ti' h' tk' F N e _ => ret ti' h' tk' F N e
theorem skip1_no (Z : Amb w cs outer A₀ base h₀ L s.heap m news p loose mean mg mb) (hd : dp + 2 < recursionLimit) (hu : un + 16 < cLine)
    {x dx : Addr} {b v : Array UInt8} {ks l : List Int} {c : Int} {i : Nat} {k1 k2 k3 tb ti te tv : Tok} (hx : (x, instObj 155 dx) ∈ news) (hdx : (dx, curD w.params b i ks.length k1 k2 k3 tb ti te) ∈ news)
    (hb : KBw.bInts b = ks) (hn : ks.length ≤ 1000) (hl : ks.drop i = l) (hi : i ≤ ks.length) (hv : KBw.bInts v = [c]) (hp : l.headD (-1) ≠ c) (hc : c ≠ -1)
    (ret : ∀ h' tk', Fr h₀ L h' m → News h₀ L h' news → Q (.bool false) { s with heap := h', toks := tk' }) :
    wpAny (model PG w) (ktrTop dp un gd cn cs L a ccd cl outer) (call (.ref 124) [.ref x, .bytes v tv]) Q E s :=
  skip_no Z hd hu hx hdx hb hn hv (by simp) hl hi (by
    cases l with
    | nil => rfl
    | cons d r => simp only [List.headD_cons] at hp; simp [List.isPrefixOf]; exact fun e => hp e.symm) ret
theorem starts1_c (Z : Amb w cs outer A₀ base h₀ L s.heap m news p loose mean mg mb) (hd : dp + 1 < recursionLimit) (hu : un + 8 < cLine)
    {x dx : Addr} {b v : Array UInt8} {ks : List Int} {c : Int} {i : Nat} {k1 k2 k3 tb ti te tv : Tok} (hx : (x, instObj 155 dx) ∈ news) (hdx : (dx, curD w.params b i ks.length k1 k2 k3 tb ti te) ∈ news)
    (hb : KBw.bInts b = ks) (hn : ks.length ≤ 1000) {l : List Int} (hl : ks.drop i = l) (hi : i ≤ ks.length) (hv : KBw.bInts v = [c]) (hc : 0 ≤ c)
    (ret : ∀ h' tk', Fr h₀ L h' m → News h₀ L h' news → Q (.bool (l.headD (-1) == c)) { s with heap := h', toks := tk' }) :
    wpAny (model PG w) (ktrTop dp un gd cn cs L a ccd cl outer) (call (.ref 117) [.ref x, .bytes v tv]) Q E s :=
  starts_c Z hd hu hx hdx hb hn hv (by simp) hl hi fun h' tk' F N => by
    have e : [c].isPrefixOf l = (l.headD (-1) == c) := by
      cases l with
      | nil => simp [List.isPrefixOf]; omega
      | cons d r =>
        simp only [List.isPrefixOf, List.headD_cons]
        rw [Bool.and_true, Bool.eq_iff_iff, beq_iff_eq, beq_iff_eq]
        exact ⟨Eq.symm, Eq.symm⟩
    rw [e]; exact ret h' tk' F N
end
local macro_rules | `(tactic| walk_at "bi") => `(tactic| first | assumption | exact bi_46 | exact bi_93 | exact bi_91 | exact bi_32 | exact bi_40 | exact bi_41 | exact bi_60 | exact bi_62)
local macro_rules | `(tactic| walk_at "compareOp In int bytes") => `(tactic| (k_here; (refine in_bytes (by first | assumption | rfl) (by walk_at "ao") (by walk_at "ao") ?_)))
local macro_rules | `(tactic| walk_at "compareOp NotIn int bytes") => `(tactic| (k_here; (refine notin_bytes (by first | assumption | rfl) (by walk_at "ao") (by walk_at "ao") ?_)))
local macro_rules | `(tactic| walk_at "call ref") => `(tactic| (k_here; (with_reducible refine cr2 117 ?_); k_dflt (refine' starts1_c (by walk_at "amb") (by ktr_room) (by ktr_units) (by k_mem) (by k_mem) ‹_› (by walk_at "ao") (by walk_at "ar") (by walk_at "ao") (by walk_at "bi") (by decide) ?_; walk_at "finh4")))
local macro_rules | `(tactic| walk_at "call ref") => `(tactic| (k_here; (with_reducible refine cr2 124 ?_); k_dflt (first
  | (refine' skip1_yes (by walk_at "amb") (by ktr_room) (by ktr_units) (by k_mem) (by k_updF) ‹_› (by walk_at "ao") ‹_› (by walk_at "bi") ?_; walk_at "fin6")
  | (refine' skip1_no (by walk_at "amb") (by ktr_room) (by ktr_units) (by k_mem) (by k_mem) ‹_› (by walk_at "ao") ‹_› (by walk_at "ao") (by walk_at "bi") (by first | assumption | (dsimp only [List.headD_cons, List.headD_nil]; omega) | decide) (by decide) ?_; walk_at "fin4"))))
local macro_rules | `(tactic| walk_at "call ref") => `(tactic| (k_here; (with_reducible refine cr1 110 ?_); k_dflt (refine' take_c (by walk_at "amb") (by ktr_room) (by ktr_units) (by k_mem) (by k_updF) ‹_› (by walk_at "ao") ‹_› (by first | assumption | omega | decide) ?_; walk_at "fin7")))
local macro_rules | `(tactic| walk_at "call ref") => `(tactic| (k_here; (with_reducible refine cr2 103 ?_); k_dflt (refine' peek_c (by walk_at "amb") (by ktr_room) (by ktr_units) (by k_mem) (by k_mem) ‹_› (by walk_at "ao") 1 _ (by decide) (by walk_at "ar") ?_; walk_at "finh5")))
local macro_rules | `(tactic| walk_at "call ref") => `(tactic| (k_here; (with_reducible refine cr1 95 ?_); k_dflt (refine' is_done_c (by walk_at "amb") (by ktr_room) (by ktr_units) (by k_mem) (by k_mem) (by walk_at "ao") ‹_› ?_; walk_at "fin4")))

section
variable {w : World} {dp un : Nat} {gd : Option (List Code)} {cn : Str} {cs : Scope} {a : Addr} {ccd : Value} {cl : List (Str × Addr)} {outer : List Env} {A₀ : Around} {base h₀ : Heap} {L : Addr} {m : Str → Option Value} {news : List (Addr × Obj)} {p : Program} {loose : List Str} {mean : ExcName → Option Value} {mg mb : Str → Option Value} {s : Shared} {Q E : Value → Shared → Prop}

theorem need_c (Z : Amb w cs outer A₀ base h₀ L s.heap m news p loose mean mg mb) (hd : dp + 3 < recursionLimit) (hu : un + 24 < cLine)
    {x dx : Addr} {b v : Array UInt8} {ks r : List Int} {c : Int} {i : Nat} {k1 k2 k3 tb ti te tv : Tok} {g : Obj → List (Addr × Obj)} (hx : (x, instObj 155 dx) ∈ news) (hU : UpdF dx (curD w.params b i ks.length k1 k2 k3 tb ti te) news g)
    (hb : KBw.bInts b = ks) (hn : ks.length ≤ 1000) (hl : ks.drop i = c :: r) (hv : KBw.bInts v = [c])
    (ret : ∀ ti' h' tk', Fr h₀ L h' m → News h₀ L h' (g (curD w.params b (i + 1 : Nat) ks.length k1 k2 k3 tb ti' te)) → ks.drop (i + 1) = r → Q .none { s with heap := h', toks := tk' }) :
    wpAny (model PG w) (ktrTop dp un gd cn cs L a ccd cl outer) (call (.ref 208) [.ref x, .bytes v tv]) Q E s := by
  obtain ⟨B, F, X, N, T, hk⟩ := Z
  obtain ⟨R, hR, hxd, N, back⟩ := cur_open N hx hU (by intro e; cases e)
  refine wpAny_call ?_
  k_dflt cell_enter
  k_steps
  exact ret _ _ _ (by k_asm) (back _ _ (by k_asm)) (by assumption)
end
local macro_rules | `(tactic| walk_at "call ref") => `(tactic| (k_here; (with_reducible refine cr2 208 ?_); k_dflt (refine' need_c (by walk_at "amb") (by ktr_room) (by ktr_units) (by k_mem) (by k_updF) ‹_› (by walk_at "ao") ‹_› (by walk_at "bi") ?_; walk_at "fin6")))
/-- a halt for the walk -/
def Halt (P : Prop) : Prop := P
theorem Halt.go {P : Prop} (h : Halt P) : P := h
local macro_rules | `(tactic| walk_at "exec While Compare cons nil") => `(tactic| (k_here; refine Halt.go ?_))
local macro_rules | `(tactic| walk_at "exec While BoolOp cons nil") => `(tactic| (k_here; refine Halt.go ?_))
local macro_rules | `(tactic| walk_at "exec While Call cons nil") => `(tactic| (k_here; refine Halt.go ?_))
local macro_rules | `(tactic| walk_at "exec While Constant cons nil") => `(tactic| (k_here; refine Halt.go ?_))
local macro_rules | `(tactic| walk_at "KswEnd nil") => `(tactic| (refine Halt.go ?_))
local macro_rules | `(tactic| walk_at "KswEnd cons") => `(tactic| (refine Halt.go ?_))
local macro_rules | `(tactic| walk_at "KswEnd") => `(tactic| (refine Halt.go ?_))
theorem tw_len {ks t r : List Int} {i : Nat} (hi : i ≤ ks.length) (hl : ks.drop i = t ++ r) : i + t.length + r.length = ks.length := by
  have := congrArg List.length hl
  simp only [List.length_drop, List.length_append] at this
  omega
theorem tw_in {ks t r ws : List Int} {i j : Nat} (hl : ks.drop i = t ++ r) (hj : j < t.length) (ht : ∀ c ∈ t, c ∈ ws) : ks.getD (i + j) 0 ∈ ws := by
  have e : ks[i + j]? = some t[j] := by rw [← List.getElem?_drop, hl, List.getElem?_append_left hj, List.getElem?_eq_getElem hj]
  rw [List.getD_eq_getElem?_getD, e]
  exact ht _ (List.getElem_mem hj)
theorem tw_out {ks t r ws : List Int} {i : Nat} (hl : ks.drop i = t ++ r) (hi : i + t.length < ks.length) (hr : ∀ c ∈ r.head?, c ∉ ws) : ks.getD (i + t.length) 0 ∉ ws := by
  have e : ks[i + t.length]? = r.head? := by rw [← List.getElem?_drop, hl, List.getElem?_append_right (Nat.le_refl _), Nat.sub_self, List.head?_eq_getElem?]
  rw [List.getD_eq_getElem?_getD]
  cases q : r.head? with
  | none => rw [q] at e; rw [List.getElem?_eq_none_iff] at e; omega
  | some c => rw [e, q]; exact hr c q
theorem tw_pick {b : Array UInt8} {ks t r : List Int} {i : Nat} (hb : KBw.bInts b = ks) (hi : i ≤ ks.length) (hl : ks.drop i = t ++ r) : KBw.bInts (KBy.picked b (some (i : Int)) (some ((i + t.length : Nat) : Int))) = t := by
  have hp := KBc.ints_picked hb (some (i : Int)) (some ((i + t.length : Nat) : Int))
  have hn := tw_len hi hl
  simp only [Option.elim] at hp
  rw [clipAt_nat, clipAt_nat, Nat.min_eq_left (by omega), Nat.min_eq_left (by omega), hl, Nat.add_sub_cancel_left, List.take_left'] at hp
  · exact hp
  · rfl
theorem take_while_c {w : World} {dp un : Nat} {gd : Option (List Code)} {cn : Str} {cs : Scope} {a : Addr} {ccd : Value} {cl : List (Str × Addr)} {outer : List Env} {A₀ : Around} {base h₀ : Heap} {L : Addr} {m : Str → Option Value} {news : List (Addr × Obj)} {p : Program} {loose : List Str} {mean : ExcName → Option Value} {mg mb : Str → Option Value} {s : Shared} {Q E : Value → Shared → Prop}
    (Z : Amb w cs outer A₀ base h₀ L s.heap m news p loose mean mg mb) (hd : dp + 2 < recursionLimit) (hu : un + 16 < cLine)
    {x dx : Addr} {b v : Array UInt8} {ks ws t r : List Int} {i : Nat} {k1 k2 k3 tb ti te tv : Tok} {g : Obj → List (Addr × Obj)} (hx : (x, instObj 155 dx) ∈ news) (hU : UpdF dx (curD w.params b i ks.length k1 k2 k3 tb ti te) news g)
    (hb : KBw.bInts b = ks) (hn : ks.length ≤ 1000) (hv : KBw.bInts v = ws) (hi : i ≤ ks.length) (hl : ks.drop i = t ++ r) (ht : ∀ c ∈ t, c ∈ ws) (hr : ∀ c ∈ r.head?, c ∉ ws)
    (ret : ∀ o to ti' h' tk', Fr h₀ L h' m → News h₀ L h' (g (curD w.params b (i + t.length : Nat) ks.length k1 k2 k3 tb ti' te)) → KBw.bInts o = t → ks.drop (i + t.length) = r → Q (.bytes o to) { s with heap := h', toks := tk' }) :
    wpAny (model PG w) (ktrTop dp un gd cn cs L a ccd cl outer) (call (.ref 131) [.ref x, .bytes v tv]) Q E s := by
  obtain ⟨B, F, X, N, T, hk⟩ := Z
  obtain ⟨R, hR, hxd, N, back⟩ := cur_open N hx hU (by intro e; cases e)
  refine wpAny_call ?_
  k_dflt cell_enter
  k_steps
  unfold Halt
  rename Fr _ _ _ _ => F9
  rename News _ _ _ _ => N9
  have hlen := tw_len hi hl
  with_unfolding_all refine' ksw_while (σ := Nat × Tok) (fun c => (dx, curD w.params b ((i + c.1 : Nat) : Int) ks.length k1 k2 k3 tb c.2 te) :: (x, instObj 155 dx) :: R) (fun _ => []) (fun _ => True) [] (fun c => c.1 ≤ t.length) (fun c => t.length - c.1) (0, ti) F9 N9 trivial (by intro p hp; cases hp) (Nat.zero_le _) ?_ ?_
  rotate_left
  · passes_own
  clear F9 N9
  intro c u h tk _ hj F9 N9
  obtain ⟨j, tj⟩ := c
  dsimp only at hj F9 N9
  try k_fold
  k_steps
  all_goals simp only [Int.toNat_natCast, decide_eq_true_eq, decide_eq_false_iff_not] at *
  · have hj' : j < t.length := by
      rcases Nat.lt_or_ge j t.length with q | q
      · exact q
      · have e : j = t.length := by omega
        subst e
        exact absurd (by assumption) (tw_out hl (by omega) hr)
    exact ksw_end (j + 1, _) (by assumption) (by assumption) (fun p hp => hp) trivial (fun p hp => nomatch hp) (fun _ _ _ => rfl) hj' (by dsimp only; omega)
  · have hj' : j = t.length := by
      rcases Nat.lt_or_ge j t.length with q | q
      · exact absurd (tw_in hl q ht) (by assumption)
      · omega
    subst hj'
    exact ret _ _ _ _ _ (by k_asm) (back _ _ (by k_asm)) (tw_pick hb hi hl) (by rw [← List.drop_drop, hl]; simp)
  · have hj' : j = t.length := by omega
    subst hj'
    exact ret _ _ _ _ _ (by k_asm) (back _ _ (by k_asm)) (tw_pick hb hi hl) (by rw [← List.drop_drop, hl]; simp)

theorem calm_Nu : True := by w_top off; trivial
/-- the number that figures tell -/
def valF (ds : List Int) : Int := ds.foldl (fun a c => a * 10 + c - 48) 0
theorem int_eq {x y : Int} {t : Tok} (h : x = y) : some (Value.int x t) = some (Value.int y t) := by rw [h]
theorem valF_snoc (ds : List Int) (d : Int) : valF (ds ++ [d]) = valF ds * 10 + d - 48 := by unfold valF; rw [List.foldl_append]; rfl
theorem take_succ_of_drop {ds rest : List Int} {j : Nat} {d : Int} (h : ds.drop j = d :: rest) : ds.take (j + 1) = ds.take j ++ [d] := by
  have e : ds[j]? = some d := by
    have := congrArg List.head? h
    rw [List.head?_drop] at this
    exact this
  rw [List.take_add_one, e]; rfl
theorem lt_of_drop {ds rest : List Int} {j : Nat} {d : Int} (h : ds.drop j = d :: rest) : j < ds.length := by
  have := congrArg List.length h
  simp only [List.length_drop, List.length_cons] at this
  omega
theorem eq_of_drop {ds : List Int} {j : Nat} (hj : j ≤ ds.length) (h : ds.drop j = []) : j = ds.length := by
  have := congrArg List.length h
  simp only [List.length_drop, List.length_nil] at this
  omega
theorem number_c {w : World} {dp un : Nat} {gd : Option (List Code)} {cn : Str} {cs : Scope} {a : Addr} {ccd : Value} {cl : List (Str × Addr)} {outer : List Env} {A₀ : Around} {base h₀ : Heap} {L : Addr} {m : Str → Option Value} {news : List (Addr × Obj)} {p : Program} {loose : List Str} {mean : ExcName → Option Value} {mg mb : Str → Option Value} {s : Shared} {Q E : Value → Shared → Prop}
    (Z : Amb w cs outer A₀ base h₀ L s.heap m news p loose mean mg mb) (hd : dp + 3 < recursionLimit) (hu : un + 24 < cLine)
    {x dx : Addr} {b : Array UInt8} {ks ds r : List Int} {i : Nat} {k1 k2 k3 tb ti te : Tok} {g : Obj → List (Addr × Obj)} (hx : (x, instObj 155 dx) ∈ news) (hU : UpdF dx (curD w.params b i ks.length k1 k2 k3 tb ti te) news g)
    (hb : KBw.bInts b = ks) (hn : ks.length ≤ 1000) (hl : ks.drop i = ds ++ r) (hds : ∀ c ∈ ds, 48 ≤ c ∧ c ≤ 57) (h0 : 0 < ds.length) (h20 : ds.length ≤ 20) (hr : r.headD (-1) < 48 ∨ 57 < r.headD (-1))
    (ret : ∀ t' ti' h' tk', Fr h₀ L h' m → News h₀ L h' (g (curD w.params b (i + ds.length : Nat) ks.length k1 k2 k3 tb ti' te)) → ks.drop (i + ds.length) = r → Q (.int (valF ds) t') { s with heap := h', toks := tk' }) :
    wpAny (model PG w) (ktrTop dp un gd cn cs L a ccd cl outer) (call (.ref 145) [.ref x]) Q E s := by
  obtain ⟨B, F, X, N, T, hk⟩ := Z
  obtain ⟨R, hR, hxd, N, back⟩ := cur_open N hx hU (by intro e; cases e)
  refine wpAny_call ?_
  k_dflt cell_enter
  k_steps
  unfold Halt
  rename Fr _ _ _ _ => F9
  rename News _ _ _ _ => N9
  with_unfolding_all refine' ksw_while (σ := Nat × Tok × Tok) (fun c => (dx, curD w.params b ((i + c.1 : Nat) : Int) ks.length k1 k2 k3 tb c.2.1 te) :: (x, instObj 155 dx) :: R) (fun c => [(Str.ofString "number", .int (valF (ds.take c.1)) c.2.2)]) (fun _ => True) [] (fun c => c.1 ≤ ds.length) (fun c => ds.length - c.1) (0, ti, _) F9 N9 trivial (by intro p hp; rw [List.mem_singleton.mp hp]; rfl) (Nat.zero_le _) ?_ ?_
  rotate_left
  · passes_own
  clear F9 N9
  intro c u h tk _ hj F9 N9
  obtain ⟨j, tj, tn⟩ := c
  dsimp only at hj F9 N9
  have hl' : ks.drop (i + j) = ds.drop j ++ r := by rw [← List.drop_drop, hl, List.drop_append_of_le_length hj]
  try k_fold
  cases hdj : ds.drop j with
  | cons d ds' =>
    rw [hdj, List.cons_append] at hl'
    have hd1 := (hds d (List.mem_of_mem_drop (hdj ▸ List.mem_cons_self))).1
    have hd2 := (hds d (List.mem_of_mem_drop (hdj ▸ List.mem_cons_self))).2
    k_steps
    have hj' := lt_of_drop hdj
    exact ksw_end (j + 1, _, _) (by assumption) (by assumption) (fun p hp => hp) trivial (fun p hp => by
      have e := List.mem_singleton.mp hp
      subst e
      exact int_eq (by rw [take_succ_of_drop hdj, valF_snoc])) (fun z h2 _ => by
      have h4 : z ≠ Str.ofString "number" := h2 _ (List.mem_singleton.mpr rfl)
      simp [kstB, h4]) hj' (by dsimp only; omega)
  | nil =>
    rw [hdj, List.nil_append] at hl'
    have hj' := eq_of_drop hj hdj
    subst hj'
    k_steps
    all_goals first
      | (exfalso; omega)
      | skip
    all_goals
      rw [List.take_length]
      exact ret _ _ _ _ (by k_asm) (back _ _ (by k_asm)) hl'

theorem calm_Tn : True := by w_top off; trivial
local macro_rules | `(tactic| walk_at "call ref") => `(tactic| (k_here; (with_reducible refine cr1 145 ?_); k_dflt (refine' number_c (by walk_at "amb") (by ktr_room) (by ktr_units) (by k_mem) (by k_updF) ‹_› (by walk_at "ao") ‹_› ‹_› ‹_› ‹_› ‹_› ?_; walk_at "fin7")))
theorem is_figure_c {w : World} {dp un : Nat} {gd : Option (List Code)} {cn : Str} {cs : Scope} {a : Addr} {ccd : Value} {cl : List (Str × Addr)} {outer : List Env} {A₀ : Around} {base h₀ : Heap} {L : Addr} {m : Str → Option Value} {news : List (Addr × Obj)} {p : Program} {loose : List Str} {mean : ExcName → Option Value} {mg mb : Str → Option Value} {s : Shared} {Q E : Value → Shared → Prop} (Z : Amb w cs outer A₀ base h₀ L s.heap m news p loose mean mg mb) (hd : dp + 1 < recursionLimit) (hu : un + 8 < cLine)
    {c : Int} {t : Tok}
    (ret : ∀ h' tk', Fr h₀ L h' m → News h₀ L h' news → Q (.bool (decide (48 ≤ c ∧ c ≤ 57))) { s with heap := h', toks := tk' }) :
    wpAny (model PG w) (ktrTop dp un gd cn cs L a ccd cl outer) (call (.ref 222) [.int c t]) Q E s := by
  obtain ⟨B, F, X, N, T, hk⟩ := Z
  refine wpAny_call ?_
  k_dflt cell_enter
  k_steps
  all_goals exact c_retB ret (by simp only [decide_eq_decide]; omega) (by k_asm) (by k_asm)
local macro_rules | `(tactic| walk_at "call ref") => `(tactic| (k_here; (with_reducible refine cr1 222 ?_); k_dflt (refine' is_figure_c (by walk_at "amb") (by ktr_room) (by ktr_units) ?_; walk_at "fin4")))
theorem take_number_c {w : World} {dp un : Nat} {gd : Option (List Code)} {cn : Str} {cs : Scope} {a : Addr} {ccd : Value} {cl : List (Str × Addr)} {outer : List Env} {A₀ : Around} {base h₀ : Heap} {L : Addr} {m : Str → Option Value} {news : List (Addr × Obj)} {p : Program} {loose : List Str} {mean : ExcName → Option Value} {mg mb : Str → Option Value} {s : Shared} {Q E : Value → Shared → Prop} (Z : Amb w cs outer A₀ base h₀ L s.heap m news p loose mean mg mb) (hd : dp + 4 < recursionLimit) (hu : un + 32 < cLine)
    {x dx : Addr} {b : Array UInt8} {ks : List Int} {i : Nat} {k1 k2 k3 tb ti te : Tok} {g : Obj → List (Addr × Obj)} (hx : (x, instObj 155 dx) ∈ news) (hU : UpdF dx (curD w.params b i ks.length k1 k2 k3 tb ti te) news g) (hb : KBw.bInts b = ks) (hn : ks.length ≤ 1000) {ds r : List Int} (hl : ks.drop i = ds ++ r) (hds : ∀ c ∈ ds, 48 ≤ c ∧ c ≤ 57) (h0 : 0 < ds.length) (h20 : ds.length ≤ 20) (hr : r.headD (-1) < 48 ∨ 57 < r.headD (-1))
    (hz : ds.length = 1 ∨ ks.getD (i : Int).toNat 0 ≠ 48) {c : Int} {t : Tok} (h1 : c ≤ valF ds) (h2 : valF ds ≤ 4294967295)
    (ret : ∀ t' ti' h' tk', Fr h₀ L h' m → News h₀ L h' (g (curD w.params b (i + ds.length : Nat) ks.length k1 k2 k3 tb ti' te)) → ks.drop (i + ds.length) = r → Q (.int (valF ds) t') { s with heap := h', toks := tk' }) :
    wpAny (model PG w) (ktrTop dp un gd cn cs L a ccd cl outer) (call (.ref 215) [.ref x, .int c t]) Q E s := by
  obtain ⟨B, F, X, N, T, hk⟩ := Z
  obtain ⟨R, hR, hxd, N, back⟩ := cur_open N hx hU (by intro e; cases e)
  have hlen : i + ds.length ≤ ks.length := by
    have := congrArg List.length hl
    simp only [List.length_drop, List.length_append] at this
    omega
  rcases hz with hz | hz
  all_goals
    refine wpAny_call ?_
    k_dflt cell_enter
    k_steps
    all_goals exact ret _ _ _ _ (by k_asm) (back _ _ (by k_asm)) (by assumption)
local macro_rules | `(tactic| walk_at "call ref") => `(tactic| (k_here; (with_reducible refine cr2 215 ?_); k_dflt (refine' take_number_c (by walk_at "amb") (by ktr_room) (by ktr_units) (by k_mem) (by k_updF) ‹_› (by walk_at "ao") ‹_› ‹_› ‹_› ‹_› ‹_› ‹_› (by walk_at "ao") (by walk_at "ao") ?_; walk_at "fin7")))

theorem calm_Tp : True := by w_top off; trivial
abbrev ledA {h₀ h : Heap} {L a : Addr} {o : Obj} {r : List (Addr × Obj)} (_ : News h₀ L h ((a, o) :: r)) : Addr := a
/-- a number's figures, as a section's path has them -/
structure NumOk (ds : List Int) : Prop where
  fig : ∀ c ∈ ds, 48 ≤ c ∧ c ≤ 57
  pos : 0 < ds.length
  few : ds.length ≤ 20
  bare : ds.length = 1 ∨ ds.headD (-1) ≠ 48
  most : valF ds ≤ 4294967295
/-- the codes of a path: figures, parted by points -/
def pathC : List (List Int) → List Int
  | [] => []
  | [d] => d
  | d :: r => d ++ 46 :: pathC r
/-- the codes of a path's later numbers, a point ahead of each -/
def pathT : List (List Int) → List Int
  | [] => []
  | d :: r => 46 :: (d ++ pathT r)
theorem pathC_cons (d : List Int) : ∀ r : List (List Int), pathC (d :: r) = d ++ pathT r
  | [] => by simp [pathC, pathT]
  | e :: r => by
    show d ++ 46 :: pathC (e :: r) = d ++ pathT (e :: r)
    rw [pathC_cons e r]; rfl
/-- what stands behind a path: no figure, and no point with a figure behind it -/
def Behind (r : List Int) : Prop := (r.headD (-1) < 48 ∨ 57 < r.headD (-1)) ∧ (r.headD (-1) ≠ 46 ∨ (r.drop 1).headD (-1) < 48 ∨ 57 < (r.drop 1).headD (-1))
theorem getD_head {ks ds r : List Int} {i : Nat} (hl : ks.drop i = ds ++ r) (h : 0 < ds.length) : ks.getD (i : Int).toNat 0 = ds.headD (-1) := by
  have e : ks[i]? = ds[0]? := by
    have := congrArg (·[0]?) hl
    simp only [List.getElem?_drop, Nat.add_zero] at this
    rw [this, List.getElem?_append_left h]
  rw [Int.toNat_natCast, List.getD_eq_getElem?_getD, e]
  cases ds with
  | nil => simp at h
  | cons d ds => rfl

theorem take_path_c {w : World} {dp un : Nat} {gd : Option (List Code)} {cn : Str} {cs : Scope} {a : Addr} {ccd : Value} {cl : List (Str × Addr)} {outer : List Env} {A₀ : Around} {base h₀ : Heap} {L : Addr} {m : Str → Option Value} {news : List (Addr × Obj)} {p : Program} {loose : List Str} {mean : ExcName → Option Value} {mg mb : Str → Option Value} {s : Shared} {Q E : Value → Shared → Prop} (Z : Amb w cs outer A₀ base h₀ L s.heap m news p loose mean mg mb) (hd : dp + 5 < recursionLimit) (hu : un + 40 < cLine)
    {x dx : Addr} {b : Array UInt8} {ks : List Int} {i : Nat} {k1 k2 k3 tb ti te : Tok} {g : Obj → List (Addr × Obj)} (hx : (x, instObj 155 dx) ∈ news) (hU : UpdF dx (curD w.params b i ks.length k1 k2 k3 tb ti te) news g) (hb : KBw.bInts b = ks) (hn : ks.length ≤ 1000) {ps : List (List Int)} {r : List Int} (hl : ks.drop i = pathC ps ++ r) (hps : ∀ d ∈ ps, NumOk d ∧ 1 ≤ valF d) (hr : Behind r) (hi : i ≤ ks.length) (hpl : ps.length ≤ 100)
    (ret : ∀ tp vs ti' h' tk', Fr h₀ L h' m → News h₀ L h' ((tp, { cls := .type "tuple", data := .seq vs.toArray }) :: g (curD w.params b (i + (pathC ps).length : Nat) ks.length k1 k2 k3 tb ti' te)) → IntsAre vs (ps.map valF) → ks.drop (i + (pathC ps).length) = r → i + (pathC ps).length ≤ ks.length → AllLt tp (g (curD w.params b (i + (pathC ps).length : Nat) ks.length k1 k2 k3 tb ti' te)) → Q (.ref tp) { s with heap := h', toks := tk' }) :
    wpAny (model PG w) (ktrTop dp un gd cn cs L a ccd cl outer) (call (.ref 229) [.ref x]) Q E s := by
  obtain ⟨B, F, X, N, T, hk⟩ := Z
  obtain ⟨R, hR, hxd, N, back, backLt⟩ := cur_open2 N hx hU (by intro e; cases e)
  cases ps with
  | nil =>
    simp only [pathC, List.nil_append] at hl
    have hr1 := hr.1
    refine wpAny_call ?_
    k_dflt cell_enter
    k_steps
    exact ret _ [] _ _ _ (by k_asm) (news_new (by k_asm) (back _ _)) .nil hl hi (backLt _ _ (by omega) (by simp_all))
  | cons d ps =>
    have hd1 := (hps d List.mem_cons_self).1
    have hv1 := (hps d List.mem_cons_self).2
    rw [pathC_cons, List.append_assoc] at hl
    simp only [List.length_cons] at hpl
    obtain ⟨f1, f2, f3, f4, f5⟩ := hd1
    have hz := getD_head hl f2
    rw [← hz] at f4
    have hb2 : (pathT ps ++ r).headD (-1) < 48 ∨ 57 < (pathT ps ++ r).headD (-1) := by
      cases ps with
      | nil => exact hr.1
      | cons e ps => left; show (46 : Int) < 48; decide
    have hl0 : ∃ c l, ks.drop i = c :: l ∧ 48 ≤ c ∧ c ≤ 57 := by
      cases d with
      | nil => simp at f2
      | cons c d => exact ⟨c, _, hl, f1 c List.mem_cons_self⟩
    obtain ⟨c0, l0, hl0, hc1, hc2⟩ := hl0
    refine wpAny_call ?_
    k_dflt cell_enter
    k_steps
    unfold Halt
    rename Fr _ _ _ _ => F9
    rename News _ _ _ _ => N9
    obtain ⟨la, hla⟩ : ∃ la, la = ledA N9 := ⟨_, rfl⟩
    dsimp only [ledA] at hla
    subst hla
    have hj0 : i + d.length ≤ ks.length := by
      have := congrArg List.length hl
      simp only [List.length_drop, List.length_append] at this
      omega
    with_unfolding_all refine' ksw_while (σ := Nat × Nat × Tok × List Value) (fun c => (la, PySem.W.listOf c.2.2.2.toArray c.2.2.2.length) :: (dx, curD w.params b (c.2.1 : Nat) ks.length k1 k2 k3 tb c.2.2.1 te) :: (x, instObj 155 dx) :: R) (fun _ => []) (fun c => IntsAre c.2.2.2 ((d :: ps.take c.1).map valF) ∧ ks.drop c.2.1 = pathT (ps.drop c.1) ++ r ∧ c.2.1 ≤ ks.length ∧ c.2.1 + (pathT (ps.drop c.1)).length = i + (pathC (d :: ps)).length) [] (fun c => c.1 ≤ ps.length) (fun c => ps.length - c.1) (0, i + d.length, _, [_]) F9 N9 ⟨.cons _ _ .nil, by assumption, hj0, by rw [pathC_cons, List.length_append]; simp only [List.drop_zero]; omega⟩ (by intro p hp; cases hp) (Nat.zero_le _) ?_ ?_
    rotate_left
    · passes_own
    clear F9 N9
    rintro ⟨k, j, tj, vs⟩ u h tk ⟨hvs, hlj, hjk, hsum⟩ hk F9 N9
    dsimp only at hvs hlj hjk hk hsum F9 N9
    have hvl := hvs.length
    simp only [List.length_map, List.length_cons, List.length_take] at hvl
    try k_fold
    cases hq : ps.drop k with
    | nil =>
      rw [hq] at hlj
      simp only [pathT, List.nil_append] at hlj
      have hkl : k = ps.length := by have := congrArg List.length hq; simp only [List.length_drop, List.length_nil] at this; omega
      subst hkl
      obtain ⟨hr1, hr2⟩ := hr
      have hlj2 : ks.drop (j + 1) = r.drop 1 := by rw [← List.drop_drop, hlj]
      k_steps
      all_goals
        rw [List.take_length] at hvs
        simp only [List.drop_length, pathT, List.length_nil, Nat.add_zero] at hsum
        subst hsum
        rename _ ∧ _ ∧ _ ∧ AllLt _ _ => q9
        exact ret _ vs _ _ _ (by k_asm) (news_new (by k_asm) (back _ _)) hvs hlj hjk (backLt _ _ q9.2.1 q9.2.2.2)
    | cons e ps' =>
      rw [hq] at hlj
      have hlj1 : ks.drop j = 46 :: (e ++ (pathT ps' ++ r)) := by rw [hlj]; simp [pathT]
      have hlj2 : ks.drop (j + 1) = e ++ (pathT ps' ++ r) := by rw [← List.drop_drop, hlj1]; rfl
      have hkl : k < ps.length := by have := congrArg List.length hq; simp only [List.length_drop, List.length_cons] at this; omega
      have hmem : e ∈ d :: ps := List.mem_cons_of_mem _ (List.mem_of_mem_drop (hq ▸ List.mem_cons_self))
      have he1 := (hps e hmem).2
      obtain ⟨g1, g2, g3, g4, g5⟩ := (hps e hmem).1
      rw [← getD_head hlj2 g2] at g4
      have hb3 : (pathT ps' ++ r).headD (-1) < 48 ∨ 57 < (pathT ps' ++ r).headD (-1) := by
        cases ps' with
        | nil => exact hr.1
        | cons e ps => left; show (46 : Int) < 48; decide
      have hlj3 : ∃ c l, ks.drop (j + 1) = c :: l ∧ 48 ≤ c ∧ c ≤ 57 := by
        cases e with
        | nil => simp at g2
        | cons c e => exact ⟨c, _, hlj2, g1 c List.mem_cons_self⟩
      obtain ⟨c1, l1, hlj3, hc3, hc4⟩ := hlj3
      k_steps
      rename News _ _ _ _ => N9
      rw [lst_snoc] at N9
      exact ksw_end (k + 1, j + 1 + e.length, _, vs ++ [_]) (by assumption) N9 (fun p hp => hp) ⟨by
        have h9 : ps.take (k + 1) = ps.take k ++ [e] := by
          have e9 : ps[k]? = some e := by
            have := congrArg List.head? hq
            rw [List.head?_drop] at this
            exact this
          rw [List.take_add_one, e9]; rfl
        dsimp only
        rw [h9, ← List.cons_append, List.map_append]
        exact intsAre_snoc hvs, by
        have h9 : ps.drop (k + 1) = ps' := by rw [← List.drop_drop, hq]; rfl
        dsimp only
        rw [h9]; assumption, by
        have := congrArg List.length hlj2
        simp only [List.length_drop, List.length_append] at this
        dsimp only; omega, by
        have h9 : ps.drop (k + 1) = ps' := by rw [← List.drop_drop, hq]; rfl
        rw [hq] at hsum
        simp only [pathT, List.length_cons, List.length_append] at hsum
        dsimp only
        rw [h9]; omega⟩ (fun p hp => nomatch hp) (fun _ _ _ => rfl) hkl (by dsimp only; omega)

theorem calm_Lc : True := by w_top off; trivial
/-- what a comprehension runs over: its iterator lies at the heap's end -/
structure Iter (w : World) (A : Around) (h₀ : Heap) (L : Addr) (xv : Value) (s₁ : Shared) (n : Nat) (P : Nat → Value → Prop) (S : List (Addr × Obj) → Prop) : Prop where
  size : n ≤ sizeLine
  go : ∀ (Q E : Value → Shared → Prop), (∀ (o : Obj) (fp : List Addr) (St : Nat → Heap → Prop), Walks PG w A s₁.heap.objs.size fp [s₁.heap.objs.size] n P St → (∀ i h, St i h → ∃ o, h.get? s₁.heap.objs.size = some o) →
    (∀ i h h' o nw, St i h → h.get? s₁.heap.objs.size = some o → h'.get? s₁.heap.objs.size = some o → (∀ b o, h₀.get? b = some o → h'.get? b = some o) → News h₀ L h' nw → S nw → St i h') →
    St 0 (s₁.heap.push o) → (∀ b ∈ fp, b < (s₁.heap.push o).objs.size) → Q (.ref s₁.heap.objs.size) { s₁ with heap := s₁.heap.push o }) → wpAny (model PG w) A (pyIter xv) Q E s₁

section
variable {w : World} {A : Around} {E : Value → Shared → Prop} {s s₁ : Shared} {h₀ : Heap} {L : Addr} {m : Str → Option Value} {env : Env}
theorem iter_str {x : Str} {t : Tok} (hh : A.handled = none) (hsz : x.cps.size ≤ sizeLine) : Iter w A h₀ L (.str x t) s₁ x.cps.size (SignAt x) (fun _ => True) where
  size := hsz
  go := fun Q E k => by
    have st : ∀ ty i (h h' : Heap) (o : Obj) (nw : List (Addr × Obj)), h.IsStrIter s₁.heap.objs.size ty x t i → h.get? s₁.heap.objs.size = some o → h'.get? s₁.heap.objs.size = some o → (∀ b o, h₀.get? b = some o → h'.get? b = some o) → News h₀ L h' nw → True → h'.IsStrIter s₁.heap.objs.size ty x t i := by
      intro ty i h h' o nw q e e' _ _ _
      obtain ⟨o', e2, r⟩ := q
      rw [e] at e2
      cases e2
      exact ⟨o, e', r⟩
    have low : ∀ (o : Obj) b, b ∈ [s₁.heap.objs.size] → b < (s₁.heap.push o).objs.size := fun o b hb => by rw [List.mem_singleton.mp hb, Heap.size_push]; exact Nat.lt_succ_self _
    cases ha : x.cps.all (· < 128)
    · exact wpAny_pyIter_wide ha (k _ _ _ (Walks.strWide hh _ x t) (fun i h q => let ⟨o, e, _⟩ := q; ⟨o, e⟩) (st _) ⟨_, Heap.get?_push_size _ rfl, rfl, rfl⟩ (low _))
    · exact wpAny_pyIter_ascii ha (k _ _ _ (Walks.strAscii hh _ x t) (fun i h q => let ⟨o, e, _⟩ := q; ⟨o, e⟩) (st _) ⟨_, Heap.get?_push_size _ rfl, rfl, rfl⟩ (low _))
theorem iter_bytes {b : Array UInt8} {t : Tok} (hh : A.handled = none) (hsz : b.size ≤ sizeLine) : Iter w A h₀ L (.bytes b t) s₁ b.size (fun i v => ∃ c u, b[i]? = some c ∧ v = .int (c.toNat : Int) u) (fun _ => True) where
  size := hsz
  go := fun Q E k => KBw.pyIter_bytes (k _ _ _ (KBw.walks hh _ b t) (fun i h q => let ⟨o, e, _⟩ := q; ⟨o, e⟩) (by
      intro i h h' o nw q e e' _ _ _
      obtain ⟨o', e2, r⟩ := q
      rw [e] at e2
      cases e2
      exact ⟨o, e', r⟩) ⟨_, Heap.get?_push_size _ rfl, rfl, rfl⟩ (fun b hb => by rw [List.mem_singleton.mp hb, Heap.size_push]; exact Nat.lt_succ_self _))
/-- a list or a tuple of the ledger -/
theorem iter_list {ax : Addr} {its : Array Value} {news : List (Addr × Obj)} (hh : A.handled = none) (hsz : its.size ≤ sizeLine) (N : News h₀ L s₁.heap news) (hm : (ax, PySem.W.listOf its k0) ∈ news) :
    Iter w A h₀ L (.ref ax) s₁ its.size (fun i v => its[i]? = some v) (fun nw => (ax, PySem.W.listOf its k0) ∈ nw) where
  size := hsz
  go := fun Q E k => by
    have hl : s₁.heap.IsList ax its := News.isList N hm
    have hlt : ax < s₁.heap.objs.size := by obtain ⟨_, e, _⟩ := hl; exact Heap.lt_size e
    refine wpAny_pyIter_list hl (k _ _ _ (Walks.list hh _ ax (Nat.ne_of_lt hlt) its) (fun i h q => let ⟨o, e, _⟩ := q.1; ⟨o, e⟩) ?_ ⟨⟨_, Heap.get?_push_size _ rfl, rfl, rfl⟩, hl.push _⟩ ?_)
    · intro i h h' o nw q e e' _ N' S
      exact ⟨by obtain ⟨o', e2, r⟩ := q.1; rw [e] at e2; cases e2; exact ⟨o, e', r⟩, News.isList N' S⟩
    · intro b hb
      rw [Heap.size_push]
      rcases List.mem_cons.mp hb with rfl | hb
      · exact Nat.lt_succ_self _
      · rw [List.mem_singleton.mp hb]; exact Nat.lt_succ_of_lt hlt
end

section
variable {w : World} {A : Around} {E : Value → Shared → Prop} {s : Shared} {h₀ : Heap} {L : Addr} {m : Str → Option Value} {env : Env}
def LcSrc (w : World) (A : Around) (h₀ : Heap) (L : Addr) (m : Str → Option Value) (env : Env) (elt : Expr) (x : Str) (scope : Scope) (cl : List (Str × Addr)) (Fin : Shared → List Value → List (Addr × Obj) → Prop) (xv : Value) (s₁ : Shared) : Prop :=
  ∃ n P S news, Fr h₀ L s₁.heap m ∧ News h₀ L s₁.heap news ∧ S news ∧ Iter w A h₀ L xv s₁ n P S ∧ ∀ g, LCg.CompRest PG w A h₀ L m env elt x scope cl { s₁ with heap := g } S P (Fin { s₁ with heap := g }) n 0 [] news
def LcSrcT (w : World) (A : Around) (h₀ : Heap) (L : Addr) (m : Str → Option Value) (env : Env) (ct elt : Expr) (x : Str) (scope : Scope) (cl : List (Str × Addr)) (Fin : Shared → List Value → List (Addr × Obj) → Prop) (xv : Value) (s₁ : Shared) : Prop :=
  ∃ n P S news, Fr h₀ L s₁.heap m ∧ News h₀ L s₁.heap news ∧ S news ∧ Iter w A h₀ L xv s₁ n P S ∧ ∀ g, LCt.CompRestT PG w A h₀ L m env ct elt x scope cl { s₁ with heap := g } S P (Fin { s₁ with heap := g }) n 0 [] news
open LCg in
theorem ListComp_G {elt iter : Expr} {x : Str} {px : Pos} {scope : Scope} {cl : List (Str × Addr)} {pos : Pos} {Q : Value → Shared → Prop} (_F₀ : Fr h₀ L s.heap m)
    (hclos : closureFor scope env = pure cl) (hcell : ∀ y ∈ scope.names, y.2 ≠ .cell) (hkind : scope.kind = .function)
    (hnames : ∀ y ∈ scope.names, y.2 = .local → scope.names.lookup y.1 = some .local) (hx : scope.names.lookup x = some .local)
    (h : wpAny (model PG w) A (eval iter env) (LcSrc w A h₀ L m env elt x scope cl (fun s₂ => FinE h₀ L m s₂ Q)) E s)
    (hs : ∀ x, foldedSetIterable iter env x = pure x := by intro _; rfl) :
    wpAny (model PG w) A (eval (.ListComp elt [⟨.Name x px, iter, [], 0⟩] scope pos) env) Q E s := by
  rw [eval_ListComp]
  refine wpAny_comprehension_free (use := none) rfl hs hclos hkind hnames (wpAny_mono h (fun xv s₁ h₁ => ?_) fun _ _ e => e)
  obtain ⟨n, P, S, news, F, N, hS, It, R⟩ := h₁
  refine It.go _ _ fun o fp St W hIo hSt st0 hfp => ?_
  have up : ∀ b o', s₁.heap.get? b = some o' → (s₁.heap.push o).get? b = some o' := fun b o' e => Heap.get?_push_of_some _ e
  refine block_U W It.size hIo hSt hcell hkind hx st0 hfp (F.keeps up) (N.grown up) (Nat.ne_of_lt F.ns.lt) (next_is_new F) (fun p hp => Nat.ne_of_lt (Heap.lt_size (N p hp).1)) hS (R _) ?_
  intro D C h tk m' ys news' F' N' o1 hn hC₀ hD₀ hCL hDL hCD offC fin
  refine ⟨m', hn, fun h'' hs'' => fin D h'' tk (F'.change hs'' hCL hC₀) (fun p hp => ?_) o1⟩
  refine ⟨hs''.extBut _ _ ?_ (N' p hp).1, (N' p hp).2⟩
  rcases List.mem_cons.mp hp with rfl | hp
  · exact Ne.symm hCD
  · exact offC p hp
open LCg in
theorem Assign_ListComp_G {elt iter : Expr} {x y : Str} {px py : Pos} {scope : Scope} {cl : List (Str × Addr)} {pos spos : Pos} {Q : Flow → Shared → Prop} (_F₀ : Fr h₀ L s.heap m) (hLe : env.locals = L)
    (hsw : swapsWith (.ListComp elt [⟨.Name x px, iter, [], 0⟩] scope pos) (some (.Name y py)) spos.line env = pure true)
    (hclos : closureFor scope env = pure cl) (hcell : ∀ z ∈ scope.names, z.2 ≠ .cell) (hkind : scope.kind = .function)
    (hnames : ∀ z ∈ scope.names, z.2 = .local → scope.names.lookup z.1 = some .local) (hx : scope.names.lookup x = some .local)
    (hy : env.kindOf y = some .local) (hp : (env.scope.kind == .class || (env.scope.kind == .module && env.locals != env.globals)) = false)
    (h : wpAny (model PG w) A (eval iter env) (LcSrc w A h₀ L m env elt x scope cl (fun s₂ => FinA h₀ L m s₂ y Q)) E s)
    (hs : ∀ x, foldedSetIterable iter env x = pure x := by intro _; rfl) :
    wpAny (model PG w) A (exec (.Assign [.Name y py] (.ListComp elt [⟨.Name x px, iter, [], 0⟩] scope pos) spos) env) Q E s := by
  subst hLe
  rw [exec_Assign_Name_used _ _ _ _ hsw]
  refine wpAny_bind (wpAny_standAt (wpAny_bind ?_))
  show wpAny _ A (do let _ ← comprehension (.ListComp elt [⟨.Name x px, iter, [], 0⟩] scope pos) scope env _ (newList []) false (eval iter env) (some (assign (.Name y py) env))) _ _ s
  refine wpAny_bind (wpAny_mono (wpAny_comprehension_free (use := some (assign (.Name y py) env)) (Q := fun _ s' => Q .next s') rfl hs hclos hkind hnames
    (wpAny_mono h (fun xv s₁ h₁ => ?_) fun _ _ e => e)) (fun _ s' hq => wpAny_pure (wpAny_pure hq)) fun _ _ e => e)
  obtain ⟨n, P, S, news, F, N, hS, It, R⟩ := h₁
  refine It.go _ _ fun o fp St W hIo hSt st0 hfp => ?_
  have up : ∀ b o', s₁.heap.get? b = some o' → (s₁.heap.push o).get? b = some o' := fun b o' e => Heap.get?_push_of_some _ e
  refine block_U W It.size hIo hSt hcell hkind hx st0 hfp (F.keeps up) (N.grown up) (Nat.ne_of_lt F.ns.lt) (next_is_new F) (fun p hp => Nat.ne_of_lt (Heap.lt_size (N p hp).1)) hS (R _) ?_
  intro D C h' tk m' ys news' F' N' o1 hn hC₀ hD₀ hCL hDL hCD offC fin
  show wpAny _ A (assign (.Name y py) env (.ref D)) _ _ _
  refine wpAny_assign_Name (wpAny_storeName_local hy F'.ns (fun h₂ hn₂ hs₂ => ?_) hp)
  have hL₀ : h₀.get? env.locals = none := Heap.get?_none_of_le F'.above
  have F₂ : Fr h₀ env.locals h₂ (fun z => if z = y then some (.ref D) else m z) := ⟨hn₂, fun b o e => hs₂.extBut b o (fun q => by rw [q, hL₀] at e; cases e) (F'.keep b o e), F'.above⟩
  refine ⟨m', hn.sameBut hs₂ hCL, fun h'' hs'' => fin D h'' _ (F₂.change hs'' hCL hC₀) (fun p hp => ?_) o1⟩
  have z : h₂.get? p.1 = some p.2 := hs₂.extBut _ _ (N' p hp).2.1 (N' p hp).1
  refine ⟨hs''.extBut _ _ ?_ z, (N' p hp).2⟩
  rcases List.mem_cons.mp hp with rfl | hp
  · exact Ne.symm hCD
  · exact offC p hp
open LCg LCt in
theorem ListComp_GT {ct elt iter : Expr} {x : Str} {px : Pos} {scope : Scope} {cl : List (Str × Addr)} {pos : Pos} {Q : Value → Shared → Prop} (_F₀ : Fr h₀ L s.heap m)
    (hclos : closureFor scope env = pure cl) (hcell : ∀ y ∈ scope.names, y.2 ≠ .cell) (hkind : scope.kind = .function)
    (hnames : ∀ y ∈ scope.names, y.2 = .local → scope.names.lookup y.1 = some .local) (hx : scope.names.lookup x = some .local)
    (h : wpAny (model PG w) A (eval iter env) (LcSrcT w A h₀ L m env ct elt x scope cl (fun s₂ => FinE h₀ L m s₂ Q)) E s)
    (hs : ∀ x, foldedSetIterable iter env x = pure x := by intro _; rfl) :
    wpAny (model PG w) A (eval (.ListComp elt [⟨.Name x px, iter, [ct], 0⟩] scope pos) env) Q E s := by
  rw [eval_ListComp]
  refine wpAny_comprehension_free (use := none) rfl hs hclos hkind hnames (wpAny_mono h (fun xv s₁ h₁ => ?_) fun _ _ e => e)
  obtain ⟨n, P, S, news, F, N, hS, It, R⟩ := h₁
  refine It.go _ _ fun o fp St W hIo hSt st0 hfp => ?_
  have up : ∀ b o', s₁.heap.get? b = some o' → (s₁.heap.push o).get? b = some o' := fun b o' e => Heap.get?_push_of_some _ e
  refine block_T W It.size hIo hSt hcell hkind hx st0 hfp (F.keeps up) (N.grown up) (Nat.ne_of_lt F.ns.lt) (next_is_new F) (fun p hp => Nat.ne_of_lt (Heap.lt_size (N p hp).1)) hS (R _) ?_
  intro D C h tk m' ys news' F' N' o1 hn hC₀ hD₀ hCL hDL hCD offC fin
  refine ⟨m', hn, fun h'' hs'' => fin D h'' tk (F'.change hs'' hCL hC₀) (fun p hp => ?_) o1⟩
  refine ⟨hs''.extBut _ _ ?_ (N' p hp).1, (N' p hp).2⟩
  rcases List.mem_cons.mp hp with rfl | hp
  · exact Ne.symm hCD
  · exact offC p hp
/-- a comprehension's turns by what holds between them -/
theorem comp_inv {elt : Expr} {x : Str} {scope : Scope} {cl : List (Str × Addr)} {S : List (Addr × Obj) → Prop} {P : Nat → Value → Prop} {Fin : List Value → List (Addr × Obj) → Prop} {n : Nat} {news : List (Addr × Obj)} (J : Nat → List Value → List (Addr × Obj) → Prop) (h0 : J 0 [] news)
    (turn : ∀ i ys news v I oI C oC D m₂ h tk (E' : Value → Shared → Prop), i < n → J i ys news → P i v → LCg.NsObj oC m₂ → m₂ x = some v → Fr h₀ L h m → News h₀ L h ((I, oI) :: (C, oC) :: (D, LCg.lst ys) :: news) → LCg.Off3 I C D news → ((@Ne Nat I C) ∧ (@Ne Nat I D) ∧ (@Ne Nat C D)) →
      wpAny (model PG w) A (eval elt (compEnvC scope cl C env)) (LCg.CompEnd h₀ L m { s with heap := h, toks := tk } I oI C oC D (LCg.lst ys) S (fun y news' => J (i + 1) (ys ++ [y]) news')) E' { s with heap := h, toks := tk })
    (fin : ∀ ys news, J n ys news → Fin ys news) : LCg.CompRest PG w A h₀ L m env elt x scope cl s S P Fin n 0 [] news := by
  have key : ∀ (j i : Nat) (ys : List Value) (news : List (Addr × Obj)), i + j = n → J i ys news → LCg.CompRest PG w A h₀ L m env elt x scope cl s S P Fin j i ys news := by
    intro j
    induction j with
    | zero =>
      intro i ys news hi hJ
      obtain rfl : i = n := by omega
      exact LCg.CompRest.zero (fin ys news hJ)
    | succ j ih =>
      intro i ys news hi hJ
      refine LCg.CompRest.succ ?_
      intro v I oI C oC D m₂ h tk E' hv hC hx F N off ne
      refine wpAny_mono (turn i ys news v I oI C oC D m₂ h tk E' (by omega) hJ hv hC hx F N off ne) (fun y s₂ hq => ?_) fun _ _ e => e
      obtain ⟨h', tk', nw, e, F', N', off', hS, hJ'⟩ := hq
      exact ⟨h', tk', nw, e, F', N', off', hS, ih (i + 1) _ _ (by omega) hJ'⟩
  exact key n 0 [] news (by omega) h0
theorem comp_invT {ct elt : Expr} {x : Str} {scope : Scope} {cl : List (Str × Addr)} {S : List (Addr × Obj) → Prop} {P : Nat → Value → Prop} {Fin : List Value → List (Addr × Obj) → Prop} {n : Nat} {news : List (Addr × Obj)} (J : Nat → List Value → List (Addr × Obj) → Prop) (h0 : J 0 [] news)
    (turn : ∀ i ys news v I oI C oC D m₂ h tk (E' : Value → Shared → Prop), i < n → J i ys news → P i v → LCg.NsObj oC m₂ → m₂ x = some v → Fr h₀ L h m → News h₀ L h ((I, oI) :: (C, oC) :: (D, LCg.lst ys) :: news) → LCg.Off3 I C D news → ((@Ne Nat I C) ∧ (@Ne Nat I D) ∧ (@Ne Nat C D)) →
      wpAny (model PG w) A (isTrue ct (compEnvC scope cl C env) (eval ct (compEnvC scope cl C env))) (fun ok s' => if ok = true then
        wpAny (model PG w) A (eval elt (compEnvC scope cl C env)) (LCg.CompEnd h₀ L m { s with heap := h, toks := tk } I oI C oC D (LCg.lst ys) S (fun y news' => J (i + 1) (ys ++ [y]) news')) E' s'
        else LCg.CompEnd h₀ L m { s with heap := h, toks := tk } I oI C oC D (LCg.lst ys) S (fun _ news' => J (i + 1) ys news') Value.none s') E' { s with heap := h, toks := tk })
    (fin : ∀ ys news, J n ys news → Fin ys news) : LCt.CompRestT PG w A h₀ L m env ct elt x scope cl s S P Fin n 0 [] news := by
  have key : ∀ (j i : Nat) (ys : List Value) (news : List (Addr × Obj)), i + j = n → J i ys news → LCt.CompRestT PG w A h₀ L m env ct elt x scope cl s S P Fin j i ys news := by
    intro j
    induction j with
    | zero =>
      intro i ys news hi hJ
      obtain rfl : i = n := by omega
      exact LCt.CompRestT.zero (fin ys news hJ)
    | succ j ih =>
      intro i ys news hi hJ
      refine LCt.CompRestT.succ ?_
      intro v I oI C oC D m₂ h tk E' hv hC hx F N off ne
      refine wpAny_mono (turn i ys news v I oI C oC D m₂ h tk E' (by omega) hJ hv hC hx F N off ne) (fun ok s₂ hq => ?_) fun _ _ e => e
      cases ok with
      | true =>
        simp only [if_true] at hq ⊢
        refine wpAny_mono hq (fun y s₃ hq => ?_) fun _ _ e => e
        obtain ⟨h', tk', nw, e, F', N', off', hS, hJ'⟩ := hq
        exact ⟨h', tk', nw, e, F', N', off', hS, ih (i + 1) _ _ (by omega) hJ'⟩
      | false =>
        simp only [Bool.false_eq_true, if_false] at hq ⊢
        obtain ⟨h', tk', nw, e, F', N', off', hS, hJ'⟩ := hq
        exact ⟨h', tk', nw, e, F', N', off', hS, ih (i + 1) _ _ (by omega) hJ'⟩
  exact key n 0 [] news (by omega) h0
end

local macro_rules | `(tactic| walk_at "CompEnd") => `(tactic| (refine Halt.go ?_))
local macro_rules | `(tactic| walk_at "eval ListComp") => `(tactic| (k_here; refine Halt.go ?_))
local macro_rules | `(tactic| walk_at "exec Assign cons ListComp") => `(tactic| (k_here; refine Halt.go ?_))
theorem comp_end {h₀ : Heap} {L I C D : Addr} {m : Str → Option Value} {s₁ : Shared} {oI oC oD : Obj} {S : List (Addr × Obj) → Prop} {rest : Value → List (Addr × Obj) → Prop} {y : Value} {h' : Heap} {tk : Nat} {all news' : List (Addr × Obj)}
    (F : Fr h₀ L h' m) (N : News h₀ L h' all) (sub : ∀ p ∈ (I, oI) :: (C, oC) :: (D, oD) :: news', p ∈ all) (off : LCg.Off3 I C D news') (hS : S news') (r : rest y news') :
    Halt (LCg.CompEnd h₀ L m s₁ I oI C oC D oD S rest y { s₁ with heap := h', toks := tk }) := ⟨h', tk, news', rfl, F, fun p hp => N p (sub p hp), off, hS, r⟩

theorem calm_St : True := by w_top off; trivial
theorem strsAre_snoc {y : Str} {t : Tok} : ∀ {vs : List Value} {ys : List Str}, StrsAre vs ys → StrsAre (vs ++ [.str y t]) (ys ++ [y])
  | _, _, .nil => .cons y t .nil
  | _, _, .cons z u r => .cons z u (strsAre_snoc r)
theorem strsAre_length : ∀ {vs : List Value} {ys : List Str}, StrsAre vs ys → vs.length = ys.length
  | _, _, .nil => rfl
  | _, _, .cons _ _ r => by simp [strsAre_length r]
/-- texts' codes, joined by a text's codes -/
def joinC (sep : List Nat) : List (List Nat) → List Nat
  | [] => []
  | x :: r => x ++ (r.map (sep ++ ·)).flatten
theorem joinC_fold (sep : Array Nat) : ∀ (r : List Str) (a : Array Nat), (r.foldl (fun acc p => acc ++ sep ++ p.cps) a).toList = a.toList ++ ((r.map (·.cps.toList)).map (sep.toList ++ ·)).flatten
  | [], a => by simp
  | p :: r, a => by rw [List.foldl_cons, joinC_fold sep r]; simp
theorem join_codes (sep : Str) (xs : List Str) : (Txt.join sep xs).cps.toList = joinC sep.cps.toList (xs.map (·.cps.toList)) := by
  cases xs with
  | nil => rfl
  | cons x r => exact joinC_fold sep.cps r x.cps
theorem str_of_codes {x y : Str} (h : x.cps.toList = y.cps.toList) : x = y := by
  obtain ⟨x⟩ := x
  obtain ⟨y⟩ := y
  exact congrArg Str.mk (Array.toList_inj.mp h)
theorem joinC_nil (l : List (List Nat)) : joinC [] l = l.flatten := by
  cases l with
  | nil => rfl
  | cons x r => simp [joinC]
theorem join_nil_codes (cs : List Nat) : (Txt.join (Str.ofString "") (cs.map fun c => ⟨#[c]⟩)).cps.toList = cs := by
  rw [join_codes]
  show joinC [] _ = _
  rw [joinC_nil, List.map_map]
  induction cs with
  | nil => rfl
  | cons c cs ih => simp only [List.map_cons, List.flatten_cons, ih]; rfl
theorem sum_ones {xs : List Str} (h : ∀ x ∈ xs, x.length = 1) : (xs.map (·.length)).sum = xs.length := by
  induction xs with
  | nil => rfl
  | cons x r ih => simp only [List.map_cons, List.sum_cons, List.length_cons]; rw [ih fun y hy => h y (.tail _ hy), h x (.head _)]; omega
theorem join_ok1 {xs : List Str} (h : ∀ x ∈ xs, x.length = 1) (hn : xs.length ≤ 100000) : (xs.map (·.length)).sum + xs.length * 64 ≤ 16777216 := by rw [sum_ones h]; omega
local macro_rules | `(tactic| walk_at "call builtin:str.join") => `(tactic| (k_here; (with_reducible show wpAny _ _ (call (Value.builtin "str.join") [Value.str _ _, Value.ref _]) _ _ _); k_dflt (refine' join_listC (News.isList (by k_asm) (by k_mem)) ‹_› (by decide) ‹_› ?_); intro _ _))

theorem len_str_own {prog : Program} {w : World} {A : Around} {E : Value → Shared → Prop} {s : Shared} {x : Str} {t : Tok} {Q : Value → Shared → Prop} (hfit : x.cps.size ≤ 100000) (h : Q (.int x.cps.size (s.toks + 1)) { s with toks := s.toks + 1 + 1 }) : wpAny (model prog w) A (call (.builtin "len") [.str x t]) Q E s :=
  len_str (by show ¬ ((x.cps.size : Int) ≥ 2 ^ 63); omega) h
theorem item_str_own {prog : Program} {w : World} {A : Around} {E : Value → Shared → Prop} {s : Shared} {x : Str} {t u : Tok} {i c : Nat} {value slice : Expr} {Q : Value → Shared → Prop} (hc : x.cps[i]? = some c) (hi : i < 100000) (h : Q (.str ⟨#[c]⟩ s.toks) { s with toks := s.toks + 1 })
    (hs : subscripted slice false (.str x t) (.int i u) = operate [.str x t, .int i u] (getItem (.str x t) (.int i u)) := by with_unfolding_all rfl)
    (ht : ∀ r, letTemporaryGo value (.str x t) r = pure () := by intro _; with_unfolding_all rfl) : wpAny (model prog w) A (subscriptTail value slice (.str x t) (.int i u)) Q E s :=
  tail_of_ItemOn ⟨"str", _, F.slot_str_getitem.lookup, typeIs_str _ _ _, getItem_str (by
    rw [Bool.or_eq_false_iff, decide_eq_false_iff_not, decide_eq_false_iff_not]
    omega) (by
    have hl : i < x.length := by
      rcases Nat.lt_or_ge i x.cps.size with q | q
      · exact q
      · rw [Array.getElem?_eq_none q] at hc; cases hc
    have e : seqIndex? (i : Int) x.length = some i := by
      have h0 : ¬ (i : Int) < 0 := by omega
      have h1 : (0 : Int) ≤ i := by omega
      have h2 : (i : Int) < x.length := by omega
      simp [seqIndex?, h0, hl]
    rw [e]; exact hc) h⟩ hs ht
local macro_rules | `(tactic| walk_at "call builtin:len") => `(tactic| (k_here; (with_reducible refine c1s ?_); (refine len_str_own (by walk_at "ao") ?_)))
local macro_rules | `(tactic| walk_at "subscriptTail Name Name str int") => `(tactic| (k_here; (with_reducible show wpAny _ _ (subscriptTail _ _ (Value.str _ _) (Value.int _ _)) _ _ _); k_dflt (refine item_str_own (by assumption) (by omega) ?_)))
local macro_rules | `(tactic| walk_at "call type:bytes") => `(tactic| (k_here; (with_reducible refine c1r ?_); k_dflt (refine' KBa.make_K (by k_asm) (by k_asm) (by rfl) (News.isList (by k_asm) (by k_mem)) ‹_› ‹_› (by walk_at "ao") ?_); intro _ _ _ F' N' _))

theorem canLayAll_strs : ∀ ys : List Str, (∀ y ∈ ys, PyData.canLay0 (.str y) = true) → PyData.canLayAll0 (ys.map PyData.str) = true
  | [], _ => rfl
  | y :: ys, h => by
    simp only [List.map_cons, PyData.canLayAll0, Bool.and_eq_true]
    exact ⟨h y List.mem_cons_self, canLayAll_strs ys fun z hz => h z (.tail _ hz)⟩
theorem depthAll_strs : ∀ ys : List Str, PyData.depthAll (ys.map PyData.str) = 0
  | [] => rfl
  | y :: ys => by simp [PyData.depthAll, PyData.depth, depthAll_strs ys]
theorem shaped_strs {ys : List Str} (h : ∀ y ∈ ys, PyData.canLay0 (.str y) = true) : PySem.SeqAt.shaped (.list (ys.map PyData.str)) = true := by
  simp only [PySem.SeqAt.shaped, PyData.canLay0, PyData.depth, depthAll_strs, canLayAll_strs ys h, Bool.true_and, decide_eq_true_eq]
  omega
theorem eq_strs_nil {prog : Program} {w : World} {A : Around} {E : Value → Shared → Prop} {s : Shared} {a b : Addr} {vs : List Value} {ys : List Str} {Q : Value → Shared → Prop} (hl : s.heap.IsList a vs.toArray) (hi : StrsAre vs ys) (hl' : s.heap.IsList b #[]) (hc : ∀ y ∈ ys, PyData.canLay0 (.str y) = true) (hp : 0 < vs.length) (hu : A.units + 64 < cLine)
    (h : Q (.bool false) s) : wpAny (model prog w) A (compareOp .Eq (.ref a) (.ref b)) Q E s :=
  eq_dataH (reads_newData hl hi.carried) (reads_newData (ys := []) hl' .nil) (shaped_strs hc) rfl hu (by
    have e : PyData.eqv (.list (ys.map PyData.str)) (.list []) = false := by
      cases ys with
      | nil => cases hi; simp at hp
      | cons y ys => simp [PyData.eqv, PyData.eqvAll]
    rw [e]; exact h)
local macro_rules | `(tactic| walk_at "compareOp Eq ref ref") => `(tactic| (k_here; k_dflt (refine' eq_strs_nil (News.isList (by k_asm) (by k_mem)) ‹_› (News.isList (by k_asm) (by k_mem)) ‹_› ‹_› (by ktr_units) ?_; k_whole)))

theorem calm_Up : True := by w_top off; trivial
theorem upper_text_c {w : World} {dp un : Nat} {gd : Option (List Code)} {cn : Str} {cs : Scope} {a : Addr} {ccd : Value} {cl : List (Str × Addr)} {outer : List Env} {A₀ : Around} {base h₀ : Heap} {L : Addr} {m : Str → Option Value} {news : List (Addr × Obj)} {p : Program} {loose : List Str} {mean : ExcName → Option Value} {mg mb : Str → Option Value} {s : Shared} {Q E : Value → Shared → Prop} (Z : Amb w cs outer A₀ base h₀ L s.heap m news p loose mean mg mb) (hd : dp + 1 < recursionLimit) (hu : un + 8 < cLine)
    {x : Str} {t : Tok} (hn : x.cps.size ≤ 1000) (hx : ∀ c ∈ x.cps.toList, c < 97)
    (ret : ∀ t' h' tk', Fr h₀ L h' m → News h₀ L h' news → Q (.str x t') { s with heap := h', toks := tk' }) :
    wpAny (model PG w) (ktrTop dp un gd cn cs L a ccd cl outer) (call (.ref 164) [.str x t]) Q E s := by
  obtain ⟨B, F, X, N, T, hk⟩ := Z
  refine wpAny_call ?_
  k_dflt cell_enter
  k_steps
  unfold Halt
  k_dflt (refine ListComp_G (by k_asm) (by with_unfolding_all rfl) (by decide) (by rfl) (by decide) (by rfl) ?_)
  k_steps
  rename News _ _ _ _ => N9
  refine ⟨_, _, _, _, by k_asm, N9, trivial, iter_str rfl (by rw [sizeLine_eq]; omega), fun g9 => ?_⟩
  refine comp_inv (fun i ys nw => nw = news ∧ StrsAre ys ((signs x).take i)) ⟨rfl, .nil⟩ ?_ ?_
  · rintro i ys nw v I oI C oC D m₂ h tk E' hi ⟨rfl, hys⟩ ⟨c, u, hc, rfl⟩ hC hm F8 N8 off ne
    have hc9 : c < 97 := hx c (by rw [Array.mem_toList_iff]; exact Array.mem_of_getElem? hc)
    have hlt : ({ cps := #[c] } : Str).cps.toList < (Str.ofString "a").cps.toList := by
      show [c] < [97]
      exact List.Lex.rel hc9
    try k_fold
    k_steps
    refine comp_end (by k_asm) N8 (fun p hp => hp) off trivial ⟨rfl, ?_⟩
    rw [List.take_add_one, show (signs x)[i]? = some { cps := #[c] } by simp [signs, hc]]
    exact strsAre_snoc hys
  · rintro ys nw ⟨rfl, hys⟩
    rw [show (signs x).take x.cps.size = signs x from List.take_of_length_le (Nat.le_of_eq (signs_length x))] at hys
    have hok := join_ok1 (xs := signs x) (fun y hy => by obtain ⟨c, _, rfl⟩ := List.mem_map.mp hy; rfl) (by rw [signs_length]; exact Nat.le_trans hn (by decide))
    have ej : Txt.join (Str.ofString "") (signs x) = x := str_of_codes (join_nil_codes _)
    k_steps
    rw [ej]
    exact ret _ _ _ (by k_asm) (by rename News h₀ L _ _ => N7; exact fun p hp => N7 p (.tail _ hp))

theorem calm_Fo : True := by w_top off; trivial
/-- the end of a turn that changes nothing but the loop's own name -/
def ForEnd (h₀ : Heap) (L : Addr) (m : Str → Option Value) (x : Str) (led : List (Addr × Obj)) (s₁ : Shared) (f : Flow) (s₂ : Shared) : Prop :=
  f = .next ∧ ∃ h' tk m', s₂ = { s₁ with heap := h', toks := tk } ∧ Fr h₀ L h' m' ∧ News h₀ L h' led ∧ ∀ z, z ≠ x → m' z = m z
def ForSrc (w : World) (A : Around) (h₀ : Heap) (env : Env) (m : Str → Option Value) (x : Str) (body : List Stmt) (Q : Flow → Shared → Prop) (E : Value → Shared → Prop) (xv : Value) (s₁ : Shared) : Prop :=
  ∃ r n t u v news, xv = .ref r ∧ A.handled = none ∧ IsRange s₁.heap r 0 ((n : Nat) : Int) 1 t u v ∧ n ≤ 100000 ∧ Fr h₀ env.locals s₁.heap m ∧ News h₀ env.locals s₁.heap news ∧
    (∀ (i : Nat) t h tk own, i < n → Fr h₀ env.locals h (fun y => if y = x then some (.int i t) else m y) → News h₀ env.locals h (own ++ news) → wpAny (model PG w) A (execs body env) (ForEnd h₀ env.locals m x (own ++ news) { s₁ with heap := h, toks := tk }) E { s₁ with heap := h, toks := tk }) ∧
    ∀ h tk (u : Str → Option Value), Fr h₀ env.locals h (fun y => if y = x then u y else m y) → News h₀ env.locals h news → Q .next { s₁ with heap := h, toks := tk }
theorem for_pure {w : World} {A : Around} {E : Value → Shared → Prop} {s : Shared} {h₀ : Heap} {m : Str → Option Value} {env : Env} {Q : Flow → Shared → Prop} {x : Str} {px pos : Pos} {iter : Expr} {body : List Stmt} (_F₀ : Fr h₀ env.locals s.heap m) (hx : env.kindOf x = some .local)
    (hp : (env.scope.kind == .class || (env.scope.kind == .module && env.locals != env.globals)) = false)
    (h : wpAny (model PG w) A (eval iter env) (ForSrc w A h₀ env m x body Q E) E s)
    (hs : ∀ x, foldedSetIterable iter env x = pure x := by intro _; rfl)
    (hE : PassesOwn (model PG w) A env E := by passes_own) :
    wpAny (model PG w) A (exec (.For (.Name x px) iter body [] pos) env) Q E s := by
  refine For_invV h₀ hx hp (wpAny_mono h (fun xv s₁ h₁ => ?_) fun _ _ e => e) hs hE
  obtain ⟨r, n, t, u, v, news, rfl, hh, hr, hn, F, N, turn, done⟩ := h₁
  have hsz : Builtin.Range.rangeSize 0 ((n : Nat) : Int) 1 = ((n : Nat) : Int) := by rw [rangeSize_nat]; omega
  refine wpAny_pyIter_range hr (small_one (by decide) (by decide) (by omega) (by omega)) ?_
  have up : ∀ (o : Obj) b o', s₁.heap.get? b = some o' → (s₁.heap.push o).get? b = some o' := fun o b o' e => Heap.get?_push_of_some _ e
  refine ⟨s₁.heap.objs.size, [s₁.heap.objs.size], [s₁.heap.objs.size], n, _, _, m, news, fun _ m₁ news₁ => news₁ = news ∧ ∀ z, z ≠ x → m₁ z = m z, rfl, LCg.range_walks hh 0 n, ?_, ?_, ?_, ?_, F.keeps (up _), N.grown (up _), ⟨rfl, fun _ _ => rfl⟩, ?_, ?_⟩
  · intro hm
    exact absurd F.ns.lt ((List.mem_singleton.mp hm) ▸ Nat.lt_irrefl _)
  · intro b hb
    rw [List.mem_singleton.mp hb]
    exact next_is_new F
  · intro p hp hI
    exact absurd (Heap.lt_size (N p hp).1) ((List.mem_singleton.mp hI) ▸ Nat.lt_irrefl _)
  · show IsRangeIter _ _ _ _ _
    rw [hsz]
    simpa using Heap.get?_push_size _ rfl
  · rintro i v m₁ news₁ s₂ own ⟨hh', tk', rfl⟩ hi ⟨t', rfl⟩ ⟨rfl, hm⟩ hoff _ _ _ _ F₁ N₁
    have em : (fun y => if y = x then some (Value.int (0 + (i : Int)) t') else m₁ y) = fun y => if y = x then some (Value.int (i : Int) t') else m y := by
      funext y
      by_cases q : y = x
      · simp [q]
      · simp only [if_neg q]; exact hm y q
    rw [em] at F₁
    refine wpAny_mono (turn i t' hh' tk' own hi F₁ N₁) (fun f s₃ h₃ => ?_) fun _ _ e => e
    obtain ⟨rfl, h', tk, m', rfl, F₂, N₂, hm'⟩ := h₃
    exact .next ⟨rfl, h', tk, m', news₁, rfl, F₂, N₂, hoff, rfl, hm'⟩
  · rintro h' tk m' news' F' N' _ ⟨rfl, hm⟩
    have em : m' = fun y => if y = x then m' y else m y := by
      funext y
      by_cases q : y = x
      · simp [q]
      · simp only [if_neg q]; exact hm y q
    rw [em] at F'
    exact done h' tk m' F' N'
local macro_rules | `(tactic| walk_at "exec For Name Call cons nil") => `(tactic| (k_here; refine Halt.go ?_))
theorem text_octets_c {w : World} {dp un : Nat} {gd : Option (List Code)} {cn : Str} {cs : Scope} {a : Addr} {ccd : Value} {cl : List (Str × Addr)} {outer : List Env} {A₀ : Around} {base h₀ : Heap} {L : Addr} {m : Str → Option Value} {news : List (Addr × Obj)} {p : Program} {loose : List Str} {mean : ExcName → Option Value} {mg mb : Str → Option Value} {s : Shared} {Q E : Value → Shared → Prop} (Z : Amb w cs outer A₀ base h₀ L s.heap m news p loose mean mg mb) (hd : dp + 1 < recursionLimit) (hu : un + 8 < cLine)
    {x : Str} {t : Tok} (hn : x.cps.size ≤ 1000) (hx : ∀ c ∈ x.cps.toList, c < 127)
    (ret : ∀ b t' h' tk', Fr h₀ L h' m → News h₀ L h' news → KBw.bInts b = x.cps.toList.map Int.ofNat → Q (.bytes b t') { s with heap := h', toks := tk' }) :
    wpAny (model PG w) (ktrTop dp un gd cn cs L a ccd cl outer) (call (.ref 169) [.str x t]) Q E s := by
  obtain ⟨B, F, X, N, T, hk⟩ := Z
  refine wpAny_call ?_
  k_dflt cell_enter
  k_steps
  unfold Halt
  k_dflt (refine for_pure (by k_asm) (by rfl) (by rfl) ?_)
  k_steps
  rename News _ _ _ _ => N9
  rename IsRange _ _ _ _ _ _ _ _ => R9
  refine ⟨_, _, _, _, _, _, rfl, rfl, R9, Nat.le_trans hn (by decide), by k_asm, N9, ?_, ?_⟩
  · intro i ti h tk own hi F8 N8
    have hc : x.cps[i]? = some x.cps[i] := by simp [hi]
    have hc9 := hx x.cps[i] (by simp)
    try k_fold
    k_steps
    exact ⟨rfl, _, _, _, rfl, by k_asm, by k_asm, fun z hz => if_neg hz⟩
  · intro h tk u F8 N8
    clear N9 R9
    try k_fold
    k_steps
    unfold Halt
    k_dflt (refine ListComp_G (by k_asm) (by with_unfolding_all rfl) (by decide) (by rfl) (by decide) (by rfl) ?_)
    k_steps
    refine ⟨_, _, _, _, by k_asm, N8, trivial, iter_str rfl (by rw [sizeLine_eq]; omega), fun g9 => ?_⟩
    refine comp_inv (fun i ys nw => nw = news ∧ IntsAre ys ((x.cps.toList.map Int.ofNat).take i)) ⟨rfl, .nil⟩ ?_ ?_
    · rintro i ys nw v I oI C oC D m₂ h tk E' hi ⟨rfl, hys⟩ ⟨c, u, hc, rfl⟩ hC hm F7 N7 off ne
      try k_fold
      k_steps
      refine comp_end (by k_asm) N7 (fun p hp => hp) off trivial ⟨rfl, ?_⟩
      rw [List.take_add_one, show (x.cps.toList.map Int.ofNat)[i]? = some (c : Int) by simp [hc]]
      exact intsAre_snoc hys
    · rintro ys nw ⟨rfl, hys⟩
      rw [show (x.cps.toList.map Int.ofNat).take x.cps.size = x.cps.toList.map Int.ofNat from List.take_of_length_le (by simp)] at hys
      have hin : KBa.In (x.cps.toList.map Int.ofNat) := by
        intro n hn'
        obtain ⟨c, hc, rfl⟩ := List.mem_map.mp hn'
        have := hx c hc
        simp only [Int.ofNat_eq_natCast]
        omega
      have hsz : (x.cps.toList.map Int.ofNat).length ≤ 16777216 := by simp only [List.length_map, Array.length_toList]; omega
      k_steps
      exact ret _ _ _ _ (by k_asm) (by rename News h₀ L _ _ => N7; exact fun p hp => N7 p (.tail _ hp)) (KBa.ints_make hin)

theorem calm_At : True := by w_top off; trivial
def barred : List Int := [40, 41, 123, 37, 42, 34, 92, 93, 32]
theorem bi_barred : KBw.bInts [40, 41, 123, 37, 42, 34, 92, 93, 32].toArray = barred := rfl
/-- a code that an atom may bear -/
def atomB (c : Int) : Bool := decide (32 < c) && decide (c < 127) && !decide (c ∈ barred)
local macro_rules | `(tactic| walk_at "compareOp NotIn int bytes") => `(tactic| (k_here; (refine notin_bytes (by first | assumption | with_unfolding_all exact bi_barred) (by walk_at "ao") (by walk_at "ao") ?_)))
theorem is_atom_code_c {w : World} {dp un : Nat} {gd : Option (List Code)} {cn : Str} {cs : Scope} {a : Addr} {ccd : Value} {cl : List (Str × Addr)} {outer : List Env} {A₀ : Around} {base h₀ : Heap} {L : Addr} {m : Str → Option Value} {news : List (Addr × Obj)} {p : Program} {loose : List Str} {mean : ExcName → Option Value} {mg mb : Str → Option Value} {s : Shared} {Q E : Value → Shared → Prop} (Z : Amb w cs outer A₀ base h₀ L s.heap m news p loose mean mg mb) (hd : dp + 1 < recursionLimit) (hu : un + 8 < cLine)
    {c : Int} {t : Tok}
    (ret : ∀ h' tk', Fr h₀ L h' m → News h₀ L h' news → Q (.bool (atomB c)) { s with heap := h', toks := tk' }) :
    wpAny (model PG w) (ktrTop dp un gd cn cs L a ccd cl outer) (call (.ref 241) [.int c t]) Q E s := by
  obtain ⟨B, F, X, N, T, hk⟩ := Z
  refine wpAny_call ?_
  k_dflt cell_enter
  k_steps
  all_goals exact c_retB ret (by
    unfold atomB
    by_cases q1 : 32 < c <;> by_cases q2 : c < 127 <;> simp only [q1, q2, decide_true, decide_false, Bool.true_and, Bool.false_and] <;> first | rfl | contradiction | (exfalso; omega)) (by k_asm) (by k_asm)
local macro_rules | `(tactic| walk_at "call ref") => `(tactic| (k_here; (with_reducible refine cr1 241 ?_); k_dflt (refine' is_atom_code_c (by walk_at "amb") (by ktr_room) (by ktr_units) ?_; walk_at "fin4")))
/-- a code as a quoted name shows it -/
def escN (c : Nat) : List Nat := if c = 34 ∨ c = 92 then [92, c] else [c]
def escC (cs : List Nat) : List Int := ((cs.map escN).flatten).map Int.ofNat
theorem escC_cons (c : Nat) (cs : List Nat) : escC (c :: cs) = (escN c).map Int.ofNat ++ escC cs := by simp [escC]
theorem take_quoted_c {w : World} {dp un : Nat} {gd : Option (List Code)} {cn : Str} {cs : Scope} {a : Addr} {ccd : Value} {cl : List (Str × Addr)} {outer : List Env} {A₀ : Around} {base h₀ : Heap} {L : Addr} {m : Str → Option Value} {news : List (Addr × Obj)} {p : Program} {loose : List Str} {mean : ExcName → Option Value} {mg mb : Str → Option Value} {s : Shared} {Q E : Value → Shared → Prop} (Z : Amb w cs outer A₀ base h₀ L s.heap m news p loose mean mg mb) (hd : dp + 4 < recursionLimit) (hu : un + 32 < cLine)
    {x dx : Addr} {b : Array UInt8} {ks : List Int} {i : Nat} {k1 k2 k3 tb ti te : Tok} {g : Obj → List (Addr × Obj)} (hx : (x, instObj 155 dx) ∈ news) (hU : UpdF dx (curD w.params b i ks.length k1 k2 k3 tb ti te) news g) (hb : KBw.bInts b = ks) (hn : ks.length ≤ 1000) {cz : List Nat} {r : List Int} (hl : ks.drop i = escC cz ++ 34 :: r) (hcz : ∀ c ∈ cz, 32 ≤ c ∧ c < 127) (hcl : cz.length ≤ 1000)
    (ret : ∀ t' ti' h' tk' j, Fr h₀ L h' m → News h₀ L h' (g (curD w.params b (j : Nat) ks.length k1 k2 k3 tb ti' te)) → j = i + (escC cz).length + 1 → ks.drop j = r → Q (.str ⟨cz.toArray⟩ t') { s with heap := h', toks := tk' }) :
    wpAny (model PG w) (ktrTop dp un gd cn cs L a ccd cl outer) (call (.ref 248) [.ref x]) Q E s := by
  obtain ⟨B, F, X, N, T, hk⟩ := Z
  obtain ⟨R, hR, hxd, N, back, backLt⟩ := cur_open2 N hx hU (by intro e; cases e)
  refine wpAny_call ?_
  k_dflt cell_enter
  k_steps
  unfold Halt
  rename Fr _ _ _ _ => F9
  rename News _ _ _ _ => N9
  obtain ⟨la, hla⟩ : ∃ la, la = ledA N9 := ⟨_, rfl⟩
  dsimp only [ledA] at hla
  subst hla
  with_unfolding_all refine' ksw_while (σ := Nat × Nat × Tok × List Value) (fun c => (la, PySem.W.listOf c.2.2.2.toArray c.2.2.2.length) :: (dx, curD w.params b (c.2.1 : Nat) ks.length k1 k2 k3 tb c.2.2.1 te) :: (x, instObj 155 dx) :: R) (fun _ => []) (fun c => StrsAre c.2.2.2 ((cz.take c.1).map fun c => ⟨#[c]⟩) ∧ ks.drop c.2.1 = escC (cz.drop c.1) ++ 34 :: r ∧ c.2.1 + (escC (cz.drop c.1)).length = i + (escC cz).length) [Str.ofString "code"] (fun c => c.1 ≤ cz.length) (fun c => cz.length - c.1) (0, i, _, []) F9 N9 ⟨.nil, hl, rfl⟩ (by intro p hp; cases hp) (Nat.zero_le _) ?_ ?_
  rotate_left
  · passes_own
  clear F9 N9
  rintro ⟨k, j, tj, vs⟩ u h tk ⟨hvs, hlj, hsum⟩ hk F9 N9
  dsimp only at hvs hlj hk hsum F9 N9
  have hvl := strsAre_length hvs
  simp only [List.length_map, List.length_take] at hvl
  try k_fold
  cases hq : cz.drop k with
  | nil =>
    rw [hq] at hlj hsum
    have hlj : ks.drop j = 34 :: r := hlj
    have hkl : k = cz.length := by have := congrArg List.length hq; simp only [List.length_drop, List.length_nil] at this; omega
    subst hkl
    rw [List.take_length] at hvs
    have hok := join_ok1 (xs := cz.map fun c => ⟨#[c]⟩) (fun y hy => by obtain ⟨c, _, rfl⟩ := List.mem_map.mp hy; rfl) (by rw [List.length_map]; omega)
    have ej : Txt.join (Str.ofString "") (cz.map fun c => ⟨#[c]⟩) = ⟨cz.toArray⟩ := str_of_codes (join_nil_codes cz)
    have hj9 : j + 1 = i + (escC cz).length + 1 := by
      have e0 : (escC []).length = 0 := rfl
      omega
    k_steps
    rw [ej]
    exact ret _ _ _ _ (j + 1) (by k_asm) (back _ _ (by rename News h₀ L _ _ => N7; exact fun p hp => N7 p (.tail _ hp))) hj9 (by assumption)
  | cons c cz' =>
    rw [hq] at hlj hsum
    have hkl : k < cz.length := by have := congrArg List.length hq; simp only [List.length_drop, List.length_cons] at this; omega
    have hc9 := hcz c (List.mem_of_mem_drop (hq ▸ List.mem_cons_self))
    have h9 : cz.take (k + 1) = cz.take k ++ [c] := by
      have e9 : cz[k]? = some c := by
        have := congrArg List.head? hq
        rw [List.head?_drop] at this
        exact this
      rw [List.take_add_one, e9]; rfl
    have h8 : cz.drop (k + 1) = cz' := by rw [← List.drop_drop, hq]; rfl
    by_cases hc : c = 34 ∨ c = 92
    · rw [escC_cons, show escN c = [92, c] from if_pos hc] at hlj hsum
      have hlj1 : ks.drop j = 92 :: (c : Int) :: (escC cz' ++ 34 :: r) := hlj
      have hlj2 : ks.drop (j + 1) = (c : Int) :: (escC cz' ++ 34 :: r) := by rw [← List.drop_drop, hlj1]; rfl
      clear hlj
      have hany : ([34, 92].any fun x => x == (c : Int)) = true := by rcases hc with rfl | rfl <;> decide
      k_steps
      rename News _ _ _ _ => N9
      rw [lst_snoc, Int.toNat_natCast] at N9
      simp only [List.length_append, List.length_map, List.length_cons, List.length_nil] at hsum
      exact ksw_end (k + 1, j + 1 + 1, _, vs ++ [_]) (by assumption) N9 (fun p hp => .tail _ hp) ⟨by
        dsimp only
        rw [h9, List.map_append]
        exact strsAre_snoc hvs, by
        dsimp only
        rw [h8]; assumption, by
        dsimp only
        rw [h8]; omega⟩ (fun p hp => nomatch hp) (fun z _ h3 => by
          have h4 : z ≠ Str.ofString "code" := by intro q; rw [q] at h3; exact absurd h3 (by decide)
          simp only [if_neg h4, kstB, h3, Bool.false_eq_true, if_false]) hkl (by dsimp only; omega)
    · rw [escC_cons, show escN c = [c] from if_neg hc] at hlj hsum
      have hlj1 : ks.drop j = (c : Int) :: (escC cz' ++ 34 :: r) := hlj
      clear hlj
      k_steps
      rename News _ _ _ _ => N9
      rw [lst_snoc, Int.toNat_natCast] at N9
      simp only [List.length_append, List.length_map, List.length_cons, List.length_nil] at hsum
      exact ksw_end (k + 1, j + 1, _, vs ++ [_]) (by assumption) N9 (fun p hp => hp) ⟨by
        dsimp only
        rw [h9, List.map_append]
        exact strsAre_snoc hvs, by
        dsimp only
        rw [h8]; assumption, by
        dsimp only
        rw [h8]; omega⟩ (fun p hp => nomatch hp) (fun z _ h3 => by
          have h4 : z ≠ Str.ofString "code" := by intro q; rw [q] at h3; exact absurd h3 (by decide)
          simp only [if_neg h4, kstB, h3, Bool.false_eq_true, if_false]) hkl (by dsimp only; omega)

theorem calm_Na : True := by w_top off; trivial
local macro_rules | `(tactic| walk_at "call ref") => `(tactic| (k_here; (with_reducible refine cr1 248 ?_); k_dflt (refine' take_quoted_c (by walk_at "amb") (by ktr_room) (by ktr_units) (by k_mem) (by k_updF) ‹_› (by walk_at "ao") ‹_› ‹_› ‹_› ?_; walk_at "fin9")))
/-- how a name stands in the text -/
def NameSh (cz : List Nat) (sh : List Int) : Prop := (cz ≠ [] ∧ (∀ c ∈ cz, atomB (c : Int) = true) ∧ sh = cz.map Int.ofNat) ∨ sh = 34 :: (escC cz ++ [34])
theorem take_name_c {w : World} {dp un : Nat} {gd : Option (List Code)} {cn : Str} {cs : Scope} {a : Addr} {ccd : Value} {cl : List (Str × Addr)} {outer : List Env} {A₀ : Around} {base h₀ : Heap} {L : Addr} {m : Str → Option Value} {news : List (Addr × Obj)} {p : Program} {loose : List Str} {mean : ExcName → Option Value} {mg mb : Str → Option Value} {s : Shared} {Q E : Value → Shared → Prop} (Z : Amb w cs outer A₀ base h₀ L s.heap m news p loose mean mg mb) (hd : dp + 5 < recursionLimit) (hu : un + 200 < cLine)
    {x dx : Addr} {b : Array UInt8} {ks : List Int} {i : Nat} {k1 k2 k3 tb ti te : Tok} {g : Obj → List (Addr × Obj)} (hx : (x, instObj 155 dx) ∈ news) (hU : UpdF dx (curD w.params b i ks.length k1 k2 k3 tb ti te) news g) (hb : KBw.bInts b = ks) (hn : ks.length ≤ 1000) {cz : List Nat} {sh r : List Int} (hl : ks.drop i = sh ++ r) (hsh : NameSh cz sh) (hcz : ∀ c ∈ cz, 32 ≤ c ∧ c < 127) (hcl : cz.length ≤ 1000) (hr : atomB (r.headD (-1)) = false)
    (ret : ∀ t' ti' h' tk' j, Fr h₀ L h' m → News h₀ L h' (g (curD w.params b (j : Nat) ks.length k1 k2 k3 tb ti' te)) → j = i + sh.length → ks.drop j = r → Q (.str ⟨cz.toArray⟩ t') { s with heap := h', toks := tk' }) :
    wpAny (model PG w) (ktrTop dp un gd cn cs L a ccd cl outer) (call (.ref 255) [.ref x]) Q E s := by
  obtain ⟨B, F, X, N, T, hk⟩ := Z
  obtain ⟨R, hR, hxd, N, back, backLt⟩ := cur_open2 N hx hU (by intro e; cases e)
  rcases hsh with ⟨hne, hat, rfl⟩ | rfl
  · have hl1 : ∃ c l, ks.drop i = c :: l ∧ c ≠ 34 := by
      cases cz with
      | nil => exact absurd rfl hne
      | cons c cz =>
        refine ⟨(c : Int), _, hl, fun e => ?_⟩
        have := hat c List.mem_cons_self
        rw [e] at this
        exact absurd this (by decide)
    obtain ⟨c0, l0, hl0, hc0⟩ := hl1
    refine wpAny_call ?_
    k_dflt cell_enter
    k_steps
    unfold Halt
    rename Fr _ _ _ _ => F9
    rename News _ _ _ _ => N9
    obtain ⟨la, hla⟩ : ∃ la, la = ledA N9 := ⟨_, rfl⟩
    dsimp only [ledA] at hla
    subst hla
    with_unfolding_all refine' ksw_while (σ := Nat × Tok × List Value) (fun c => (la, PySem.W.listOf c.2.2.toArray c.2.2.length) :: (dx, curD w.params b ((i + c.1 : Nat) : Int) ks.length k1 k2 k3 tb c.2.1 te) :: (x, instObj 155 dx) :: R) (fun _ => []) (fun c => StrsAre c.2.2 ((cz.take c.1).map fun c => ⟨#[c]⟩)) [] (fun c => c.1 ≤ cz.length) (fun c => cz.length - c.1) (0, _, []) F9 N9 .nil (by intro p hp; cases hp) (Nat.zero_le _) ?_ ?_
    rotate_left
    · passes_own
    clear F9 N9
    rintro ⟨k, tj, vs⟩ u h tk hvs hk F9 N9
    dsimp only at hvs hk F9 N9
    have hvl := strsAre_length hvs
    simp only [List.length_map, List.length_take] at hvl
    have hlk : ks.drop (i + k) = (cz.drop k).map Int.ofNat ++ r := by rw [← List.drop_drop, hl, List.drop_append_of_le_length (by simpa using hk), List.map_drop]
    try k_fold
    cases hq : cz.drop k with
    | nil =>
      rw [hq] at hlk
      have hlk : ks.drop (i + k) = r := hlk
      have hkl : k = cz.length := by have := congrArg List.length hq; simp only [List.length_drop, List.length_nil] at this; omega
      subst hkl
      rw [List.take_length] at hvs
      have hok := join_ok1 (xs := cz.map fun c => ⟨#[c]⟩) (fun y hy => by obtain ⟨c, _, rfl⟩ := List.mem_map.mp hy; rfl) (by rw [List.length_map]; omega)
      have ej : Txt.join (Str.ofString "") (cz.map fun c => ⟨#[c]⟩) = ⟨cz.toArray⟩ := str_of_codes (join_nil_codes cz)
      have hpos : 0 < vs.length := by
        cases cz with
        | nil => exact absurd rfl hne
        | cons c cz => simp only [List.length_cons] at hvl; omega
      have hcan : ∀ y ∈ cz.map fun c => (⟨#[c]⟩ : Str), PyData.canLay0 (.str y) = true := by
        intro y hy
        obtain ⟨c, hc, rfl⟩ := List.mem_map.mp hy
        have := hcz c hc
        simp [PyData.canLay0, PyData.strOk]
        omega
      k_steps
      rw [ej]
      exact ret _ _ _ _ (i + cz.length) (by k_asm) (back _ _ (by rename News h₀ L _ _ => N7; exact fun p hp => N7 p (.tail _ (.tail _ hp)))) (by rw [List.length_map]) hlk
    | cons c cz' =>
      rw [hq] at hlk
      have hlk : ks.drop (i + k) = (c : Int) :: (cz'.map Int.ofNat ++ r) := hlk
      have hkl : k < cz.length := by have := congrArg List.length hq; simp only [List.length_drop, List.length_cons] at this; omega
      have hmem : c ∈ cz := List.mem_of_mem_drop (hq ▸ List.mem_cons_self)
      have hc9 := hcz c hmem
      have hca := hat c hmem
      have h9 : cz.take (k + 1) = cz.take k ++ [c] := by
        have e9 : cz[k]? = some c := by
          have := congrArg List.head? hq
          rw [List.head?_drop] at this
          exact this
        rw [List.take_add_one, e9]; rfl
      k_steps
      rename News _ _ _ _ => N9
      rw [lst_snoc, Int.toNat_natCast] at N9
      exact ksw_end (k + 1, _, vs ++ [_]) (by assumption) N9 (fun p hp => hp) (by
        dsimp only
        rw [h9, List.map_append]
        exact strsAre_snoc hvs) (fun p hp => nomatch hp) (fun _ _ _ => rfl) hkl (by dsimp only; omega)
  · have hl0 : ks.drop i = 34 :: (escC cz ++ 34 :: r) := by rw [hl]; simp
    have hl2 : ks.drop (i + 1) = escC cz ++ 34 :: r := by rw [← List.drop_drop, hl0]; rfl
    refine wpAny_call ?_
    k_dflt cell_enter
    k_steps
    exact ret _ _ _ _ _ (by k_asm) (back _ _ (by k_asm)) (by simp only [List.length_cons, List.length_append, List.length_nil]; omega) (by assumption)

theorem calm_Ns : True := by w_top off; trivial
local macro_rules | `(tactic| walk_at "call ref") => `(tactic| (k_here; (with_reducible refine cr1 255 ?_); k_dflt (refine' take_name_c (by walk_at "amb") (by ktr_room) (by ktr_units) (by k_mem) (by k_updF) ‹_› (by walk_at "ao") ‹_› ‹_› ‹_› (by walk_at "ao") ‹_› ?_; k_whole; intro t' ti' h' tk' j' F' N' hj' hr'; subst hj'; (try k_fold); (try k_sweep))))
/-- names as they stand: a blank ahead of each -/
def tailSh : List (List Int) → List Int
  | [] => []
  | sh :: r => 32 :: (sh ++ tailSh r)
structure NameOk (cz : List Nat) (sh : List Int) : Prop where
  sh : NameSh cz sh
  cod : ∀ c ∈ cz, 32 ≤ c ∧ c < 127
  few : cz.length ≤ 1000
theorem strOf_can {cz : List Nat} (h : ∀ c ∈ cz, 32 ≤ c ∧ c < 127) : PyData.canLay0 (.str ⟨cz.toArray⟩) = true := by
  simp only [PyData.canLay0, PyData.strOk]
  simp
  intro c hc
  have := h c hc
  omega
theorem take_names_c {w : World} {dp un : Nat} {gd : Option (List Code)} {cn : Str} {cs : Scope} {a : Addr} {ccd : Value} {cl : List (Str × Addr)} {outer : List Env} {A₀ : Around} {base h₀ : Heap} {L : Addr} {m : Str → Option Value} {news : List (Addr × Obj)} {p : Program} {loose : List Str} {mean : ExcName → Option Value} {mg mb : Str → Option Value} {s : Shared} {Q E : Value → Shared → Prop} (Z : Amb w cs outer A₀ base h₀ L s.heap m news p loose mean mg mb) (hd : dp + 6 < recursionLimit) (hu : un + 300 < cLine)
    {x dx : Addr} {b : Array UInt8} {ks : List Int} {i : Nat} {k1 k2 k3 tb ti te : Tok} {g : Obj → List (Addr × Obj)} (hx : (x, instObj 155 dx) ∈ news) (hU : UpdF dx (curD w.params b i ks.length k1 k2 k3 tb ti te) news g) (hb : KBw.bInts b = ks) (hn : ks.length ≤ 1000) {czs : List (List Nat)} {shs : List (List Int)} {r : List Int} {cz0 : List Nat} {sh0 : List Int} (hlen : czs.length = shs.length) (hl : ks.drop i = 32 :: 40 :: (sh0 ++ (tailSh shs ++ 41 :: r)))
    (h0 : NameOk cz0 sh0) (hn0 : ∀ k (_ : k < czs.length) (_ : k < shs.length), NameOk czs[k] shs[k]) (hfew : czs.length ≤ 100)
    (ret : ∀ tp vs ti' h' tk' j, Fr h₀ L h' m → News h₀ L h' ((tp, { cls := .type "tuple", data := .seq vs.toArray }) :: g (curD w.params b (j : Nat) ks.length k1 k2 k3 tb ti' te)) → StrsAre vs ((cz0 :: czs).map fun cz => ⟨cz.toArray⟩) → j = i + 3 + sh0.length + (tailSh shs).length → ks.drop j = r → AllLt tp (g (curD w.params b (j : Nat) ks.length k1 k2 k3 tb ti' te)) → Q (.ref tp) { s with heap := h', toks := tk' }) :
    wpAny (model PG w) (ktrTop dp un gd cn cs L a ccd cl outer) (call (.ref 262) [.ref x]) Q E s := by
  obtain ⟨B, F, X, N, T, hk⟩ := Z
  obtain ⟨R, hR, hxd, N, back, backLt⟩ := cur_open2 N hx hU (by intro e; cases e)
  obtain ⟨q1, q2, q3⟩ := h0
  have hl1 : ks.drop (i + 1) = 40 :: (sh0 ++ (tailSh shs ++ 41 :: r)) := by rw [← List.drop_drop, hl]; rfl
  have hl2 : ks.drop (i + 1 + 1) = sh0 ++ (tailSh shs ++ 41 :: r) := by rw [← List.drop_drop, hl1]; rfl
  have hat : atomB ((tailSh shs ++ 41 :: r).headD (-1)) = false := by
    cases shs with
    | nil => exact (show atomB 41 = false by decide)
    | cons sh shs => exact (show atomB 32 = false by decide)
  refine wpAny_call ?_
  k_dflt cell_enter
  k_steps
  unfold Halt
  rename Fr _ _ _ _ => F9
  rename News _ _ _ _ => N9
  obtain ⟨la, hla⟩ : ∃ la, la = ledA N9 := ⟨_, rfl⟩
  dsimp only [ledA] at hla
  subst hla
  with_unfolding_all refine' ksw_while (σ := Nat × Nat × Tok × List Value) (fun c => (la, PySem.W.listOf c.2.2.2.toArray c.1) :: (dx, curD w.params b (c.2.1 : Nat) ks.length k1 k2 k3 tb c.2.2.1 te) :: (x, instObj 155 dx) :: R) (fun _ => []) (fun c => StrsAre c.2.2.2 ((cz0 :: czs.take c.1).map fun cz => ⟨cz.toArray⟩) ∧ ks.drop c.2.1 = tailSh (shs.drop c.1) ++ 41 :: r ∧ c.2.1 + (tailSh (shs.drop c.1)).length + 1 = i + 3 + sh0.length + (tailSh shs).length) [] (fun c => c.1 ≤ czs.length) (fun c => czs.length - c.1) (0, i + 1 + 1 + sh0.length, _, [_]) F9 N9 ⟨.cons _ _ .nil, by assumption, by simp only [List.drop_zero]; omega⟩ (by intro p hp; cases hp) (Nat.zero_le _) ?_ ?_
  rotate_left
  · passes_own
  clear F9 N9
  rintro ⟨k, j, tj, vs⟩ u h tk ⟨hvs, hlj, hsum⟩ hk F9 N9
  dsimp only at hvs hlj hk hsum F9 N9
  have hvl := strsAre_length hvs
  simp only [List.length_map, List.length_cons, List.length_take] at hvl
  have hjl : j ≤ ks.length := by
    rcases Nat.lt_or_ge ks.length j with q | q
    · rw [List.drop_eq_nil_of_le (Nat.le_of_lt q)] at hlj
      have := congrArg List.length hlj
      simp at this
    · exact q
  try k_fold
  cases hq : shs.drop k with
  | nil =>
    rw [hq] at hlj hsum
    have hlj : ks.drop j = 41 :: r := hlj
    have hkl : k = czs.length := by have := congrArg List.length hq; simp only [List.length_drop, List.length_nil] at this; omega
    subst hkl
    rw [List.take_length] at hvs
    have hj9 : j + 1 = i + 3 + sh0.length + (tailSh shs).length := by
      have e0 : (tailSh []).length = 0 := rfl
      omega
    k_steps
    rename _ ∧ _ ∧ _ ∧ AllLt _ _ => q9
    exact ret _ vs _ _ _ (j + 1) (by k_asm) (news_new (by k_asm) (back _ _)) hvs hj9 (by assumption) (backLt _ _ q9.2.1 q9.2.2.2)
  | cons sh shs' =>
    rw [hq] at hlj hsum
    have hlj : ks.drop j = 32 :: (sh ++ (tailSh shs' ++ 41 :: r)) := by rw [hlj]; simp [tailSh]
    have hks : k < shs.length := by have := congrArg List.length hq; simp only [List.length_drop, List.length_cons] at this; omega
    have hkl : k < czs.length := by omega
    have e9 : shs[k] = sh := by
      have := congrArg List.head? hq
      rw [List.head?_drop, List.getElem?_eq_getElem hks] at this
      exact Option.some.inj this
    obtain ⟨p1, p2, p3⟩ := hn0 k hkl hks
    rw [e9] at p1
    clear e9
    have h9 : czs.take (k + 1) = czs.take k ++ [czs[k]] := List.take_succ_eq_append_getElem hkl
    generalize czs[k] = cz at p1 p2 p3 h9
    have hsum1 : j + (1 + sh.length + (tailSh shs').length) + 1 = i + 3 + sh0.length + (tailSh shs).length := by
      simp only [tailSh, List.length_cons, List.length_append] at hsum
      omega
    clear hsum
    have hat1 : atomB ((tailSh shs' ++ 41 :: r).headD (-1)) = false := by
      cases shs' with
      | nil => exact (show atomB 41 = false by decide)
      | cons sh shs => exact (show atomB 32 = false by decide)
    have h8 : shs.drop (k + 1) = shs' := by rw [← List.drop_drop, hq]; rfl
    k_steps
    rename News _ _ _ _ => N9
    rw [List.push_toArray] at N9
    exact ksw_end (k + 1, j + 1 + sh.length, _, vs ++ [_]) (by assumption) N9 (fun p hp => hp) ⟨by
      dsimp only
      rw [h9, ← List.cons_append, List.map_append]
      exact strsAre_snoc hvs, by
      dsimp only
      rw [h8]; assumption, by
      dsimp only
      rw [h8]; omega⟩ (fun p hp => nomatch hp) (fun _ _ _ => rfl) hkl (by dsimp only; omega)
local macro_rules | `(tactic| walk_at "call ref") => `(tactic| (k_here; (with_reducible refine cr1 262 ?_); k_dflt (refine' take_names_c (by walk_at "amb") (by ktr_room) (by ktr_units) (by k_mem) (by k_updF) ‹_› (by walk_at "ao") ?b1 ?b2 ?b3 ?b4 ?b5 ?_; (case b2 => assumption); (case b1 => assumption); (case b3 => assumption); (case b4 => assumption); (case b5 => first | assumption | omega); k_whole; intro tp' vs' ti' h' tk' j' F' N' hvs' hj' hr' l1'; (try simp only [AllLt, and_true] at l1'); (try k_fold); (try k_sweep))))
theorem news_new0 {h₀ h : Heap} {L tp : Addr} {o : Obj} {l l' : List (Addr × Obj)} (N : News h₀ L h ((tp, o) :: l)) (bk : News h₀ L h l → News h₀ L h l') : News h₀ L h ((tp, o) :: l') := fun p hp => by
  rcases List.mem_cons.mp hp with rfl | hp
  · exact N _ (by simp)
  · exact bk (fun q hq => N q (by simp [hq])) p hp
/-- the wanted part: nothing, or an offset and a count -/
theorem take_partial_none {w : World} {dp un : Nat} {gd : Option (List Code)} {cn : Str} {cs : Scope} {a : Addr} {ccd : Value} {cl : List (Str × Addr)} {outer : List Env} {A₀ : Around} {base h₀ : Heap} {L : Addr} {m : Str → Option Value} {news : List (Addr × Obj)} {p : Program} {loose : List Str} {mean : ExcName → Option Value} {mg mb : Str → Option Value} {s : Shared} {Q E : Value → Shared → Prop} (Z : Amb w cs outer A₀ base h₀ L s.heap m news p loose mean mg mb) (hd : dp + 5 < recursionLimit) (hu : un + 300 < cLine)
    {x dx : Addr} {b : Array UInt8} {ks : List Int} {i : Nat} {k1 k2 k3 tb ti te : Tok} {g : Obj → List (Addr × Obj)} (hx : (x, instObj 155 dx) ∈ news) (hU : UpdF dx (curD w.params b i ks.length k1 k2 k3 tb ti te) news g) (hb : KBw.bInts b = ks) (hn : ks.length ≤ 1000) (hl : ks.drop i = []) (hi : i ≤ ks.length)
    (ret : ∀ h' tk', Fr h₀ L h' m → News h₀ L h' news → Q .none { s with heap := h', toks := tk' }) :
    wpAny (model PG w) (ktrTop dp un gd cn cs L a ccd cl outer) (call (.ref 269) [.ref x]) Q E s := by
  obtain ⟨B, F, X, N, T, hk⟩ := Z
  obtain ⟨pre, post, rfl, hg, h1, h2⟩ := hU.split
  have hdx : (dx, curD w.params b i ks.length k1 k2 k3 tb ti te) ∈ pre ++ (dx, curD w.params b i ks.length k1 k2 k3 tb ti te) :: post := by simp
  refine wpAny_call ?_
  k_dflt cell_enter
  k_steps
  exact ret _ _ (by k_asm) (by k_asm)
theorem take_partial_some {w : World} {dp un : Nat} {gd : Option (List Code)} {cn : Str} {cs : Scope} {a : Addr} {ccd : Value} {cl : List (Str × Addr)} {outer : List Env} {A₀ : Around} {base h₀ : Heap} {L : Addr} {m : Str → Option Value} {news : List (Addr × Obj)} {p : Program} {loose : List Str} {mean : ExcName → Option Value} {mg mb : Str → Option Value} {s : Shared} {Q E : Value → Shared → Prop} (Z : Amb w cs outer A₀ base h₀ L s.heap m news p loose mean mg mb) (hd : dp + 5 < recursionLimit) (hu : un + 300 < cLine)
    {x dx : Addr} {b : Array UInt8} {ks : List Int} {i : Nat} {k1 k2 k3 tb ti te : Tok} {g : Obj → List (Addr × Obj)} (hx : (x, instObj 155 dx) ∈ news) (hU : UpdF dx (curD w.params b i ks.length k1 k2 k3 tb ti te) news g) (hb : KBw.bInts b = ks) (hn : ks.length ≤ 1000) {d1 d2 : List Int} (hl : ks.drop i = 60 :: (d1 ++ 46 :: (d2 ++ 62 :: []))) (h1 : NumOk d1) (h1' : 0 ≤ valF d1) (h2 : NumOk d2) (h2' : 1 ≤ valF d2)
    (ret : ∀ tp t1 t2 ti' h' tk' j, Fr h₀ L h' m → News h₀ L h' ((tp, { cls := .type "tuple", data := .seq #[.int (valF d1) t1, .int (valF d2) t2] }) :: g (curD w.params b (j : Nat) ks.length k1 k2 k3 tb ti' te)) → ks.drop j = [] → AllLt tp (g (curD w.params b (j : Nat) ks.length k1 k2 k3 tb ti' te)) → Q (.ref tp) { s with heap := h', toks := tk' }) :
    wpAny (model PG w) (ktrTop dp un gd cn cs L a ccd cl outer) (call (.ref 269) [.ref x]) Q E s := by
  obtain ⟨B, F, X, N, T, hk⟩ := Z
  obtain ⟨R, hR, hxd, N, back, backLt⟩ := cur_open2 N hx hU (by intro e; cases e)
  obtain ⟨f1, f2, f3, f4, f5⟩ := h1
  obtain ⟨g1, g2, g3, g4, g5⟩ := h2
  have hl1 : ks.drop (i + 1) = d1 ++ 46 :: (d2 ++ 62 :: []) := by rw [← List.drop_drop, hl]; rfl
  have hl2 : ks.drop (i + 1 + d1.length) = 46 :: (d2 ++ 62 :: []) := by rw [← List.drop_drop, hl1]; simp
  have hl3 : ks.drop (i + 1 + d1.length + 1) = d2 ++ 62 :: [] := by rw [← List.drop_drop, hl2]; rfl
  rw [← getD_head hl1 f2] at f4
  rw [← getD_head hl3 g2] at g4
  have b1 : (46 :: (d2 ++ 62 :: [])).headD (-1) < 48 ∨ 57 < (46 :: (d2 ++ 62 :: [])).headD (-1) := by left; show (46 : Int) < 48; decide
  have b2 : (62 :: ([] : List Int)).headD (-1) < 48 ∨ 57 < (62 :: ([] : List Int)).headD (-1) := by right; show (57 : Int) < 62; decide
  refine wpAny_call ?_
  k_dflt cell_enter
  k_steps
  rename _ ∧ _ ∧ AllLt _ _ => q9
  exact ret _ _ _ _ _ _ _ (by k_asm) (news_new0 (by k_asm) (back _ _)) (by assumption) (backLt _ _ q9.1 q9.2.2)
local macro_rules | `(tactic| walk_at "call ref") => `(tactic| (k_here; (with_reducible refine cr1 269 ?_); k_dflt (first
  | (refine' take_partial_none (by walk_at "amb") (by ktr_room) (by ktr_units) (by k_mem) (by k_updF) ‹_› (by walk_at "ao") ‹_› (by walk_at "ao") ?_; walk_at "fin4")
  | (refine' take_partial_some (by walk_at "amb") (by ktr_room) (by ktr_units) (by k_mem) (by k_updF) ‹_› (by walk_at "ao") ‹_› ‹_› ‹_› ‹_› ‹_› ?_; k_whole; intro tp' t1' t2' ti' h' tk' j' F' N' hr' l1'; (try simp only [AllLt, and_true] at l1'); (try k_fold); (try k_sweep)))))

theorem calm_Wo : True := by w_top off; trivial
def letters : List Int := [65, 66, 67, 68, 69, 70, 71, 72, 73, 74, 75, 76, 77, 78, 79, 80, 81, 82, 83, 84, 85, 86, 87, 88, 89, 90, 97, 98, 99, 100, 101, 102, 103, 104, 105, 106, 107, 108, 109, 110, 111, 112, 113, 114, 115, 116, 117, 118, 119, 120, 121, 122, 46]
theorem bi_letters : KBw.bInts [65, 66, 67, 68, 69, 70, 71, 72, 73, 74, 75, 76, 77, 78, 79, 80, 81, 82, 83, 84, 85, 86, 87, 88, 89, 90, 97, 98, 99, 100, 101, 102, 103, 104, 105, 106, 107, 108, 109, 110, 111, 112, 113, 114, 115, 116, 117, 118, 119, 120, 121, 122, 46].toArray = letters := rfl
theorem shapedT_ints (ns : List Int) : PySem.SeqAt.shaped (.tuple (ns.map PyData.int)) = true := by
  simp only [PySem.SeqAt.shaped, PyData.canLay0, PyData.depth, ke_canLayAll0, ke_depthAll, Bool.true_and, decide_eq_true_eq]
  omega
theorem eqv_tup_nil (ns : List Int) : PyData.eqv (.tuple (ns.map PyData.int)) (.tuple []) = decide (ns = []) := by
  cases ns with
  | nil => rfl
  | cons n ns => simp [PyData.eqv, PyData.eqvAll]
section
variable {prog : Program} {w : World} {A : Around} {E : Value → Shared → Prop} {s : Shared} {a b : Addr} {vs : List Value} {ns : List Int} {Q : Value → Shared → Prop}
theorem isTupR {h : Heap} {h₀ : Heap} {L : Addr} {news : List (Addr × Obj)} {k : Nat} (N : News h₀ L h news) (hm : (a, ({ cls := .type "tuple", data := .seq vs.toArray k } : Obj)) ∈ news) (hi : IntsAre vs ns) : Reads h (.ref a) (.tuple (ns.map PyData.int)) [] :=
  reads_newDataT ⟨_, N.get hm, rfl, _, rfl⟩ (ke_carried hi)
theorem eq_tup_nil (ha : Reads s.heap (.ref a) (.tuple (ns.map PyData.int)) []) (hb : Reads s.heap (.ref b) (.tuple []) []) (hu : A.units + 64 < cLine) (h : Q (.bool (decide (ns = []))) s) : wpAny (model prog w) A (compareOp .Eq (.ref a) (.ref b)) Q E s :=
  eq_dataH ha hb (shapedT_ints ns) rfl hu (by rw [eqv_tup_nil]; exact h)
theorem ne_tup_nil (ha : Reads s.heap (.ref a) (.tuple (ns.map PyData.int)) []) (hb : Reads s.heap (.ref b) (.tuple []) []) (hu : A.units + 64 < cLine) (h : Q (.bool (!decide (ns = []))) s) : wpAny (model prog w) A (compareOp .NotEq (.ref a) (.ref b)) Q E s :=
  ne_dataH ha hb (shapedT_ints ns) rfl hu (by rw [eqv_tup_nil]; exact h)
end
local macro_rules | `(tactic| walk_at "compareOp Eq ref ref") => `(tactic| (k_here; k_dflt (refine' eq_tup_nil (isTupR (by k_asm) (by k_mem) ‹_›) (isTupR (vs := []) (ns := []) (by k_asm) (by k_mem) .nil) (by ktr_units) ?_; k_whole)))
local macro_rules | `(tactic| walk_at "compareOp NotEq ref ref") => `(tactic| (k_here; k_dflt (refine' ne_tup_nil (isTupR (by k_asm) (by k_mem) ‹_›) (isTupR (vs := []) (ns := []) (by k_asm) (by k_mem) .nil) (by ktr_units) ?_; k_whole)))
local macro_rules | `(tactic| walk_at "call ref") => `(tactic| (k_here; (with_reducible refine cr2 131 ?_); k_dflt (refine' take_while_c (by walk_at "amb") (by ktr_room) (by ktr_units) (by k_mem) (by k_updF) ‹_› (by walk_at "ao") (by first | assumption | with_unfolding_all exact bi_letters) (by walk_at "ao") ‹_› ‹_› ‹_› ?_; walk_at "fin9")))
local macro_rules | `(tactic| walk_at "call ref") => `(tactic| (k_here; (with_reducible refine cr1 164 ?_); k_dflt (refine' upper_text_c (by walk_at "amb") (by ktr_room) (by ktr_units) (by walk_at "ao") ‹_› ?_; walk_at "fin5")))
/-- a word of a section, with its codes -/
structure WordOk (x : Str) : Prop where
  cod : ∀ c ∈ x.cps.toList, c < 97
  ltr : ∀ c ∈ x.cps.toList.map Int.ofNat, c ∈ letters
  few : x.cps.size ≤ 20
theorem take_word_nil {w : World} {dp un : Nat} {gd : Option (List Code)} {cn : Str} {cs : Scope} {a : Addr} {ccd : Value} {cl : List (Str × Addr)} {outer : List Env} {A₀ : Around} {base h₀ : Heap} {L : Addr} {m : Str → Option Value} {news : List (Addr × Obj)} {p : Program} {loose : List Str} {mean : ExcName → Option Value} {mg mb : Str → Option Value} {s : Shared} {Q E : Value → Shared → Prop} (Z : Amb w cs outer A₀ base h₀ L s.heap m news p loose mean mg mb) (hd : dp + 4 < recursionLimit) (hu : un + 300 < cLine)
    {x dx : Addr} {b : Array UInt8} {ks : List Int} {i : Nat} {k1 k2 k3 tb ti te : Tok} {g : Obj → List (Addr × Obj)} (hx : (x, instObj 155 dx) ∈ news) (hU : UpdF dx (curD w.params b i ks.length k1 k2 k3 tb ti te) news g) (hb : KBw.bInts b = ks) (hn : ks.length ≤ 1000) {pa : Value} {r : List Int} (hl : ks.drop i = 93 :: r) (hi : i ≤ ks.length)
    (ret : ∀ t' h' tk', Fr h₀ L h' m → News h₀ L h' news → Q (.str (Str.ofString "") t') { s with heap := h', toks := tk' }) :
    wpAny (model PG w) (ktrTop dp un gd cn cs L a ccd cl outer) (call (.ref 234) [.ref x, pa]) Q E s := by
  obtain ⟨B, F, X, N, T, hk⟩ := Z
  obtain ⟨pre, post, rfl, hg, h1, h2⟩ := hU.split
  have hdx : (dx, curD w.params b i ks.length k1 k2 k3 tb ti te) ∈ pre ++ (dx, curD w.params b i ks.length k1 k2 k3 tb ti te) :: post := by simp
  refine wpAny_call ?_
  k_dflt cell_enter
  k_steps
  exact ret _ _ _ (by k_asm) (by k_asm)
theorem cur_open3 {h₀ h : Heap} {L x dx : Addr} {news : List (Addr × Obj)} {g : Obj → List (Addr × Obj)} {o : Obj} (N : News h₀ L h news) (hx : (x, instObj 155 dx) ∈ news) (U : UpdF dx o news g) (ho : o.data ≠ .plain) :
    ∃ R, (∀ p ∈ R, p.1 ≠ dx) ∧ x ≠ dx ∧ News h₀ L h ((dx, o) :: (x, instObj 155 dx) :: R) ∧ (∀ h' o', News h₀ L h' ((dx, o') :: (x, instObj 155 dx) :: R) → News h₀ L h' (g o')) ∧ (∀ d o', @LT.lt Nat _ dx d → AllLt d R → AllLt d (g o')) ∧ ∀ p ∈ news, p ≠ (dx, o) → p ∈ R := by
  obtain ⟨pre, post, rfl, hg, h1, h2⟩ := U.split
  have hxd : x ≠ dx := by
    intro e
    have a1 := (N _ hx).1
    have a2 := (N (dx, o) (by simp)).1
    rw [e] at a1
    rw [a1] at a2
    exact ho (congrArg Obj.data (Option.some.inj a2)).symm
  refine ⟨pre ++ post, fun p hp => (List.mem_append.mp hp).elim (h1 p) (h2 p), hxd, fun p hp => ?_, fun h' o' N' p hp => ?_, fun d o' hd hR => ?_, fun p hp hne => ?_⟩
  · rcases List.mem_cons.mp hp with rfl | hp
    · exact N _ (by simp)
    · rcases List.mem_cons.mp hp with rfl | hp
      · exact N _ hx
      · refine N _ ?_
        rcases List.mem_append.mp hp with q | q <;> simp [q]
  · rw [hg] at hp
    refine N' p ?_
    rcases List.mem_append.mp hp with q | q
    · simp [q]
    · rcases List.mem_cons.mp q with rfl | q
      · simp
      · simp [q]
  · refine allLt_mem fun p hp => ?_
    rw [hg] at hp
    rcases List.mem_append.mp hp with q | q
    · exact mem_allLt hR p (by simp [q])
    · rcases List.mem_cons.mp q with rfl | q
      · exact hd
      · exact mem_allLt hR p (by simp [q])
  · rcases List.mem_append.mp hp with q | q
    · simp [q]
    · rcases List.mem_cons.mp q with q | q
      · exact absurd q hne
      · simp [q]
def words5 : List Str := [Str.ofString "HEADER", Str.ofString "TEXT", Str.ofString "MIME", Str.ofString "HEADER.FIELDS", Str.ofString "HEADER.FIELDS.NOT"]
def words2 : List Str := [Str.ofString "HEADER.FIELDS", Str.ofString "HEADER.FIELDS.NOT"]
section
variable {w : World} {A : Around} {E : Value → Shared → Prop} {s : Shared} {h₀ : Heap} {L : Addr} {m : Str → Option Value} {x : Str} {t : Tok} {Q : Value → Shared → Prop}
theorem words5_tup {h : Heap} (X : (Mine.hd.heap_1 w.params).In h) : ∃ items, IsTup h 170 items ∧ StrsAre items.toList words5 := by
  refine ⟨_, tupK X (by k_is), ?_⟩
  repeat constructor
theorem words2_tup {h : Heap} (X : (Mine.hd.heap_1 w.params).In h) : ∃ items, IsTup h 171 items ∧ StrsAre items.toList words2 := by
  refine ⟨_, tupK X (by k_is), ?_⟩
  repeat constructor
theorem notin_words5 (F : Fr h₀ L s.heap m) (X₀ : (Mine.hd.heap_1 w.params).In h₀) (h : Q (.bool (!(words5.any (· == x)))) s) : wpAny (model PG w) A (compareOp .NotIn (.str x t) (.ref 170)) Q E s := by
  obtain ⟨items, ht, hi⟩ := words5_tup (X₀.keeps F.keep)
  exact notin_tuple_strs ht hi h
theorem in_words2 (F : Fr h₀ L s.heap m) (X₀ : (Mine.hd.heap_1 w.params).In h₀) (h : Q (.bool (words2.any (· == x))) s) : wpAny (model PG w) A (compareOp .In (.str x t) (.ref 171)) Q E s := by
  obtain ⟨items, ht, hi⟩ := words2_tup (X₀.keeps F.keep)
  exact in_tuple_strs ht hi h
end
local macro_rules | `(tactic| walk_at "compareOp NotIn str ref") => `(tactic| (k_here; (with_reducible show wpAny _ _ (compareOp CmpOp.NotIn _ (Value.ref 170)) _ _ _); k_dflt (refine' notin_words5 (by k_asm) (by k_asm) ?_)))
local macro_rules | `(tactic| walk_at "compareOp In str ref") => `(tactic| (k_here; (with_reducible show wpAny _ _ (compareOp CmpOp.In _ (Value.ref 171)) _ _ _); k_dflt (refine' in_words2 (by k_asm) (by k_asm) ?_)))
theorem take_word_c {w : World} {dp un : Nat} {gd : Option (List Code)} {cn : Str} {cs : Scope} {a : Addr} {ccd : Value} {cl : List (Str × Addr)} {outer : List Env} {A₀ : Around} {base h₀ : Heap} {L : Addr} {m : Str → Option Value} {news : List (Addr × Obj)} {p : Program} {loose : List Str} {mean : ExcName → Option Value} {mg mb : Str → Option Value} {s : Shared} {Q E : Value → Shared → Prop} (Z : Amb w cs outer A₀ base h₀ L s.heap m news p loose mean mg mb) (hd : dp + 4 < recursionLimit) (hu : un + 300 < cLine)
    {x dx : Addr} {b : Array UInt8} {ks : List Int} {i : Nat} {k1 k2 k3 tb ti te : Tok} {g : Obj → List (Addr × Obj)} (hx : (x, instObj 155 dx) ∈ news) (hU : UpdF dx (curD w.params b i ks.length k1 k2 k3 tb ti te) news g) (hb : KBw.bInts b = ks) (hn : ks.length ≤ 1000) {tp : Addr} {pv : List Value} {P : List Int} {pk : Nat} {wd : Str} {r : List Int} (htp : (tp, ({ cls := .type "tuple", data := .seq pv.toArray pk } : Obj)) ∈ news) (hP : IntsAre pv P)
    (hl : ks.drop i = (if P = [] then [] else [46]) ++ (wd.cps.toList.map Int.ofNat ++ r)) (hi : i ≤ ks.length) (hr : ∀ c ∈ r.head?, c ∉ letters) (hw : wd ∈ words5) (hm : wd = Str.ofString "MIME" → P ≠ [])
    (ret : ∀ t' ti' h' tk' j, Fr h₀ L h' m → News h₀ L h' (g (curD w.params b (j : Nat) ks.length k1 k2 k3 tb ti' te)) → ks.drop j = r → Q (.str wd t') { s with heap := h', toks := tk' }) :
    wpAny (model PG w) (ktrTop dp un gd cn cs L a ccd cl outer) (call (.ref 234) [.ref x, .ref tp]) Q E s := by
  obtain ⟨B, F, X, N, T, hk⟩ := Z
  have hW : WordOk wd := by
    simp only [words5, List.mem_cons, List.not_mem_nil, or_false] at hw
    rcases hw with rfl | rfl | rfl | rfl | rfl <;> exact ⟨by decide, by decide, by decide⟩
  have h65 : ∀ c l, wd.cps.toList = c :: l → c ≠ 93 := by
    intro c l e
    have := hW.ltr (Int.ofNat c) (by rw [e]; simp)
    intro q
    rw [q] at this
    exact absurd this (by decide)
  have hne : wd.cps.toList ≠ [] := by
    simp only [words5, List.mem_cons, List.not_mem_nil, or_false] at hw
    rcases hw with rfl | rfl | rfl | rfl | rfl <;> decide
  obtain ⟨w1, w2, w3⟩ := hW
  obtain ⟨R, hR, hxd, N, back, backLt, inR⟩ := cur_open3 N hx hU (by intro e; cases e)
  have htR := inR _ htp (by intro e; have := congrArg (fun p => p.2.data) e; cases this)
  clear inR htp
  have hw5 : (words5.any (· == wd)) = true := by rw [List.any_eq_true]; exact ⟨wd, hw, by simp⟩
  have hmm : ((wd == Str.ofString "MIME") = true ∧ ¬ P = []) ∨ (wd == Str.ofString "MIME") = false := by
    by_cases q : wd = Str.ofString "MIME"
    · exact .inl ⟨by simpa using q, hm q⟩
    · exact .inr (by simpa using q)
  clear hm
  have hcases : (P = [] ∧ (wd.cps.toList.map Int.ofNat ++ r).headD (-1) ≠ 93 ∧ ks.drop i = wd.cps.toList.map Int.ofNat ++ r ∧ i ≤ ks.length) ∨ (¬ P = [] ∧ ks.drop i = 46 :: (wd.cps.toList.map Int.ofNat ++ r) ∧ ks.drop (i + 1) = wd.cps.toList.map Int.ofNat ++ r ∧ i + 1 ≤ ks.length) := by
    by_cases hP0 : P = []
    · rw [if_pos hP0, List.nil_append] at hl
      refine .inl ⟨hP0, ?_⟩
      cases e : wd.cps.toList with
      | nil => exact absurd e hne
      | cons c l => exact ⟨fun q => h65 c l e (by have q : (c : Int) = 93 := q; omega), by rw [← e]; exact hl, hi⟩
    · rw [if_neg hP0] at hl
      have hl1 : ks.drop i = 46 :: (wd.cps.toList.map Int.ofNat ++ r) := hl
      refine .inr ⟨hP0, hl1, by rw [← List.drop_drop, hl1]; rfl, ?_⟩
      have := congrArg List.length hl1
      simp only [List.length_drop, List.length_cons] at this
      omega
  clear hl hi
  rcases hcases with ⟨hP0, hhd, hlq, hiq⟩ | ⟨hP0, hl1, hlq, hiq⟩
  all_goals
    refine wpAny_call ?_
    k_dflt cell_enter
    k_steps
    unfold Halt
    k_dflt (refine ListComp_G (by k_asm) (by with_unfolding_all rfl) (by decide) (by rfl) (by decide) (by rfl) ?_)
    k_steps
    rename News _ _ _ _ => N8
    rename KBw.bInts _ = _ => ho
    have hos := congrArg List.length ho
    simp only [KBw.ints_length, List.length_map, Array.length_toList] at hos
    refine ⟨_, _, _, _, by k_asm, N8, trivial, iter_bytes rfl (by rw [sizeLine_eq]; omega), fun g9 => ?_⟩
    rw [hos]
    refine comp_inv (fun i ys nw => nw = _ ∧ StrsAre ys ((signs wd).take i)) ⟨rfl, .nil⟩ ?_ ?_
    · rintro i9 ys nw v I oI C oC D m₂ h tk E' hi9 ⟨rfl, hys⟩ ⟨c, u, hc, rfl⟩ hC hm F7 N7 off ne
      have e9 := KBw.ints_get hc
      rw [ho, List.getElem?_map] at e9
      obtain ⟨c', e8, e7⟩ := Option.map_eq_some_iff.mp e9
      have e7 : (c.toNat : Int) = (c' : Int) := e7.symm
      rw [e7] at hm
      have hc97 := w1 c' (List.mem_of_getElem? e8)
      try k_fold
      k_steps
      refine comp_end (by k_asm) N7 (fun p hp => hp) off trivial ⟨rfl, ?_⟩
      rw [Int.toNat_natCast, List.take_add_one, show (signs wd)[i9]? = some { cps := #[c'] } by simp [signs, e8]]
      exact strsAre_snoc hys
    · rintro ys nw ⟨rfl, hys⟩
      rw [show (signs wd).take wd.cps.size = signs wd from List.take_of_length_le (Nat.le_of_eq (signs_length wd))] at hys
      have hok := join_ok1 (xs := signs wd) (fun y hy => by obtain ⟨c, _, rfl⟩ := List.mem_map.mp hy; rfl) (by rw [signs_length]; exact Nat.le_trans w3 (by decide))
      have ej : Txt.join (Str.ofString "") (signs wd) = wd := str_of_codes (join_nil_codes _)
      k_steps
      rw [ej]
      k_steps
      all_goals rename News h₀ L _ _ => N7
      all_goals first
        | (exfalso; rcases hmm with ⟨_, q⟩ | q <;> simp_all; done)
        | exact ret _ _ _ _ _ (by k_asm) (back _ _ (fun p hp => N7 p (.tail _ (.tail _ hp)))) (by assumption)
        | exact ret _ _ _ _ _ (by k_asm) (back _ _ (fun p hp => N7 p (.tail _ (.tail _ (.tail _ hp))))) (by assumption)
        | skip

theorem calm_Rs : True := by w_top off; trivial
theorem new_cursor_c {w : World} {dp un : Nat} {gd : Option (List Code)} {cn : Str} {cs : Scope} {a : Addr} {ccd : Value} {cl : List (Str × Addr)} {outer : List Env} {A₀ : Around} {base h₀ : Heap} {L : Addr} {m : Str → Option Value} {news : List (Addr × Obj)} {p : Program} {loose : List Str} {mean : ExcName → Option Value} {mg mb : Str → Option Value} {s : Shared} {Q E : Value → Shared → Prop} (Z : Amb w cs outer A₀ base h₀ L s.heap m news p loose mean mg mb) (hd : dp + 4 < recursionLimit) (hu : un + 300 < cLine)
    {b : Array UInt8} {t : Tok} {ks : List Int} {i : Nat} (hi : i = 0) (hb : KBw.bInts b = ks) (hn : ks.length ≤ 1000)
    (ret : ∀ x dx k1 k2 k3 tb ti te h' tk', Fr h₀ L h' m → News h₀ L h' ((x, instObj 155 dx) :: (dx, curD w.params b (i : Nat) ks.length k1 k2 k3 tb ti te) :: news) → dx < x → AllLt dx news → Q (.ref x) { s with heap := h', toks := tk' }) :
    wpAny (model PG w) (ktrTop dp un gd cn cs L a ccd cl outer) (call (.ref 155) [.bytes b t]) Q E s := by
  obtain ⟨B, F, X, N, T, hk⟩ := Z
  have hbs : b.size = ks.length := by rw [← hb, KBw.ints_length]
  subst hi
  k_dflt (refine' call_cls ?k1 ?k2 ?k3 ?k4 ?k5 ?k6 ?_; (case k1 => k_asm); (case k2 => k_asm); (case k3 => k_asm); (case k4 => k_is); (case k5 => k_is); (case k6 => k_is); k_whole; intro x' d' h' F' N' l1 l2; (try k_lt l1); (try k_lt2 l2); (try k_sweep); cell_enter)
  k_steps
  exact ret _ _ _ _ _ _ _ _ _ _ (by k_asm) (by k_asm) (by assumption) (allLt_mem (fun p hp => l1 p hp))
local macro_rules | `(tactic| walk_at "call type:tuple") => `(tactic| (k_here; (with_reducible refine c1r ?_); k_dflt (refine' call_tuple_tup (News.isTup (by k_asm) (by k_mem)) ?_)))
local macro_rules | `(tactic| walk_at "call ref") => `(tactic| (k_here; (with_reducible refine cr1 155 ?_); k_dflt (refine' new_cursor_c (by walk_at "amb") (by ktr_room) (by ktr_units) ‹_› ‹_› ‹_› ?_; k_whole; intro x' dx' k1' k2' k3' tb' ti' te' h' tk' F' N' l2' l1'; (try k_lt l1'); (try k_lt2 l2'); (try k_fold); (try k_sweep))))
theorem new_section_c {w : World} {dp un : Nat} {gd : Option (List Code)} {cn : Str} {cs : Scope} {a : Addr} {ccd : Value} {cl : List (Str × Addr)} {outer : List Env} {A₀ : Around} {base h₀ : Heap} {L : Addr} {m : Str → Option Value} {news : List (Addr × Obj)} {p : Program} {loose : List Str} {mean : ExcName → Option Value} {mg mb : Str → Option Value} {s : Shared} {Q E : Value → Shared → Prop} (Z : Amb w cs outer A₀ base h₀ L s.heap m news p loose mean mg mb) (hd : dp + 4 < recursionLimit) (hu : un + 300 < cLine)
    {tp np : Addr} {pv nv : List Value} {pk nk : Nat} {wd : Str} {tw : Tok} {pt : Value} (htp : (tp, ({ cls := .type "tuple", data := .seq pv.toArray pk } : Obj)) ∈ news) (hnp : (np, ({ cls := .type "tuple", data := .seq nv.toArray nk } : Obj)) ∈ news)
    (ret : ∀ x dx k1 k2 k3 k4 tw h' tk', Fr h₀ L h' m → News h₀ L h' ((x, instObj 197 dx) :: (dx, dictOf [⟨PyData.keyHash w.params (Str.ofString "path"), .str (Str.ofString "path") k1, .ref tp⟩, ⟨PyData.keyHash w.params (Str.ofString "word"), .str (Str.ofString "word") k2, .str wd tw⟩, ⟨PyData.keyHash w.params (Str.ofString "names"), .str (Str.ofString "names") k3, .ref np⟩, ⟨PyData.keyHash w.params (Str.ofString "partial"), .str (Str.ofString "partial") k4, pt⟩] 4) :: news) → dx < x → AllLt dx news → Q (.ref x) { s with heap := h', toks := tk' }) :
    wpAny (model PG w) (ktrTop dp un gd cn cs L a ccd cl outer) (call (.ref 197) [.ref tp, .str wd tw, .ref np, pt]) Q E s := by
  obtain ⟨B, F, X, N, T, hk⟩ := Z
  k_dflt (refine' call_cls ?k1 ?k2 ?k3 ?k4 ?k5 ?k6 ?_; (case k1 => k_asm); (case k2 => k_asm); (case k3 => k_asm); (case k4 => k_is); (case k5 => k_is); (case k6 => k_is); k_whole; intro x' d' h' F' N' l1 l2; (try k_lt l1); (try k_lt2 l2); (try k_sweep); cell_enter)
  k_steps
  exact ret _ _ _ _ _ _ _ _ _ (by k_asm) (by k_asm) (by assumption) (allLt_mem (fun p hp => l1 p hp))
theorem text_octets_c' {w : World} {dp un : Nat} {gd : Option (List Code)} {cn : Str} {cs : Scope} {a : Addr} {ccd : Value} {cl : List (Str × Addr)} {outer : List Env} {A₀ : Around} {base h₀ : Heap} {L : Addr} {m : Str → Option Value} {news : List (Addr × Obj)} {p : Program} {loose : List Str} {mean : ExcName → Option Value} {mg mb : Str → Option Value} {s : Shared} {Q E : Value → Shared → Prop} (Z : Amb w cs outer A₀ base h₀ L s.heap m news p loose mean mg mb) (hd : dp + 1 < recursionLimit) (hu : un + 8 < cLine)
    {x : Str} {t : Tok} {ks : List Int} (hks : x.cps.toList.map Int.ofNat = ks) (hn : x.cps.size ≤ 1000) (hx : ∀ c ∈ x.cps.toList, c < 127)
    (ret : ∀ b t' h' tk', Fr h₀ L h' m → News h₀ L h' news → KBw.bInts b = ks → Q (.bytes b t') { s with heap := h', toks := tk' }) :
    wpAny (model PG w) (ktrTop dp un gd cn cs L a ccd cl outer) (call (.ref 169) [.str x t]) Q E s :=
  text_octets_c Z hd hu hn hx (by subst hks; exact ret)
theorem le_of_drop {ks r : List Int} {c : Int} {j : Nat} (h : ks.drop j = c :: r) : j + 1 ≤ ks.length := by
  have := congrArg List.length h
  simp only [List.length_drop, List.length_cons] at this
  omega
/-- the codes of a wanted part, and what is read there -/
def PartOk (tl : List Int) (part : Option (Int × Int)) : Prop :=
  (tl = [] ∧ part = none) ∨ ∃ d1 d2, tl = 60 :: (d1 ++ 46 :: (d2 ++ 62 :: [])) ∧ NumOk d1 ∧ 0 ≤ valF d1 ∧ NumOk d2 ∧ 1 ≤ valF d2 ∧ part = some (valF d1, valF d2)
/-- the value of a wanted part, with its tuple among new things -/
def PartV (ex : List (Addr × Obj)) (pt : Value) : Option (Int × Int) → Prop
  | none => pt = .none
  | some (a, b) => ∃ pp t1 t2 k, pt = .ref pp ∧ (pp, ({ cls := .type "tuple", data := .seq [.int a t1, .int b t2].toArray k } : Obj)) ∈ ex
abbrev secD (P : Params) (tp np : Addr) (wd : Str) (pt : Value) (k1 k2 k3 k4 tw : Tok) : Obj :=
  dictOf [⟨PyData.keyHash P (Str.ofString "path"), .str (Str.ofString "path") k1, .ref tp⟩, ⟨PyData.keyHash P (Str.ofString "word"), .str (Str.ofString "word") k2, .str wd tw⟩, ⟨PyData.keyHash P (Str.ofString "names"), .str (Str.ofString "names") k3, .ref np⟩, ⟨PyData.keyHash P (Str.ofString "partial"), .str (Str.ofString "partial") k4, pt⟩] 4
local macro_rules | `(tactic| walk_at "call ref") => `(tactic| (k_here; (with_reducible refine cr0 197 ?_); k_dflt (refine' new_section_c (by walk_at "amb") (by ktr_room) (by ktr_units) (by k_mem) (by k_mem) ?_; k_whole; intro x' dx' k1' k2' k3' k4' tw' h' tk' F' N' l2' l1'; (try simp only [AllLt, and_true] at l1'); (try k_lt2 l2'); (try k_fold); (try k_sweep))))
local macro_rules | `(tactic| walk_at "call ref") => `(tactic| (k_here; (with_reducible refine cr1 169 ?_); k_dflt (refine' text_octets_c' (by walk_at "amb") (by ktr_room) (by ktr_units) ‹_› ‹_› ‹_› ?_; walk_at "fin7")))
local macro_rules | `(tactic| walk_at "call ref") => `(tactic| (k_here; (with_reducible refine cr1 229 ?_); k_dflt (refine' take_path_c (by walk_at "amb") (by ktr_room) (by ktr_units) (by k_mem) (by k_updF) ‹_› (by walk_at "ao") ‹_› ‹_› ‹_› (by first | assumption | omega | exact le_of_drop (by assumption)) ‹_› ?_; k_whole; intro tp' vs' ti' h' tk' F' N' hvs' hr' hle' l1'; (try simp only [AllLt, and_true] at l1'); (try k_fold); (try k_sweep))))
local macro_rules | `(tactic| walk_at "call ref") => `(tactic| (k_here; (with_reducible refine cr2 234 ?_); k_dflt (first
  | (refine' take_word_nil (by walk_at "amb") (by ktr_room) (by ktr_units) (by k_mem) (by k_updF) ‹_› (by walk_at "ao") ‹_› (by walk_at "ao") ?_; walk_at "fin5")
  | (refine' take_word_c (by walk_at "amb") (by ktr_room) (by ktr_units) (by k_mem) (by k_updF) ‹_› (by walk_at "ao") (by k_mem) ‹_› ‹_› (by walk_at "ao") ‹_› ‹_› ‹_› ?_; walk_at "fin8"))))
local macro_rules | `(tactic| walk_at "call ref") => `(tactic| (k_here; (with_reducible refine cr1 269 ?_); (rename PartOk _ _ => hp9); rcases hp9 with ⟨e1, e2⟩ | ⟨d1, d2, e1, g1, g2, g3, g4, e2⟩ <;> subst e1 <;> subst e2; (all_goals k_dflt (first
  | (refine' take_partial_none (by walk_at "amb") (by ktr_room) (by ktr_units) (by k_mem) (by k_updF) ‹_› (by walk_at "ao") ‹_› (by first | assumption | omega | exact le_of_drop (by assumption)) ?_; walk_at "fin4")
  | (refine' take_partial_some (by walk_at "amb") (by ktr_room) (by ktr_units) (by k_mem) (by k_updF) ‹_› (by walk_at "ao") ‹_› ‹_› ‹_› ‹_› ‹_› ?_; k_whole; intro tp' t1' t2' ti' h' tk' j' F' N' hr' l1'; (try simp only [AllLt, and_true] at l1'); (try k_fold); (try k_sweep))))))
section
variable {h₀ h : Heap} {L y dy pp np tp x dx : Addr} {o so no to xo d' po : Obj} {news : List (Addr × Obj)}
theorem pickNone (N : News h₀ L h ((y, o) :: (dy, so) :: (np, no) :: (tp, to) :: (x, xo) :: (dx, d') :: news)) : News h₀ L h ((y, o) :: (dy, so) :: (np, no) :: (tp, to) :: ([] ++ news)) := fun p hp => N p (by
  simp only [List.nil_append, List.mem_cons] at hp ⊢
  rcases hp with h | h | h | h | h <;> simp [h])
theorem pickSome (N : News h₀ L h ((y, o) :: (dy, so) :: (pp, po) :: (np, no) :: (tp, to) :: (x, xo) :: (dx, d') :: news)) : News h₀ L h ((y, o) :: (dy, so) :: (np, no) :: (tp, to) :: ([(pp, po)] ++ news)) := fun p hp => N p (by
  simp only [List.cons_append, List.nil_append, List.mem_cons] at hp ⊢
  rcases hp with h | h | h | h | h | h <;> simp [h])
end
theorem behind_word {wd : Str} (hw : wd ∈ words5) (P r : List Int) : Behind ((if P = [] then [] else [46]) ++ (wd.cps.toList.map Int.ofNat ++ r)) := by
  have hc : ∃ c l, wd.cps.toList.map Int.ofNat = c :: l ∧ 65 ≤ c := by
    simp only [words5, List.mem_cons, List.not_mem_nil, or_false] at hw
    rcases hw with rfl | rfl | rfl | rfl | rfl
    · exact ⟨72, _, rfl, by decide⟩
    · exact ⟨84, _, rfl, by decide⟩
    · exact ⟨77, _, rfl, by decide⟩
    · exact ⟨72, _, rfl, by decide⟩
    · exact ⟨72, _, rfl, by decide⟩
  obtain ⟨c, l, e, hc⟩ := hc
  rw [e]
  by_cases q : P = []
  · rw [if_pos q]
    exact ⟨.inr (by show 57 < c; omega), .inl (by show ¬ c = 46; omega)⟩
  · rw [if_neg q]
    exact ⟨.inl (by show (46 : Int) < 48; decide), .inr (.inr (by show 57 < c; omega))⟩
theorem read_nil {w : World} {dp un : Nat} {gd : Option (List Code)} {cn : Str} {cs : Scope} {a : Addr} {ccd : Value} {cl : List (Str × Addr)} {outer : List Env} {A₀ : Around} {base h₀ : Heap} {L : Addr} {m : Str → Option Value} {news : List (Addr × Obj)} {p : Program} {loose : List Str} {mean : ExcName → Option Value} {mg mb : Str → Option Value} {s : Shared} {Q E : Value → Shared → Prop} (Z : Amb w cs outer A₀ base h₀ L s.heap m news p loose mean mg mb) (hd : dp + 8 < recursionLimit) (hu : un + 400 < cLine)
    {x : Str} {t : Tok} {ks tl : List Int} {ps : List (List Int)} {part : Option (Int × Int)} (hks : x.cps.toList.map Int.ofNat = ks) (hsz : x.cps.size ≤ 1000) (h127 : ∀ c ∈ x.cps.toList, c < 127)
    (hl : ks = 91 :: (pathC ps ++ 93 :: tl)) (hps : ∀ d ∈ ps, NumOk d ∧ 1 ≤ valF d) (hpl : ps.length ≤ 100) (hpt : PartOk tl part)
    (ret : ∀ y dy tp np pv pk nk k1 k2 k3 k4 tw pt ex h' tk', Fr h₀ L h' m → News h₀ L h' ((y, instObj 197 dy) :: (dy, secD w.params tp np (Str.ofString "") pt k1 k2 k3 k4 tw) :: (np, { cls := .type "tuple", data := .seq [].toArray nk }) :: (tp, { cls := .type "tuple", data := .seq pv.toArray pk }) :: (ex ++ news)) → PartV ex pt part → IntsAre pv (ps.map valF) → Q (.ref y) { s with heap := h', toks := tk' }) :
    wpAny (model PG w) (ktrTop dp un gd cn cs L a ccd cl outer) (call (.ref 276) [.str x t]) Q E s := by
  obtain ⟨B, F, X, N, T, hk⟩ := Z
  have hlen : ks.length ≤ 1000 := by rw [← hks, List.length_map, Array.length_toList]; exact hsz
  obtain ⟨i0, hi0⟩ : ∃ i0 : Nat, i0 = 0 := ⟨0, rfl⟩
  have hl0 : ks.drop i0 = 91 :: (pathC ps ++ 93 :: tl) := by rw [hi0]; exact hl
  have hw0 : (words2.any (· == Str.ofString "")) = false := by decide
  have hbe : Behind (93 :: tl) := ⟨.inr (by show (57 : Int) < 93; decide), .inl (by show ¬ (93 : Int) = 46; decide)⟩
  clear hl
  refine wpAny_call ?_
  k_dflt cell_enter
  k_steps
  unfold Halt
  k_dflt (refine for_pure (by k_asm) (by rfl) (by rfl) ?_)
  k_steps
  rename News _ _ _ _ => N9
  rename IsRange _ _ _ _ _ _ _ _ => R9
  refine ⟨_, _, _, _, _, _, rfl, rfl, R9, Nat.le_trans hsz (by decide), by k_asm, N9, ?_, ?_⟩
  · intro i ti h tk own hi F8 N8
    have hc : x.cps[i]? = some x.cps[i] := by simp [hi]
    have hc9 := h127 x.cps[i] (by simp)
    try k_fold
    k_steps
    exact ⟨rfl, _, _, _, rfl, by k_asm, by k_asm, fun z hz => if_neg hz⟩
  · intro h tk u F8 N8
    clear N9 R9
    try k_fold
    k_steps
    all_goals rename News h₀ L _ _ => N7
    · exact ret _ _ _ _ _ _ _ _ _ _ _ _ _ [] _ _ (by k_asm) (pickNone N7) rfl (by assumption)
    · exact ret _ _ _ _ _ _ _ _ _ _ _ _ _ [_] _ _ (by k_asm) (pickSome N7) ⟨_, _, _, _, rfl, .head _⟩ (by assumption)
theorem read_word {w : World} {dp un : Nat} {gd : Option (List Code)} {cn : Str} {cs : Scope} {a : Addr} {ccd : Value} {cl : List (Str × Addr)} {outer : List Env} {A₀ : Around} {base h₀ : Heap} {L : Addr} {m : Str → Option Value} {news : List (Addr × Obj)} {p : Program} {loose : List Str} {mean : ExcName → Option Value} {mg mb : Str → Option Value} {s : Shared} {Q E : Value → Shared → Prop} (Z : Amb w cs outer A₀ base h₀ L s.heap m news p loose mean mg mb) (hd : dp + 8 < recursionLimit) (hu : un + 400 < cLine)
    {x : Str} {t : Tok} {ks tl : List Int} {ps : List (List Int)} {wd : Str} {part : Option (Int × Int)} (hks : x.cps.toList.map Int.ofNat = ks) (hsz : x.cps.size ≤ 1000) (h127 : ∀ c ∈ x.cps.toList, c < 127)
    (hw : wd ∈ words5) (hw0 : (words2.any (· == wd)) = false) (hm : wd = Str.ofString "MIME" → ps.map valF ≠ [])
    (hl : ks = 91 :: (pathC ps ++ ((if ps.map valF = [] then [] else [46]) ++ (wd.cps.toList.map Int.ofNat ++ 93 :: tl)))) (hps : ∀ d ∈ ps, NumOk d ∧ 1 ≤ valF d) (hpl : ps.length ≤ 100) (hpt : PartOk tl part)
    (ret : ∀ y dy tp np pv pk nk k1 k2 k3 k4 tw pt ex h' tk', Fr h₀ L h' m → News h₀ L h' ((y, instObj 197 dy) :: (dy, secD w.params tp np wd pt k1 k2 k3 k4 tw) :: (np, { cls := .type "tuple", data := .seq [].toArray nk }) :: (tp, { cls := .type "tuple", data := .seq pv.toArray pk }) :: (ex ++ news)) → PartV ex pt part → IntsAre pv (ps.map valF) → Q (.ref y) { s with heap := h', toks := tk' }) :
    wpAny (model PG w) (ktrTop dp un gd cn cs L a ccd cl outer) (call (.ref 276) [.str x t]) Q E s := by
  obtain ⟨B, F, X, N, T, hk⟩ := Z
  have hlen : ks.length ≤ 1000 := by rw [← hks, List.length_map, Array.length_toList]; exact hsz
  obtain ⟨i0, hi0⟩ : ∃ i0 : Nat, i0 = 0 := ⟨0, rfl⟩
  have hl0 : ks.drop i0 = 91 :: (pathC ps ++ ((if ps.map valF = [] then [] else [46]) ++ (wd.cps.toList.map Int.ofNat ++ 93 :: tl))) := by rw [hi0]; exact hl
  have hbe := behind_word hw (ps.map valF) (93 :: tl)
  have h93 : ∀ c ∈ (93 :: tl).head?, c ∉ letters := by intro c hc; cases hc; decide
  clear hl
  refine wpAny_call ?_
  k_dflt cell_enter
  k_steps
  unfold Halt
  k_dflt (refine for_pure (by k_asm) (by rfl) (by rfl) ?_)
  k_steps
  rename News _ _ _ _ => N9
  rename IsRange _ _ _ _ _ _ _ _ => R9
  refine ⟨_, _, _, _, _, _, rfl, rfl, R9, Nat.le_trans hsz (by decide), by k_asm, N9, ?_, ?_⟩
  · intro i ti h tk own hi F8 N8
    have hc : x.cps[i]? = some x.cps[i] := by simp [hi]
    have hc9 := h127 x.cps[i] (by simp)
    try k_fold
    k_steps
    exact ⟨rfl, _, _, _, rfl, by k_asm, by k_asm, fun z hz => if_neg hz⟩
  · intro h tk u F8 N8
    clear N9 R9
    try k_fold
    k_steps
    all_goals rename News h₀ L _ _ => N7
    · exact ret _ _ _ _ _ _ _ _ _ _ _ _ _ [] _ _ (by k_asm) (pickNone N7) rfl (by assumption)
    · exact ret _ _ _ _ _ _ _ _ _ _ _ _ _ [_] _ _ (by k_asm) (pickSome N7) ⟨_, _, _, _, rfl, .head _⟩ (by assumption)
theorem read_fields {w : World} {dp un : Nat} {gd : Option (List Code)} {cn : Str} {cs : Scope} {a : Addr} {ccd : Value} {cl : List (Str × Addr)} {outer : List Env} {A₀ : Around} {base h₀ : Heap} {L : Addr} {m : Str → Option Value} {news : List (Addr × Obj)} {p : Program} {loose : List Str} {mean : ExcName → Option Value} {mg mb : Str → Option Value} {s : Shared} {Q E : Value → Shared → Prop} (Z : Amb w cs outer A₀ base h₀ L s.heap m news p loose mean mg mb) (hd : dp + 8 < recursionLimit) (hu : un + 400 < cLine)
    {x : Str} {t : Tok} {ks tl : List Int} {ps : List (List Int)} {wd : Str} {part : Option (Int × Int)} {czs : List (List Nat)} {shs : List (List Int)} {cz0 : List Nat} {sh0 : List Int} (hks : x.cps.toList.map Int.ofNat = ks) (hsz : x.cps.size ≤ 1000) (h127 : ∀ c ∈ x.cps.toList, c < 127)
    (hw : wd ∈ words5) (hw0 : (words2.any (· == wd)) = true) (hm : wd = Str.ofString "MIME" → ps.map valF ≠ [])
    (hl : ks = 91 :: (pathC ps ++ ((if ps.map valF = [] then [] else [46]) ++ (wd.cps.toList.map Int.ofNat ++ 32 :: 40 :: (sh0 ++ (tailSh shs ++ 41 :: 93 :: tl)))))) (hps : ∀ d ∈ ps, NumOk d ∧ 1 ≤ valF d) (hpl : ps.length ≤ 100) (hpt : PartOk tl part)
    (hcl : czs.length = shs.length) (h0 : NameOk cz0 sh0) (hn0 : ∀ k (_ : k < czs.length) (_ : k < shs.length), NameOk czs[k] shs[k]) (hfew : czs.length ≤ 100)
    (ret : ∀ y dy tp np pv pk nv nk k1 k2 k3 k4 tw pt ex h' tk', Fr h₀ L h' m → News h₀ L h' ((y, instObj 197 dy) :: (dy, secD w.params tp np wd pt k1 k2 k3 k4 tw) :: (np, { cls := .type "tuple", data := .seq nv.toArray nk }) :: (tp, { cls := .type "tuple", data := .seq pv.toArray pk }) :: (ex ++ news)) → PartV ex pt part → IntsAre pv (ps.map valF) → StrsAre nv ((cz0 :: czs).map fun cz => ⟨cz.toArray⟩) → Q (.ref y) { s with heap := h', toks := tk' }) :
    wpAny (model PG w) (ktrTop dp un gd cn cs L a ccd cl outer) (call (.ref 276) [.str x t]) Q E s := by
  obtain ⟨B, F, X, N, T, hk⟩ := Z
  have hlen : ks.length ≤ 1000 := by rw [← hks, List.length_map, Array.length_toList]; exact hsz
  obtain ⟨i0, hi0⟩ : ∃ i0 : Nat, i0 = 0 := ⟨0, rfl⟩
  have hl0 : ks.drop i0 = 91 :: (pathC ps ++ ((if ps.map valF = [] then [] else [46]) ++ (wd.cps.toList.map Int.ofNat ++ 32 :: 40 :: (sh0 ++ (tailSh shs ++ 41 :: 93 :: tl))))) := by rw [hi0]; exact hl
  have hbe := behind_word hw (ps.map valF) (32 :: 40 :: (sh0 ++ (tailSh shs ++ 41 :: 93 :: tl)))
  have h93 : ∀ c ∈ (32 :: 40 :: (sh0 ++ (tailSh shs ++ 41 :: 93 :: tl))).head?, c ∉ letters := by intro c hc; cases hc; decide
  clear hl
  refine wpAny_call ?_
  k_dflt cell_enter
  k_steps
  unfold Halt
  k_dflt (refine for_pure (by k_asm) (by rfl) (by rfl) ?_)
  k_steps
  rename News _ _ _ _ => N9
  rename IsRange _ _ _ _ _ _ _ _ => R9
  refine ⟨_, _, _, _, _, _, rfl, rfl, R9, Nat.le_trans hsz (by decide), by k_asm, N9, ?_, ?_⟩
  · intro i ti h tk own hi F8 N8
    have hc : x.cps[i]? = some x.cps[i] := by simp [hi]
    have hc9 := h127 x.cps[i] (by simp)
    try k_fold
    k_steps
    exact ⟨rfl, _, _, _, rfl, by k_asm, by k_asm, fun z hz => if_neg hz⟩
  · intro h tk u F8 N8
    clear N9 R9
    try k_fold
    k_steps
    all_goals rename News h₀ L _ _ => N7
    · exact ret _ _ _ _ _ _ _ _ _ _ _ _ _ _ [] _ _ (by k_asm) (pickNone N7) rfl (by assumption) (by assumption)
    · exact ret _ _ _ _ _ _ _ _ _ _ _ _ _ _ [_] _ _ (by k_asm) (pickSome N7) ⟨_, _, _, _, rfl, .head _⟩ (by assumption) (by assumption)

theorem calm_Sh : True := by w_top off; trivial
/-- a sign's places bear another text -/
def rep (c : Nat) (z l : List Nat) : List Nat := (l.map fun k => if k = c then z else [k]).flatten
theorem rep_append (c : Nat) (z a b : List Nat) : rep c z (a ++ b) = rep c z a ++ rep c z b := by simp [rep]
theorem rep_free {c : Nat} {z : List Nat} : ∀ {l : List Nat}, c ∉ l → rep c z l = l
  | [], _ => rfl
  | k :: r, h => by
    have h1 : ¬ k = c := fun e => h (e ▸ List.mem_cons_self ..)
    have h2 : c ∉ r := fun m => h (List.mem_cons_of_mem _ m)
    have e : rep c z (k :: r) = (if k = c then z else [k]) ++ rep c z r := rfl
    rw [e, if_neg h1, rep_free h2]; rfl
theorem rep_join (c : Nat) (z : Str) : ∀ parts : List Str, (∀ p ∈ parts, c ∉ p.cps.toList) → rep c z.cps.toList (Str.join ⟨#[c]⟩ parts).cps.toList = (Str.join z parts).cps.toList
  | [], _ => rfl
  | [p], h => rep_free (h p (List.mem_singleton.mpr rfl))
  | p :: q :: r, h => by
    have ih := rep_join c z (q :: r) fun a ha => h a (List.mem_cons_of_mem _ ha)
    show rep c _ (p ++ ⟨#[c]⟩ ++ Str.join ⟨#[c]⟩ (q :: r)).cps.toList = (p ++ z ++ Str.join z (q :: r)).cps.toList
    simp only [Str.cps_append, Array.toList_append]
    rw [rep_append, rep_append, ih, rep_free (h p (List.mem_cons_self ..))]
    show p.cps.toList ++ rep c _ [c] ++ _ = _
    rw [show rep c z.cps.toList [c] = z.cps.toList by simp [rep]]
theorem replace_list (x z : Str) (c : Nat) : (Txt.replace x ⟨#[c]⟩ z).cps.toList = rep c z.cps.toList x.cps.toList := by
  rw [StrLaws.replace_one, ← rep_join c z _ (StrLaws.split_free x c), StrLaws.join_split]
theorem rep_esc (l : List Nat) : rep 34 [92, 34] (rep 92 [92, 92] l) = (l.map escN).flatten := by
  induction l with
  | nil => rfl
  | cons k r ih =>
    have e : rep 92 [92, 92] (k :: r) = (if k = 92 then [92, 92] else [k]) ++ rep 92 [92, 92] r := rfl
    rw [e, rep_append, ih, List.map_cons, List.flatten_cons]
    congr 1
    by_cases h : k = 92
    · subst h; rfl
    · rw [if_neg h]
      by_cases q : k = 34
      · subst q; rfl
      · simp [rep, escN, h, q]
/-- a name as a section shows it -/
def shownC (cz : List Nat) : List Nat := if cz ≠ [] ∧ (∀ c ∈ cz, atomB (c : Int) = true) then cz else 34 :: ((cz.map escN).flatten ++ [34])
section
variable {prog : Program} {w : World} {A : Around} {E : Value → Shared → Prop} {s : Shared} {a b : Addr} {vs : List Value} {ns : List Int} {Q : Value → Shared → Prop}
theorem shapedL_ints (ns : List Int) : PySem.SeqAt.shaped (.list (ns.map PyData.int)) = true := by
  simp only [PySem.SeqAt.shaped, PyData.canLay0, PyData.depth, ke_canLayAll0, ke_depthAll, Bool.true_and, decide_eq_true_eq]
  omega
theorem eqv_list_nil (ns : List Int) : PyData.eqv (.list (ns.map PyData.int)) (.list []) = decide (ns = []) := by
  cases ns with
  | nil => rfl
  | cons n ns => simp [PyData.eqv, PyData.eqvAll]
theorem eq_ints_nil (hl : s.heap.IsList a vs.toArray) (hi : IntsAre vs ns) (hl' : s.heap.IsList b #[]) (hu : A.units + 64 < cLine) (h : Q (.bool (decide (ns = []))) s) : wpAny (model prog w) A (compareOp .Eq (.ref a) (.ref b)) Q E s :=
  eq_dataH (reads_newData hl (ke_carried hi)) (reads_newData (ys := []) hl' .nil) (shapedL_ints ns) rfl hu (by rw [eqv_list_nil]; exact h)
theorem ne_ints_nil (hl : s.heap.IsList a vs.toArray) (hi : IntsAre vs ns) (hl' : s.heap.IsList b #[]) (hu : A.units + 64 < cLine) (h : Q (.bool (!decide (ns = []))) s) : wpAny (model prog w) A (compareOp .NotEq (.ref a) (.ref b)) Q E s :=
  ne_dataH (reads_newData hl (ke_carried hi)) (reads_newData (ys := []) hl' .nil) (shapedL_ints ns) rfl hu (by rw [eqv_list_nil]; exact h)
end
local macro_rules | `(tactic| walk_at "compareOp Eq ref ref") => `(tactic| (k_here; k_dflt (refine' eq_ints_nil (News.isList (by k_asm) (by k_mem)) ‹_› (News.isList (by k_asm) (by k_mem)) (by ktr_units) ?_; k_whole)))
local macro_rules | `(tactic| walk_at "compareOp NotEq ref ref") => `(tactic| (k_here; k_dflt (refine' ne_ints_nil (News.isList (by k_asm) (by k_mem)) ‹_› (News.isList (by k_asm) (by k_mem)) (by ktr_units) ?_; k_whole)))
theorem intsAre_at {vs : List Value} {ns : List Int} {v : Value} {i : Nat} (h : IntsAre vs ns) (e : vs.toArray[i]? = some v) : ∃ n t, ns[i]? = some n ∧ v = .int n t := by
  rw [List.getElem?_toArray] at e
  induction h generalizing i with
  | nil => simp at e
  | cons n t r ih =>
    cases i with
    | zero => exact ⟨n, t, rfl, (Option.some.inj (by simpa using e)).symm⟩
    | succ i => simpa using ih (by simpa using e)
theorem filter_snoc {p : Int → Bool} {l : List Int} {i : Nat} {c : Int} (h : l[i]? = some c) : (l.take (i + 1)).filter p = (l.take i).filter p ++ (if p c = true then [c] else []) := by
  rw [List.take_add_one, h, List.filter_append]
  cases q : p c <;> simp [q]
theorem shown_atom {cz : List Nat} (h0 : ¬ cz.map Int.ofNat = []) (h : (cz.map Int.ofNat).filter (fun c => !atomB c) = []) : shownC cz = cz := by
  unfold shownC
  refine if_pos ⟨fun e => h0 (by rw [e]; rfl), fun c hc => ?_⟩
  have := List.filter_eq_nil_iff.mp h (Int.ofNat c) (List.mem_map_of_mem hc)
  simpa using this
theorem shown_quoted {cz : List Nat} (h : cz.map Int.ofNat = [] ∨ ¬ (cz.map Int.ofNat).filter (fun c => !atomB c) = []) : shownC cz = 34 :: ((cz.map escN).flatten ++ [34]) := by
  unfold shownC
  refine if_neg fun q => ?_
  rcases h with h | h
  · exact q.1 (List.map_eq_nil_iff.mp h)
  · refine h (List.filter_eq_nil_iff.mpr fun c hc => ?_)
    obtain ⟨d, hd, rfl⟩ := List.mem_map.mp hc
    simpa using q.2 d hd
theorem quoted_codes {x : Str} {cz : List Nat} (hx : x.cps.toList = cz) : (Str.ofString "\"" ++ Txt.replace (Txt.replace x (Str.ofString "\\") (Str.ofString "\\\\")) (Str.ofString "\"") (Str.ofString "\\\"") ++ Str.ofString "\"") = ⟨(34 :: ((cz.map escN).flatten ++ [34])).toArray⟩ := by
  refine str_of_codes ?_
  rw [show Str.ofString "\\" = ⟨#[92]⟩ from by decide +kernel, show Str.ofString "\"" = ⟨#[34]⟩ from by decide +kernel, show Str.ofString "\\\\" = ⟨#[92, 92]⟩ from by decide +kernel, show Str.ofString "\\\"" = ⟨#[92, 34]⟩ from by decide +kernel]
  simp only [Str.cps_append, Array.toList_append]
  rw [replace_list, replace_list, hx]
  show [34] ++ rep 34 [92, 34] (rep 92 [92, 92] cz) ++ [34] = _
  rw [rep_esc]
  simp
theorem rep_length (c : Nat) (z : List Nat) (hz : z.length ≤ 2) : ∀ l : List Nat, (rep c z l).length ≤ 2 * l.length
  | [] => Nat.le_refl _
  | k :: r => by
    have ih := rep_length c z hz r
    have e : rep c z (k :: r) = (if k = c then z else [k]) ++ rep c z r := rfl
    rw [e, List.length_append, List.length_cons]
    split
    · omega
    · simp only [List.length_cons, List.length_nil]; omega
theorem replace_room1 {x : Str} (h : x.cps.size ≤ 100) : x.length + (x.length + 1) * (Str.ofString "\\\\").length ≤ 16777216 := by
  have : (Str.ofString "\\\\").length = 2 := by decide +kernel
  have hl : x.length = x.cps.size := rfl
  rw [this]; omega
theorem replace_room2 {x : Str} (h : x.cps.size ≤ 100) : (Txt.replace x (Str.ofString "\\") (Str.ofString "\\\\")).length + ((Txt.replace x (Str.ofString "\\") (Str.ofString "\\\\")).length + 1) * (Str.ofString "\\\"").length ≤ 16777216 := by
  have : (Str.ofString "\\\"").length = 2 := by decide +kernel
  have hl : (Txt.replace x (Str.ofString "\\") (Str.ofString "\\\\")).length ≤ 200 := by
    show Array.size _ ≤ _
    rw [← Array.length_toList, show Str.ofString "\\" = ⟨#[92]⟩ from by decide +kernel, show Str.ofString "\\\\" = ⟨#[92, 92]⟩ from by decide +kernel, replace_list]
    refine Nat.le_trans (rep_length _ _ (by decide) _) ?_
    rw [Array.length_toList]; omega
  rw [this]; omega
theorem replace_len {x : Str} (h : x.cps.size ≤ 100) : (Txt.replace (Txt.replace x (Str.ofString "\\") (Str.ofString "\\\\")) (Str.ofString "\"") (Str.ofString "\\\"")).length ≤ 400 := by
  show Array.size _ ≤ _
  rw [← Array.length_toList, show Str.ofString "\\" = ⟨#[92]⟩ from by decide +kernel, show Str.ofString "\"" = ⟨#[34]⟩ from by decide +kernel, show Str.ofString "\\\\" = ⟨#[92, 92]⟩ from by decide +kernel, show Str.ofString "\\\"" = ⟨#[92, 34]⟩ from by decide +kernel, replace_list, replace_list]
  have h1 := rep_length 92 [92, 92] (by decide) x.cps.toList
  have h2 := rep_length 34 [92, 34] (by decide) (rep 92 [92, 92] x.cps.toList)
  have h3 : x.cps.toList.length = x.cps.size := Array.length_toList
  show (rep 34 [92, 34] (rep 92 [92, 92] x.cps.toList)).length ≤ 400
  omega
section
open Builtin Builtin.Str
theorem replace_own {prog : Program} {w : World} {A : Around} {E : Value → Shared → Prop} {s : Shared} {x y z : Str} {t u v : Tok} {Q : Value → Shared → Prop} (hs : s.toks ≠ 0) (hu : u ≠ 0) (hv : v ≠ 0) (huv : u ≠ v) (hyz : (y == z) = false) (hb : x.length + (x.length + 1) * z.length ≤ 16777216)
    (hq : ∀ t' k, k ≠ 0 → Q (.str (Txt.replace x y z) t') { s with toks := k }) : wpAny (model prog w) A (call (.builtin "str.replace") [.str x t, .str y u, .str z v]) Q E s := by
  have hl : tooLong (x.length + (occurrences x y 0 x.length (x.length + 1)).length * z.length) = false := by
    have h1 := StrLaws.occ_length_le x y 0 x.length (x.length + 1)
    have h2 : (occurrences x y 0 x.length (x.length + 1)).length * z.length ≤ (x.length + 1) * z.length := Nat.mul_le_mul_right _ h1
    unfold tooLong sizeLine
    exact decide_eq_false (by omega)
  refine call_gives F.slot_str_replace (typeIs_str _ _ _) F.entry_str_replace (F.args_str_replace_3 _ _ _)
    (gives_str_replace x y z t u v fun _ => ⟨by simp [hu, hv], by simp [huv], hyz, hl⟩) ?_
  have hq' := hq
  unfold Txt.replace at hq'
  cases hc : ((occurrences x y 0 x.length (x.length + 1)).isEmpty || (y.length == 0 && z.length == 0))
  · rw [hc] at hq'
    simp only [Bool.false_eq_true, if_false] at hq' ⊢
    exact ⟨fits_replaced y hb, hq' _ _ (Nat.succ_ne_zero _)⟩
  · rw [hc] at hq'
    simp only [if_true] at hq' ⊢
    exact hq' t s.toks hs
end
theorem add_own {prog : Program} {w : World} {A : Around} {E : Value → Shared → Prop} {s : Shared} {x y : Str} {t u : Tok} {n k : Nat} {Q : Value → Shared → Prop} (hx : x.length ≤ n) (hy : y.length ≤ k) (hn : n + k ≤ 1000000)
    (h : ∀ t' tk, (x ++ y).length ≤ n + k → Q (.str (x ++ y) t') { s with toks := tk }) : wpAny (model prog w) A (binaryOp .Add (.str x t) (.str y u)) Q E s :=
  SBL.add (fun t' tk => (by
    intro q
    exact h t' tk (by omega))) (by rw [sizeLine_eq]; omega)
local macro_rules | `(tactic| walk_at "binaryOp Add str str") => `(tactic| (k_here; (with_reducible show wpAny _ _ (binaryOp Operator.Add (Value.str _ _) (Value.str _ _)) _ _ _); (refine' add_own (by first | assumption | exact (show Str.length (Str.ofString _) ≤ 8 from Nat.le_of_ble_eq_true rfl)) (by first | assumption | exact (show Str.length (Str.ofString _) ≤ 8 from Nat.le_of_ble_eq_true rfl)) (by first | decide | omega) ?_); intro _ _ _))
local macro_rules | `(tactic| walk_at "call builtin:str.replace") => `(tactic| (k_here; (with_reducible show wpAny _ _ (call (Value.builtin "str.replace") [Value.str _ _, Value.str _ _, Value.str _ _]) _ _ _); (refine replace_own (by first | exact Nat.succ_ne_zero _ | assumption) (by first | assumption | exact Nat.succ_ne_zero _ | omega | decide) (by first | exact Nat.succ_ne_zero _ | omega | decide) (by first | exact Nat.ne_of_lt (Nat.lt_succ_self _) | omega | decide) (by decide +kernel) (by assumption) ?_); intro _ _ _))
theorem show_name_c {w : World} {dp un : Nat} {gd : Option (List Code)} {cn : Str} {cs : Scope} {a : Addr} {ccd : Value} {cl : List (Str × Addr)} {outer : List Env} {A₀ : Around} {base h₀ : Heap} {L : Addr} {m : Str → Option Value} {news : List (Addr × Obj)} {p : Program} {loose : List Str} {mean : ExcName → Option Value} {mg mb : Str → Option Value} {s : Shared} {Q E : Value → Shared → Prop} (Z : Amb w cs outer A₀ base h₀ L s.heap m news p loose mean mg mb) (hd : dp + 3 < recursionLimit) (hu : un + 300 < cLine)
    {x : Str} {t : Tok} {cz : List Nat} (hx : x.cps.toList = cz) (hn : cz.length ≤ 100) (hc : ∀ c ∈ cz, 32 ≤ c ∧ c < 127)
    (ret : ∀ t' h' tk', Fr h₀ L h' m → News h₀ L h' news → Q (.str ⟨(shownC cz).toArray⟩ t') { s with heap := h', toks := tk' }) :
    wpAny (model PG w) (ktrTop dp un gd cn cs L a ccd cl outer) (call (.ref 281) [.str x t]) Q E s := by
  obtain ⟨B, F, X, N, T, hk⟩ := Z
  have hsz : x.cps.size ≤ 100 := by rw [← Array.length_toList, hx]; exact hn
  have hb1 := replace_room1 hsz
  have hb2 := replace_room2 hsz
  have hb3 := replace_len hsz
  refine wpAny_call ?_
  k_dflt cell_enter
  k_steps
  unfold Halt
  k_dflt (refine Assign_ListComp_G (by k_asm) (by rfl) (by with_unfolding_all rfl) (by with_unfolding_all rfl) (by decide) (by rfl) (by decide) (by rfl) (by rfl) (by rfl) ?_)
  k_steps
  rename News _ _ _ _ => N9
  refine ⟨_, _, _, _, by k_asm, N9, trivial, iter_str rfl (by rw [sizeLine_eq]; omega), fun g9 => ?_⟩
  refine comp_inv (fun i ys nw => nw = news ∧ IntsAre ys ((x.cps.toList.map Int.ofNat).take i)) ⟨rfl, .nil⟩ ?_ ?_
  · rintro i ys nw v I oI C oC D m₂ h tk E' hi ⟨rfl, hys⟩ ⟨c, u, hc, rfl⟩ hC hm F7 N7 off ne
    try k_fold
    k_steps
    refine comp_end (by k_asm) N7 (fun p hp => hp) off trivial ⟨rfl, ?_⟩
    rw [List.take_add_one, show (x.cps.toList.map Int.ofNat)[i]? = some (c : Int) by simp [hc]]
    exact intsAre_snoc hys
  · rintro ys nw ⟨rfl, hys⟩
    rw [show (x.cps.toList.map Int.ofNat).take x.cps.size = x.cps.toList.map Int.ofNat from List.take_of_length_le (by simp), hx] at hys
    have hyl := hys.length
    simp only [List.length_map] at hyl
    clear N9
    by_cases hne : cz.map Int.ofNat = []
    · k_steps
      unfold Halt
      k_dflt (refine ListComp_GT (by k_asm) (by with_unfolding_all rfl) (by decide) (by rfl) (by decide) (by rfl) ?_)
      k_steps
      rename News _ _ _ _ => N9
      refine ⟨_, _, _, _, by k_asm, N9, (.tail _ (.head _)), iter_list rfl (by rw [sizeLine_eq, List.size_toArray]; omega) N9 (.tail _ (.head _)), fun g9 => ?_⟩
      refine comp_invT (fun i ys nw => nw = _ ∧ ys = []) ⟨rfl, rfl⟩ ?_ ?_
      · rintro i ys2 nw v I oI C oC D m₂ h tk E' hi ⟨rfl, rfl⟩ hv hC hm F7 N7 off ne
        obtain ⟨c, u, hc8, rfl⟩ := intsAre_at hys hv
        have hc9 : 32 ≤ c ∧ c < 127 := by
          rw [List.getElem?_map] at hc8
          obtain ⟨d, hd, rfl⟩ := Option.map_eq_some_iff.mp hc8
          have := hc d (List.mem_of_getElem? hd)
          simp only [Int.ofNat_eq_natCast]
          omega
        try k_fold
        k_steps
        exact comp_end (by k_asm) N7 (fun p hp => hp) off (.tail _ (.head _)) ⟨rfl, rfl⟩
      · rintro ys2 nw ⟨rfl, rfl⟩
        have hnil : IntsAre [] [] := .nil
        k_steps
        rw [quoted_codes hx, ← shown_quoted (.inl hne)]
        exact ret _ _ _ (by k_asm) (by rename News h₀ L _ _ => N7; exact fun p hp => N7 p (.tail _ (.tail _ (.tail _ (.tail _ hp)))))
    · k_steps
      unfold Halt
      k_dflt (refine ListComp_GT (by k_asm) (by with_unfolding_all rfl) (by decide) (by rfl) (by decide) (by rfl) ?_)
      k_steps
      rename News _ _ _ _ => N9
      refine ⟨_, _, _, _, by k_asm, N9, (.tail _ (.head _)), iter_list rfl (by rw [sizeLine_eq, List.size_toArray]; omega) N9 (.tail _ (.head _)), fun g9 => ?_⟩
      refine comp_invT (fun i ys nw => nw = _ ∧ IntsAre ys (((cz.map Int.ofNat).take i).filter (fun c => !atomB c))) ⟨rfl, .nil⟩ ?_ ?_
      · rintro i ys2 nw v I oI C oC D m₂ h tk E' hi ⟨rfl, hys2⟩ hv hC hm F7 N7 off ne
        obtain ⟨c, u, hc, rfl⟩ := intsAre_at hys hv
        have hf := filter_snoc (p := fun c => !atomB c) hc
        cases hq : atomB c
        all_goals
          simp only [hq, Bool.not_true, Bool.not_false, Bool.false_eq_true, if_true, if_false, List.append_nil] at hf
          try k_fold
          k_steps
          rename News _ _ _ _ => N8
          refine comp_end (by k_asm) N8 (fun p hp => hp) off (.tail _ (.head _)) ⟨rfl, ?_⟩
          rw [hf]
        · exact intsAre_snoc hys2
        · exact hys2
      · rintro ys2 nw ⟨rfl, hys2⟩
        rw [show (cz.map Int.ofNat).take ys.toArray.size = cz.map Int.ofNat from List.take_of_length_le (by simp; omega)] at hys2
        clear N9
        by_cases hall : (cz.map Int.ofNat).filter (fun c => !atomB c) = []
        · k_steps
          have e9 : x = ⟨(shownC cz).toArray⟩ := str_of_codes (by rw [hx, shown_atom hne hall])
          rw [e9]
          exact ret _ _ _ (by k_asm) (by rename News h₀ L _ _ => N7; exact fun p hp => N7 p (.tail _ (.tail _ (.tail _ (.tail _ hp)))))
        · k_steps
          unfold Halt
          k_dflt (refine ListComp_GT (by k_asm) (by with_unfolding_all rfl) (by decide) (by rfl) (by decide) (by rfl) ?_)
          k_steps
          rename News _ _ _ _ => N9
          refine ⟨_, _, _, _, by k_asm, N9, (.tail _ (.tail _ (.tail _ (.head _)))), iter_list rfl (by rw [sizeLine_eq, List.size_toArray]; omega) N9 (.tail _ (.tail _ (.tail _ (.head _)))), fun g9 => ?_⟩
          refine comp_invT (fun i ys nw => nw = _ ∧ ys = []) ⟨rfl, rfl⟩ ?_ ?_
          · rintro i ys2 nw v I oI C oC D m₂ h tk E' hi ⟨rfl, rfl⟩ hv hC hm F7 N7 off ne
            obtain ⟨c, u, hc8, rfl⟩ := intsAre_at hys hv
            have hc9 : 32 ≤ c ∧ c < 127 := by
              rw [List.getElem?_map] at hc8
              obtain ⟨d, hd, rfl⟩ := Option.map_eq_some_iff.mp hc8
              have := hc d (List.mem_of_getElem? hd)
              simp only [Int.ofNat_eq_natCast]
              omega
            try k_fold
            k_steps
            exact comp_end (by k_asm) N7 (fun p hp => hp) off (.tail _ (.tail _ (.tail _ (.head _)))) ⟨rfl, rfl⟩
          · rintro ys2 nw ⟨rfl, rfl⟩
            have hnil : IntsAre [] [] := .nil
            k_steps
            rw [quoted_codes hx, ← shown_quoted (.inr hall)]
            exact ret _ _ _ (by k_asm) (by rename News h₀ L _ _ => N7; exact fun p hp => N7 p (.tail _ (.tail _ (.tail _ (.tail _ (.tail _ (.tail _ hp)))))))

theorem calm_Ex : True := by w_top off; trivial
/-- the class WireFault, as the top leaves it: its base PostError has the __init__ -/
theorem obj71 (P : Params) : ∃ od cd sl, (Mine.hd.heap_1 P).lookup 71 = some ⟨.type "type", od, .cls cd, sl⟩ ∧ cd.mro = [.ref 71, .ref 46, .type "Exception", .type "BaseException", .type "object"] ∧ cd.hasDict = true ∧ cd.abstract = false ∧ cd.hasDel = false ∧
    sl.toList[4]? = some (some (.builtin "Exception.__new__")) := ⟨_, _, _, rfl, rfl, rfl, rfl, rfl, rfl⟩
structure Cls71 (M : Model) (h : Heap) : Prop where
  obj : ∃ od cd sl, h.get? 71 = some ⟨.type "type", od, .cls cd, sl⟩ ∧ cd.mro = [.ref 71, .ref 46, .type "Exception", .type "BaseException", .type "object"] ∧ cd.hasDict = true ∧ cd.abstract = false ∧ cd.hasDel = false ∧
    sl.toList[4]? = some (some (.builtin "Exception.__new__"))
  mro : Looks M h (mroOf (.ref 71)) [.ref 71, .ref 46, .type "Exception", .type "BaseException", .type "object"]
  made : Looks M h (Bind.madeBy (.ref 71)) (some "Exception.__new__")
  base : Looks M h (Bind.staticBase (.ref 71)) (.ref 71)
  self : Looks M h (isSubtype (.ref 71) (.ref 71)) true
  exc : Looks M h (isSubtype (.ref 71) (.type "Exception")) true
  baseExc : Looks M h (isSubtype (.ref 71) (.type "BaseException")) true
  object : Looks M h (isSubtype (.ref 71) (.type "object")) true
  attr : Looks M h (isSubtype (.ref 71) (.type "AttributeError")) false
  name : Looks M h (isSubtype (.ref 71) (.type "NameError")) false
  call : Looks M h (specialOf (.ref 71) "__call__") (some (.builtin "type.__call__"))
  typ : Looks M h (isInstance (.ref 71) (.type "type")) true
  init : Looks M h (typeLookup (.ref 71) "__init__") (some (.ref 36))
  bind : ∀ self, Looks M h (bindSpecial (.ref 36) self) (.ref 36, [self])
theorem cls71 {M : Model} {h : Heap} {P : Params} (X : (Mine.hd.heap_1 P).In h) : Cls71 M h := by
  obtain ⟨od, cd, sl, ho, e1, e2, e3, e4, e5⟩ := obj71 P
  have hc : clsIn (Mine.hd.heap_1 P) 71 = some cd := by unfold clsIn; rw [ho]
  have hm : Looks M h (mroOf (.ref 71)) cd.mro := (looks_clsIn X hc).andThen .now
  have ne : cd.mro.isEmpty = false := by rw [e1]; rfl
  have sub : ∀ (t : Value) (b : Bool), cd.mro.contains t = b → Looks M h (isSubtype (.ref 71) t) b := fun t b e => looks_mroIn X (by unfold mroIn; rw [hc, Option.bind_some, if_neg (by rw [ne]; decide), e])
  have made : Looks M h (Bind.madeBy (.ref 71)) (some "Exception.__new__") := by
    intro A Q E s k q
    unfold Bind.madeBy
    refine wpAny_bind (hm A _ E s k ?_)
    rw [e1, List.forIn_cons]
    refine wpAny_bind (wpAny_bind (wpAny_bind (wpAny_bind (wpAny_loadPart (k _ _ (X _ _ ho)) (wpAny_pure ?_)))))
    dsimp only
    rw [← Array.getElem?_toList, e5]
    exact wpAny_pure (wpAny_pure (wpAny_pure q))
  refine ⟨⟨od, cd, sl, X _ _ ho, e1, e2, e3, e4, e5⟩, e1 ▸ hm, made, ?_, sub _ _ (by rw [e1]; decide), sub _ _ (by rw [e1]; decide), sub _ _ (by rw [e1]; decide), sub _ _ (by rw [e1]; decide), sub _ _ (by rw [e1]; decide), sub _ _ (by rw [e1]; decide), looks_specialIn X (by k_is), looks_instIn X (by k_is), looks_findIn X (by k_is), fun self => bind_fn X self (by k_is)⟩
  intro A Q E s k q
  unfold Bind.staticBase
  refine wpAny_bind (hm A _ E s k ?_)
  rw [e1, List.forIn_cons]
  exact wpAny_bind (wpAny_bind (wpAny_bind (made A _ E s k (wpAny_pure (wpAny_pure (wpAny_pure q))))))
theorem Cls71.keeps {M : Model} {h h' : Heap} (Y : Cls71 M h) (k : ∀ b o, h.get? b = some o → h'.get? b = some o) : Cls71 M h' :=
  ⟨let ⟨od, cd, sl, ho, r⟩ := Y.obj; ⟨od, cd, sl, k _ _ ho, r⟩, Y.mro.keeps k, Y.made.keeps k, Y.base.keeps k, Y.self.keeps k, Y.exc.keeps k, Y.baseExc.keeps k, Y.object.keeps k, Y.attr.keeps k, Y.name.keeps k, Y.call.keeps k, Y.typ.keeps k, Y.init.keeps k, fun s => (Y.bind s).keeps k⟩
abbrev tupO (vs : List Value) : Obj := { cls := .type "tuple", data := .seq vs.toArray }
abbrev excO (t : Addr) : Obj := { cls := .ref 71, data := .fields #[.ref t, .none, .none, .none, .bool false, .none] }
section
variable {w : World} {A : Around} {R : Result → Shared → Prop} {h : Heap} {g : Array GenState} {d : Drawn} {t : Nat} {os : OsState}
theorem new71 {rest : List Value} (hrest : rest.length ≤ sizeLine) (Y : Cls71 (model PG w) h) (hq : R (.ok (.ret (.ref (h.objs.size + 1)))) ⟨(h.push (tupO rest)).push (excO h.objs.size), g, d, t, os⟩) :
    codeAny (model PG w) A (.call (.builtin "Exception.__new__") ⟨.ref 71 :: rest, []⟩) R ⟨h, g, d, t, os⟩ := by
  have F := PySem.F.excBase_Exception
  obtain ⟨⟨od, cd, sl, ho, e1, e2, e3, e4, e5⟩, mro, made, base, self, exc, baseExc, object, attr, name, call, typ, init, bind⟩ := Y
  have here : Looks (model PG w) h (Bind.madeHere "BaseException.__new__" (.ref 71)) () := base.andThen (made.andThen (Looks.of_pure (by simp only [Option.map_some, F.canon, bne_self_eq_false, Bool.false_eq_true, if_false])))
  refine codeAny_call_builtin_code (Code.quiet_builtin _ F.quiet) ?_
  simp only [checkBuiltinCall, F.newKind, F.newSplit, F.newRow]
  repeat (first | simp only [bne_self_eq_false, Bool.false_eq_true, if_false] | lk)
  refine codeAny_builtinAt F.entry ?_
  unfold Builtin.«BaseException.__new__»
  refine PySem.wpAt_bind ?_
  show PySem.wpAt _ _ _ (stack >>= _) _ _ _
  refine PySem.wpAt_bind (PySem.wpAt_stack fun p below => PySem.wpAt_of_wpAny ?_)
  dsimp only
  rw [if_pos F.ends]
  refine wpAny_pure (PySem.wpAt_of_wpAny ?_)
  rw [F.owner]
  unfold isType
  repeat (first | simp only [Bool.not_true, Bool.false_eq_true, if_false] | lk)
  rw [if_neg (by rw [List.size_toArray]; omega)]
  repeat lk
  refine nd_load (Heap.get?_push_of_some _ (Heap.get?_push_of_some _ ho)) ?_
  repeat (first | simp only [e4, Bool.false_eq_true, if_false] | lk)
  rw [Heap.size_push]
  exact hq
theorem call71 {rest : List Value} (hrest : rest.length ≤ sizeLine) (Y : Cls71 (model PG w) h)
    (hq : codeAny (model PG w) (A.under (.builtin "type.__call__" ⟨.ref 71 :: rest, []⟩)) (.call (.ref 36) ⟨.ref (h.objs.size + 1) :: rest, []⟩) (InitBack (h.objs.size + 1) R) ⟨(h.push (tupO rest)).push (excO h.objs.size), g, d, t, os⟩) :
    codeAny (model PG w) A (.call (.ref 71) ⟨rest, []⟩) R ⟨h, g, d, t, os⟩ := by
  have Y' := Y
  obtain ⟨⟨od, cd, sl, ho, e1, e2, e3, e4, e5⟩, mro, made, base, self, exc, baseExc, object, attr, name, call, typ, init, bind⟩ := Y
  refine codeAny_of_tree ?_
  show wpAny _ _ (callAny (.ref 71) _) _ _ _
  refine nd_load ho ?_
  show wpAny _ _ (callAny.viaDunder (.ref 71) _) _ _ _
  unfold callAny.viaDunder
  refine wpAny_bind (call.at ?_)
  dsimp only
  rw [tc_bind]
  refine wpAny_bind (wpAny_pure (wpAny_bind (wpAny_pure ?_)))
  refine wpAny_pure (a := Fin.again (.call (.builtin "type.__call__") ⟨.ref 71 :: rest, []⟩)) (And.intro rfl ?_)
  refine codeAny_call_builtin_at (Code.quiet_builtin _ (by decide +kernel)) entry_typeCall (check_slot tc_kind tc_split typ (tc_args _ _ _) ?_)
  unfold Builtin.«type.__call__»
  repeat (first | with_reducible refine wpAny_call ?_ | lk)
  refine new71 hrest Y' ?_
  have k : ∀ b o, h.get? b = some o → ((h.push (tupO rest)).push (excO h.objs.size)).get? b = some o := fun b o e => Heap.get?_push_of_some _ (Heap.get?_push_of_some _ e)
  have hx : ((h.push (tupO rest)).push (excO h.objs.size)).get? (h.objs.size + 1) = some (excO h.objs.size) := by heap_get
  have t1 : Looks (model PG w) ((h.push (tupO rest)).push (excO h.objs.size)) (typeOf (.ref (h.objs.size + 1))) (.ref 71) := (Looks.ld hx).andThen .now
  have s1 := self.keeps k
  have i1 := init.keeps k
  have b1 := (bind (.ref (h.objs.size + 1))).keeps k
  unfold isInstance callSpecial? specialOf
  repeat (first | with_reducible refine wpAny_call ?_ | lk)
  refine codeAny_mono hq fun r s' z => ?_
  rcases r with e | (v | _ | _ | _) <;> first | exact z | exact z.elim | skip
  obtain ⟨rfl, z⟩ := z
  exact wpAny_pure (wpAny_pure z)
end

theorem calm_Ey : True := by w_top off; trivial
/-- an exception of the class, as it stands before it is raised -/
def ExcOb (oe : Obj) : Prop := oe.cls = .ref 71 ∧ ∃ t, oe.data = .fields #[.ref t, .none, .none, .none, .bool false, .none]
theorem excOb_freed {oe : Obj} (h : ExcOb oe) : oe.isFreed = false := by
  obtain ⟨_, t, hd⟩ := h
  exact Obj.isFreed_of_fields hd
def NsOb (od : Obj) (ns : List Str) : Prop := ∃ es ep mA, od.data = .dict es ep ∧ StrKeys es ∧ UniqKeys es ∧ (∀ name, nsFind es name = mA name) ∧ Within mA ns
theorem NsOb.ns1 {od : Obj} {ns : List Str} {h : Heap} {a : Addr} (x : NsOb od ns) (e : h.get? a = some od) : ∃ mA, h.Ns1 a mA ∧ Within mA ns := by
  obtain ⟨es, ep, mA, hd, hk, hu, hm, hw⟩ := x
  exact ⟨mA, ⟨od, es, ep, e, hd, hk, hu, hm⟩, hw⟩
theorem ns1_ob {h : Heap} {a : Addr} {mA : Str → Option Value} {ns : List Str} (x : h.Ns1 a mA) (hw : Within mA ns) : ∃ od, h.get? a = some od ∧ NsOb od ns := by
  obtain ⟨od, es, ep, e, hd, hk, hu, hm⟩ := x
  exact ⟨od, e, es, ep, mA, hd, hk, hu, hm, hw⟩
section
variable {w : World} {A : Around} {E : Value → Shared → Prop} {s : Shared} {h₀ : Heap} {L e : Addr} {m : Str → Option Value} {oe : Obj} {r : List (Addr × Obj)}
theorem exc_init {v : Value} {Q : Value → Shared → Prop} (F : Fr h₀ L s.heap m) (X₀ : (Mine.hd.heap_1 w.params).In h₀) (N : News h₀ L s.heap ((e, oe) :: r)) (ne : ∀ p ∈ r, p.1 ≠ e) (ho : ExcOb oe)
    (h : ∀ oe' h', Fr h₀ L h' m → News h₀ L h' ((e, oe') :: r) → ExcOb oe' → oe'.dict = oe.dict → Q .none { s with heap := h' }) : wpAny (model PG w) A (call (.builtin "Exception.__init__") [.ref e, v]) Q E s := by
  have FX := PySem.F.excBase_Exception
  obtain ⟨hp, g, d, tk, os⟩ := s
  dsimp only at F N h
  have Y := cls71 (M := model PG w) (X₀.keeps F.keep)
  obtain ⟨hc, t, hd⟩ := ho
  obtain ⟨oc, dct, dt, osl⟩ := oe
  dsimp only at hc hd
  subst hc hd
  have he : hp.get? e = some ⟨.ref 71, dct, .fields #[.ref t, .none, .none, .none, .bool false, .none], osl⟩ := (N (e, _) (.head _)).1
  have he1 := Heap.get?_push_of_some (h := hp) { cls := .type "tuple", data := .seq [v].toArray } he
  have t0 : Looks (model PG w) hp (typeOf (.ref e)) (.ref 71) := (Looks.ld he).andThen .now
  have i1 : Looks (model PG w) hp (isInstance (.ref e) (.type "Exception")) true := t0.andThen Y.exc
  have FC := FX.toExcCallFacts
  obtain ⟨od, cd, sl, ho71, -⟩ := Y.obj
  refine wpAny_call (codeAny_call_builtin FC.init.plain FC.initEntry ?_)
  simp only [checkBuiltinCall, FC.initKind, FC.initSplit, FC.initRow]
  repeat (first | simp only [Bool.not_true, Bool.false_eq_true, if_false] | lk)
  show wpAny _ _ (update e _) _ _ _
  refine wpAny_update he1 ?_
  have N1 := N.push F { cls := .type "tuple", data := .seq [v].toArray }
  have F1 := F.push { cls := .type "tuple", data := .seq [v].toArray }
  have N2 : News h₀ L (hp.push { cls := .type "tuple", data := .seq [v].toArray }) ([] ++ (e, _) :: r) := fun p hp => N1 p (.tail _ hp)
  obtain ⟨F3, N3⟩ := news_upd (f := Obj.mapFields (·.setIfInBounds 0 (.ref hp.objs.size))) F1 N2 (by intro p hp; cases hp) ne rfl (Obj.isFreed_of_fields (Obj.data_mapFields rfl _))
  have fin := h _ _ F3 N3 ⟨rfl, _, rfl⟩ rfl
  repeat lk
  exact fin
/-- a store into an own dict -/
theorem store_in {d : Addr} {mA : Str → Option Value} {ns : List Str} {name : Str} {tk : Tok} {v : Value} {Q : PySem.Fin → Shared → Prop} (hns : s.heap.Ns1 d mA) (hw : Within mA ns) (hl : ns.length ≤ 10)
    (h : ∀ h', h'.Ns1 d (fun y => if y = name then some v else mA y) → Heap.SameBut d s.heap h' → Q (.done (.ret .none)) { s with heap := h', toks := s.toks + 1 }) : wpAny (model PG w) A (Builtin.ObjectAttr.storeInDict d (.str name tk) name v) Q E s := by
  unfold Builtin.ObjectAttr.storeInDict Builtin.ObjectAttr.newKeyGuard
  refine wpAny_bind (wpAny_pure (wpAny_bind (wpAny_nsSet1 hns fun h' hn' hs => ?_)))
  obtain ⟨oD, esD, epD, hoD, hdD, hcD⟩ := hn'.count (Within.cons name v hw)
  refine wpAny_bind (wpAny_lookBehind hoD (by rw [hdD]; exact pastItsLine_dict (Nat.le_trans hcD (by rw [List.length_cons, sizeLine_eq]; omega))) ?_)
  exact wpAny_pure (h h' hn' hs)
theorem exc_osa {R : Result → Shared → Prop} {name : Str} {tk : Tok} {v : Value} (X : (Mine.hd.heap_1 w.params).In s.heap) (he : s.heap.get? e = some oe) (hc : oe.cls = .ref 71) (ht : takerIn (Mine.hd.heap_1 w.params) 71 name = some none)
    (h : ∀ b, wpAny (model PG w) A.in1 (Builtin.ObjectAttr.storeInOwnDict (.ref e) (.ref 71) (.str name tk) name v b) (fun fin s' => match fin with | .done f => R (.ok f) s' | .again c' => c'.quiet = true ∧ codeAny (model PG w) A c' R s') (fun e s' => R (.error e) s') s) :
    codeAny (model PG w) A (.call (.builtin "object.__setattr__") ⟨[.ref e, .str name tk, v], []⟩) R s := by
  have SF := PySem.F.store_Exception
  have Y := cls71 (M := model PG w) X
  have t0 : Looks (model PG w) s.heap (typeOf (.ref e)) (.ref 71) := hc ▸ (Looks.ld he).andThen .now
  have sub : Looks (model PG w) s.heap (isInstance (.ref e) (.type "object")) true := t0.andThen Y.object
  obtain ⟨attr, ha, hr⟩ := Option.bind_eq_some_iff.mp ht
  have L3 : Looks (model PG w) s.heap (Builtin.ObjectAttr.storeTaker? attr) none := by
    cases attr with
    | none => exact .now
    | some a =>
      obtain ⟨b, hb, hbr⟩ := Option.map_eq_some_iff.mp hr
      refine (looks_takesIn X hb).andThen ?_
      cases b
      · exact .now
      · cases hbr
  refine codeAny_call_builtin SF.slot.plain SF.entry (@check_slot (model PG w) _ _ s "object.__setattr__" "object" "__setattr__" (.ref e) [.str name tk, v] [] _ SF.kind SF.split sub (SF.args (.ref e) (.str name tk) v) ?_)
  rw [osa_eq, refuse_eq]
  refine wpAny_bind (wpAny_bind (t0.here (wpAny_bind (Y.mro.here ?_))))
  rw [refuseLoop_ref, refuseLoop_ref, SF.passes]
  exact wpAny_pure (wpAny_bind (t0.here (wpAny_bind ((looks_findIn X ha).here (wpAny_bind (L3.here (h _)))))))
theorem exc_set1 {name : Str} {v : Value} {Q : Unit → Shared → Prop} (F : Fr h₀ L s.heap m) (X₀ : (Mine.hd.heap_1 w.params).In h₀) (N : News h₀ L s.heap ((e, oe) :: r)) (ne : ∀ p ∈ r, p.1 ≠ e) (ho : ExcOb oe) (hdc : oe.dict = none) (ht : takerIn (Mine.hd.heap_1 w.params) 71 name = some none)
    (hsa : findIn (Mine.hd.heap_1 w.params) (.ref 71) "__setattr__" = some (some (.builtin "object.__setattr__")))
    (h : ∀ oe' dx od h', Fr h₀ L h' m → News h₀ L h' ((e, oe') :: (dx, od) :: r) → ExcOb oe' → oe'.dict = some dx → NsOb od [name] → e ≠ dx → (∀ p ∈ r, p.1 ≠ dx) → Q () { s with heap := h', toks := s.toks + 2 }) : wpAny (model PG w) A (setAttr (.ref e) name v) Q E s := by
  obtain ⟨hp, g, d, tk, os⟩ := s
  dsimp only at F N h
  have X := X₀.keeps F.keep
  have Y := cls71 (M := model PG w) X
  obtain ⟨hc, t, hd⟩ := ho
  obtain ⟨oc, dct, dt, osl⟩ := oe
  dsimp only at hc hd hdc
  subst hc hd hdc
  have he : hp.get? e = some ⟨.ref 71, none, .fields #[.ref t, .none, .none, .none, .bool false, .none], osl⟩ := (N (e, _) (.head _)).1
  refine set_plain (s := ⟨hp, g, d, tk, os⟩) (od := none) X ⟨he, rfl, rfl, trivial⟩ hsa ?_
  refine exc_osa (s := ⟨hp, g, d, tk + 1, os⟩) X he rfl ht fun b => ?_
  obtain ⟨od9, cd9, sl9, ho71, e1, e2, e3, e4, e5⟩ := Y.obj
  have hcd : clsIn (Mine.hd.heap_1 w.params) 71 = some cd9 := by
    obtain ⟨od8, cd8, sl8, k8, _⟩ := obj71 w.params
    have := X _ _ k8
    rw [ho71] at this
    cases this
    unfold clsIn
    rw [k8]
  have L9 : Looks (model PG w) hp (classData 71) cd9 := looks_clsIn X hcd
  have hlt := Heap.lt_size he
  have hne : e ≠ hp.objs.size := Nat.ne_of_lt hlt
  have he1 := Heap.get?_push_of_some (h := hp) ({ cls := .type "dict", data := .dict #[] } : Obj) he
  have N1 := N.push F ({ cls := .type "dict", data := .dict #[] } : Obj)
  have F1 := F.push ({ cls := .type "dict", data := .dict #[] } : Obj)
  have N2 : News h₀ L (hp.push { cls := .type "dict", data := .dict #[] }) ([(hp.objs.size, { cls := .type "dict", data := .dict #[] })] ++ (e, _) :: r) := N1
  obtain ⟨F3, N3⟩ := news_upd (f := fun o => { o with dict := some hp.objs.size }) F1 N2 (by intro p hp; rw [List.mem_singleton.mp hp]; exact hne.symm) ne rfl rfl
  have hdx := (N3 (hp.objs.size, _) (.head _)).1
  have hrx : ∀ p ∈ r, p.1 ≠ hp.objs.size := fun p hm => Nat.ne_of_lt (Heap.lt_size (N p (.tail _ hm)).1)
  have nsd : ((hp.push { cls := .type "dict", data := .dict #[] }).update e fun o => { o with dict := some hp.objs.size }).Ns1 hp.objs.size (fun _ => none) := Heap.Ns1.of_empty ⟨_, #[], _, hdx, rfl, fun q hq => absurd hq (by simp), fun _ => rfl⟩
  have fin : wpAny (model PG w) A.in1 (Builtin.ObjectAttr.storeInDict hp.objs.size (.str name tk) name v) (fun fin s' => match fin with | .done f => (match (Except.ok f : Result) with | .ok (.ret _) => Q () s' | .ok _ => False | .error e => E e s') | .again c' => c'.quiet = true ∧ codeAny (model PG w) A c' (fun r s' => match r with | .ok (.ret _) => Q () s' | .ok _ => False | .error e => E e s') s') (fun e s' => E e s')
      ⟨(hp.push { cls := .type "dict", data := .dict #[] }).update e fun o => { o with dict := some hp.objs.size }, g, d, tk + 1, os⟩ := by
    refine store_in nsd Within.nil (Nat.zero_le _) fun h' hn' hs' => ?_
    obtain ⟨od, hod, nob⟩ := ns1_ob hn' (Within.cons name v Within.nil)
    have nL : hp.objs.size ≠ L := (N3 (hp.objs.size, _) (.head _)).2.1
    have n0 : h₀.get? hp.objs.size = none := (N3 (hp.objs.size, _) (.head _)).2.2
    refine h ⟨.ref 71, some hp.objs.size, .fields #[.ref t, .none, .none, .none, .bool false, .none], osl⟩ hp.objs.size od h' (F3.change hs' nL n0) (fun p hm => ?_) ⟨rfl, t, rfl⟩ rfl nob hne hrx
    rcases List.mem_cons.mp hm with rfl | hm
    · exact ⟨(hs'.2 e hne).trans (N3 (e, _) (.tail _ (.head _))).1, (N3 (e, _) (.tail _ (.head _))).2⟩
    · rcases List.mem_cons.mp hm with rfl | hm
      · exact ⟨hod, nL, n0⟩
      · exact ⟨(hs'.2 _ (hrx p hm)).trans (N3 p (.tail _ (.tail _ hm))).1, (N3 p (.tail _ (.tail _ hm))).2⟩
  unfold Builtin.ObjectAttr.storeInOwnDict
  repeat (first | simp only [e2, Bool.not_true, Bool.false_eq_true, if_false] | lk)
  show wpAny _ _ (update e _) _ _ _
  refine wpAny_update he1 ?_
  repeat (first | exact fin | lk)
theorem exc_set2 {name : Str} {v : Value} {dx : Addr} {od : Obj} {ns : List Str} {Q : Unit → Shared → Prop} (F : Fr h₀ L s.heap m) (X₀ : (Mine.hd.heap_1 w.params).In h₀) (N : News h₀ L s.heap ((e, oe) :: (dx, od) :: r)) (ho : ExcOb oe) (hdc : oe.dict = some dx) (hne : e ≠ dx) (hrx : ∀ p ∈ r, p.1 ≠ dx) (nob : NsOb od ns) (hnl : ns.length ≤ 10) (ht : takerIn (Mine.hd.heap_1 w.params) 71 name = some none)
    (hsa : findIn (Mine.hd.heap_1 w.params) (.ref 71) "__setattr__" = some (some (.builtin "object.__setattr__")))
    (h : ∀ h', Fr h₀ L h' m → News h₀ L h' ((e, oe) :: r) → Q () { s with heap := h', toks := s.toks + 2 }) : wpAny (model PG w) A (setAttr (.ref e) name v) Q E s := by
  obtain ⟨hp, g, d, tk, os⟩ := s
  dsimp only at F N h
  have X := X₀.keeps F.keep
  have Y := cls71 (M := model PG w) X
  obtain ⟨hc, t, hd⟩ := ho
  obtain ⟨oc, dct, dt, osl⟩ := oe
  dsimp only at hc hd hdc
  subst hc hd hdc
  have he : hp.get? e = some ⟨.ref 71, some dx, .fields #[.ref t, .none, .none, .none, .bool false, .none], osl⟩ := (N (e, _) (.head _)).1
  have hdx : hp.get? dx = some od := (N (dx, od) (.tail _ (.head _))).1
  refine set_plain (s := ⟨hp, g, d, tk, os⟩) (od := some od) X ⟨he, rfl, rfl, hdx⟩ hsa ?_
  refine exc_osa (s := ⟨hp, g, d, tk + 1, os⟩) X he rfl ht fun b => ?_
  obtain ⟨od9, cd9, sl9, ho71, e1, e2, e3, e4, e5⟩ := Y.obj
  have hcd : clsIn (Mine.hd.heap_1 w.params) 71 = some cd9 := by
    obtain ⟨od8, cd8, sl8, k8, _⟩ := obj71 w.params
    have := X _ _ k8
    rw [ho71] at this
    cases this
    unfold clsIn
    rw [k8]
  have L9 : Looks (model PG w) hp (classData 71) cd9 := looks_clsIn X hcd
  obtain ⟨mA, nsd, hw⟩ := nob.ns1 hdx
  have nL : dx ≠ L := (N (dx, od) (.tail _ (.head _))).2.1
  have n0 : h₀.get? dx = none := (N (dx, od) (.tail _ (.head _))).2.2
  have fin : wpAny (model PG w) A.in1 (Builtin.ObjectAttr.storeInDict dx (.str name tk) name v) (fun fin s' => match fin with | .done f => (match (Except.ok f : Result) with | .ok (.ret _) => Q () s' | .ok _ => False | .error e => E e s') | .again c' => c'.quiet = true ∧ codeAny (model PG w) A c' (fun r s' => match r with | .ok (.ret _) => Q () s' | .ok _ => False | .error e => E e s') s') (fun e s' => E e s')
      ⟨hp, g, d, tk + 1, os⟩ := by
    refine store_in nsd hw hnl fun h' hn' hs' => ?_
    refine h h' (F.change hs' nL n0) fun p hm => ?_
    rcases List.mem_cons.mp hm with rfl | hm
    · exact ⟨(hs'.2 e hne).trans (N (e, _) (.head _)).1, (N (e, _) (.head _)).2⟩
    · exact ⟨(hs'.2 _ (hrx p hm)).trans (N p (.tail _ (.tail _ hm))).1, (N p (.tail _ (.tail _ hm))).2⟩
  unfold Builtin.ObjectAttr.storeInOwnDict
  repeat (first | exact fin | simp only [e2, Bool.not_true, Bool.false_eq_true, if_false] | lk)
theorem raise71 {env : Env} {x : Sem Value} {Q : Flow → Shared → Prop} (hh : A.handled = none)
    (h : wpAny (model PG w) A x (fun v s₁ => ∃ e oe, v = .ref e ∧ Cls71 (model PG w) s₁.heap ∧ s₁.heap.get? e = some oe ∧ ExcOb oe ∧ E (.ref e) s₁) E s) : wpAny (model PG w) A (raiseStmt env (some x) none) Q E s := by
  unfold raiseStmt
  refine wpAny_bind (wpAny_mono h (fun v s₁ h₁ => ?_) fun _ _ y => y)
  obtain ⟨e, oe, rfl, Y, he, ⟨hc, t, hd⟩, hE⟩ := h₁
  obtain ⟨hp, g, d, tk, os⟩ := s₁
  obtain ⟨oc, dct, dt, osl⟩ := oe
  dsimp only at hc hd he Y
  subst hc hd
  have t0 : Looks (model PG w) hp (typeOf (.ref e)) (.ref 71) := (Looks.ld he).andThen .now
  have i0 : Looks (model PG w) hp (isInstance (.ref e) (.type "BaseException")) true := t0.andThen Y.baseExc
  obtain ⟨od9, cd9, sl9, ho71, -⟩ := Y.obj
  repeat (first | exact wpAny_raiseNew_none hh hE | lk)
/-- making an exception: what is made ahead of its __init__ -/
theorem call71_c {rest : List Value} {Q : Value → Shared → Prop} {news : List (Addr × Obj)} (F : Fr h₀ L s.heap m) (X₀ : (Mine.hd.heap_1 w.params).In h₀) (N : News h₀ L s.heap news) (hrest : rest.length ≤ sizeLine)
    (h : ∀ e t h', Fr h₀ L h' m → News h₀ L h' ((e, excO t) :: (t, tupO rest) :: news) → t < e → (∀ p ∈ news, p.1 < t) →
      codeAny (model PG w) (A.under (.builtin "type.__call__" ⟨.ref 71 :: rest, []⟩)) (.call (.ref 36) ⟨.ref e :: rest, []⟩) (InitBack e fun r s' => match r with | .ok (.ret v) => Q v s' | .ok _ => False | .error e => E e s') { s with heap := h' }) :
    wpAny (model PG w) A (call (.ref 71) rest) Q E s := by
  obtain ⟨hp, g, d, tk, os⟩ := s
  dsimp only at F N h
  have N1 := (N.push F (tupO rest)).push (F.push _) (excO hp.objs.size)
  rw [Heap.size_push] at N1
  refine wpAny_call (call71 hrest (cls71 (X₀.keeps F.keep)) ?_)
  exact h (hp.objs.size + 1) hp.objs.size _ ((F.push _).push _) N1 (Nat.lt_succ_self _) fun p hm => Heap.lt_size (N p hm).1
end

theorem calm_Ez : True := by w_top off; trivial
theorem excOb_O (t : Addr) : ExcOb (excO t) := ⟨rfl, t, rfl⟩
theorem meta_Exception : typeOf (.type "Exception") = pure (.type "type") := by first | rfl | kernel_rfl
local macro_rules | `(tactic| walk_at "getMethod type:Exception") => `(tactic| (k_here; refine' method_type ?F ?X ?m (by decide +kernel) ?e ?h ?_; (case F => k_asm); (case X => k_asm); (case m => exact meta_Exception); (case e => k_dflt k_is); (case h => k_handed)))
local macro_rules | `(tactic| walk_at "call builtin:Exception.__init__") => `(tactic| (k_here; k_dflt (refine' exc_init (by k_asm) (by k_asm) (by k_asm) ‹_› (by first | exact excOb_O _ | assumption) ?_; k_whole; intro oe' h' F' N' ho' hd'; (try k_sweep))))
local macro_rules | `(tactic| walk_at "setAttr ref") => `(tactic| (k_here; (with_reducible refine sa "what" ?_); k_dflt (refine' exc_set1 (by k_asm) (by k_asm) (by k_asm) ‹_› ‹_› ‹_› (by k_is) (by k_is) ?_; k_whole; intro oe' dx' od' h' F' N' ho' hd' nob' hne' hrx'; (try k_sweep))))
local macro_rules | `(tactic| walk_at "setAttr ref") => `(tactic| (k_here; (with_reducible refine sa "at" ?_); k_dflt (refine' exc_set2 (by k_asm) (by k_asm) (by k_asm) ‹_› ‹_› ‹_› ‹_› ‹_› (by decide) (by k_is) (by k_is) ?_; k_whole; intro h' F' N'; (try k_sweep))))
theorem new_exc_c {w : World} {dp un : Nat} {gd : Option (List Code)} {cn : Str} {cs : Scope} {a : Addr} {ccd : Value} {cl : List (Str × Addr)} {outer : List Env} {A₀ : Around} {base h₀ : Heap} {L : Addr} {m : Str → Option Value} {news : List (Addr × Obj)} {p : Program} {loose : List Str} {mean : ExcName → Option Value} {mg mb : Str → Option Value} {s : Shared} {Q E : Value → Shared → Prop} (Z : Amb w cs outer A₀ base h₀ L s.heap m news p loose mean mg mb) (hd : dp + 4 < recursionLimit) (hu : un + 300 < cLine)
    {x : Str} {t : Tok}
    (ret : ∀ e oe t2 h' tk', Fr h₀ L h' m → News h₀ L h' ((e, oe) :: (t2, tupO [.str x t]) :: news) → ExcOb oe → Q (.ref e) { s with heap := h', toks := tk' }) :
    wpAny (model PG w) (ktrTop dp un gd cn cs L a ccd cl outer) (call (.ref 71) [.str x t]) Q E s := by
  obtain ⟨B, F, X, N, T, hk⟩ := Z
  k_dflt (refine' call71_c ?k1 ?k2 ?k3 ?k4 ?_; (case k1 => k_asm); (case k2 => k_asm); (case k3 => k_asm); (case k4 => (rw [sizeLine_eq]; simp only [List.length_cons, List.length_nil]; decide)); k_whole; intro e' t' h' F' N' l1 l2; have ne9 : ∀ p ∈ (t', tupO [.str x t]) :: news, p.1 ≠ e' := (fun p hp => by
    rcases List.mem_cons.mp hp with rfl | hp
    · exact Nat.ne_of_lt l1
    · exact Nat.ne_of_lt (Nat.lt_trans (l2 p hp) l1)); (try k_sweep); cell_enter)
  k_steps
  exact ret _ _ _ _ _ (by k_asm) (by k_asm) (by assumption)

theorem calm_Ew : True := by w_top off; trivial
/-- an exception of the class on its way up the frames -/
def Flown (base : Heap) (l : List Env) (e : Addr) (h : Heap) : Prop := ∃ a0, Heap.FlyingW base l e (.ref 71) a0 h
def SlotNews (news : List (Addr × Obj)) (h' : Heap) : Prop := ∀ p ∈ news, (∀ vs, p.2.data ≠ .fields vs) → ∃ sl, h'.get? p.1 = some { p.2 with slots := sl }
/-- the same, with any mark of a frame upon its traceback -/
def Marked (base : Heap) (l : List Env) (e : Addr) (h : Heap) : Prop := base.StaysIn h ∧ base.get? e = none ∧ h.FunFrames base l ∧ ∃ a0 fl, h.TracedAtW base e (.ref 71) a0 fl
theorem Flown.marked {base h : Heap} {l : List Env} {e : Addr} (x : Flown base l e h) : Marked base l e h := let ⟨a0, k1, k2, k3, k4⟩ := x; ⟨k1, k2, k3, a0, _, k4.at⟩
section
variable {M : Model} {A : Around} {E : Value → Shared → Prop} {s : Shared} {base g : Heap} {outer : List Env} {L a e : Addr} {m : Str → Option Value} {name : Str} {scope : Scope} {cd : Value}
theorem leave71 {oe : Obj} {r : List (Addr × Obj)} {Q : Unit → Shared → Prop} (K : Below A base outer g) (F : Fr g L s.heap m) (N : News g L s.heap ((e, oe) :: r)) (ho : ExcOb oe) (hk : scope.kind = .function)
    (hQ : ∀ h', Flown base outer e h' → g.UpToSlots h' → SlotNews r h' → Q () { s with heap := h' }) : wpAny M (A.deeper (envOf name scope L a cd)) (leaving (envOf name scope L a cd) (.ref e)) Q E s := by
  have K' := K.push (name := name) (a := a) (cd := cd) F hk
  obtain ⟨hc, t, hd⟩ := ho
  have he := (N (e, oe) (.head _)).1
  have hen : base.get? e = none := fresh_of_stays K.stays (N (e, oe) (.head _)).2.2
  refine wpAny_leaving_firstW (a0 := .ref t) K'.stack K'.frames rfl he K'.stays hen hd rfl rfl fun h' hL => ?_
  obtain ⟨k1, ⟨_, _, k2⟩, k3, k4⟩ := hL
  exact hQ h' ⟨.ref t, k1, hen, k2, hc ▸ k3⟩ ((Heap.UpToSlots.of_keeps F.keep).trans k4) fun p hp hnf => k4 p.1 p.2 (N p (.tail _ hp)).1 hnf
theorem setFlight_any {l : List Env} {f : Option Addr} {Q : Unit → Shared → Prop} (x : Marked base l e s.heap) (h : ∀ h', Marked base l e h' → s.heap.UpToSlots h' → Q () { s with heap := h' }) : wpAny M A (setFlight (.ref e) f) Q E s := by
  obtain ⟨hkb, hen, hl, a0, fl, oe, vs, T, oT, ts, he, hcls, hd, h1, hnT, hTe, hT, hdT, h3⟩ := x
  have hsz3 : 3 < ts.size := (Array.getElem?_eq_some_iff.mp h3).1
  have other : ∀ b, b ≠ T → (s.heap.update T (Obj.mapFields (·.setIfInBounds 3 (f.elim .none fun f => rawInt f)))).get? b = s.heap.get? b := fun b hb => Heap.get?_update_other _ _ (Ne.symm hb)
  have noRecord : ∀ b o, s.heap.get? b = some o → (∀ vs, o.data ≠ .fields vs) → b ≠ T := fun b o hb hnf q => by
    rw [q, hT] at hb; injection hb with hb; subst hb; exact hnf ts hdT
  unfold setFlight
  refine wpAny_bind (wpAny_field he hd h1 ?_)
  rw [if_pos (show (Value.ref T != Value.none) = true from by simp)]
  refine wpAny_setField hT hdT hsz3 (h _ ⟨fun b o hbo => (other b fun q => by rw [q, hnT] at hbo; cases hbo).trans (hkb b o hbo), hen,
    hl.of_keeps fun b o hb hnf => ⟨o, (other b (noRecord b o hb hnf)).trans hb, rfl⟩, a0, f.elim .none (fun f => rawInt f), ?_⟩ fun b o hb hnf => ⟨o.slots, (other b (noRecord b o hb hnf)).trans hb⟩)
  exact ⟨oe, vs, T, _, _, (other e (Ne.symm hTe)).trans he, hcls, hd, h1, hnT, hTe, Heap.get?_update_self _ hT (Obj.isFreed_of_fields (Obj.data_mapFields hdT _)), Obj.data_mapFields hdT _, by simp [hsz3]⟩
theorem passOn_any {α : Type} {what : String} {l : List Env} {cenv : Env} (x : Marked base l e s.heap) (h : ∀ h', Marked base l e h' → s.heap.UpToSlots h' → E (.ref e) { s with heap := h' }) : wpAny M A (PySem.passOn what (.ref e) cenv : Sem α) (fun _ _ => False) E s := by
  have x' := x
  obtain ⟨hkb, hen, hl, a0, fl, oe, vs, T, oT, ts, he, hcls, hd, h1, hnT, hTe, hT, hdT, h3⟩ := x
  unfold PySem.passOn
  refine wpAny_bind (wpAny_field he hd h1 ?_)
  rw [if_neg (by simp)]
  exact wpAny_bind (setFlight_any x' fun h' m' u' => wpAny_throw (h h' m' u'))
theorem leave_any {env : Env} {Q : Unit → Shared → Prop} (hfr : A.frames = some (env :: outer)) (hf : env.frame = some L) (x : Marked base (env :: outer) e s.heap) (hQ : ∀ h', Flown base outer e h' → s.heap.UpToSlots h' → Q () { s with heap := h' }) : wpAny M A (leaving env (.ref e)) Q E s := by
  obtain ⟨hkb, hen, hl, a0, fl, ht⟩ := x
  have ht' := ht
  obtain ⟨oe, vs, T, oT, ts, he, ⟨hcls, h0⟩, hd, h1, hnT, hTe, hT, hdT, h3⟩ := ht
  have fin : ∀ h', Heap.FlyingW base (env :: outer) e (.ref 71) a0 h' → s.heap.UpToSlots h' → Q () { s with heap := h' } := fun h' z u => hQ h' (by
    obtain ⟨k1, k2, ⟨_, _, k3⟩, k4⟩ := z
    exact ⟨a0, k1, k2, k3, k4⟩) u
  unfold leaving noteFrame
  simp only [hf]
  refine wpAny_bind (wpAny_bind (wpAny_field he hd h1 ?_))
  rw [if_pos (show (Value.ref T != Value.none) = true from by simp)]
  refine wpAny_bind (wpAny_field hT hdT h3 ?_)
  by_cases q : (fl == rawInt L) = true
  · rw [if_pos q]
    refine wpAny_pure (wpAny_setFlight_noneW hkb hl ht' fun h' k1 k2 k3 k4 => fin h' ⟨k1, hen, k2, k3⟩ fun b o hb hn => ⟨o.slots, k4 b o hb hn⟩)
  · rw [if_neg q]
    refine wpAny_bind (wpAny_setField hT hdT (Array.getElem?_eq_some_iff.mp h3).1 ?_)
    have other : ∀ b, b ≠ T → (s.heap.update T (Obj.mapFields (·.setIfInBounds 3 Value.none))).get? b = s.heap.get? b := fun b hb => Heap.get?_update_other _ _ (Ne.symm hb)
    have noRecord : ∀ b o, s.heap.get? b = some o → (∀ vs, o.data ≠ .fields vs) → b ≠ T := fun b o hb hnf q => by
      rw [q, hT] at hb; injection hb with hb; subst hb; exact hnf ts hdT
    refine wpAny_newEntryW hfr (hl.of_keeps fun b o hb hnf => ⟨o, (other b (noRecord b o hb hnf)).trans hb, rfl⟩) hf ((other e (Ne.symm hTe)).trans he)
      (fun b o hbo => (other b fun q => by rw [q, hnT] at hbo; cases hbo).trans (hkb b o hbo)) hen hd (Array.getElem?_eq_some_iff.mp h1).1 h0
      fun h' ⟨x1, x2, x3, x4⟩ => fin h' ⟨x1, hen, x2, hcls ▸ x3⟩ fun b o hb hnf => x4 b o ((other b (noRecord b o hb hnf)).trans hb) hnf
/-- a note of the frame upon a flying exception -/
theorem note_any {env : Env} {Q : Unit → Shared → Prop} (hfr : A.frames = some (env :: outer)) (hf : env.frame = some L) (x : Flown base (env :: outer) e s.heap) (hQ : ∀ h', Marked base (env :: outer) e h' → s.heap.UpToSlots h' → Q () { s with heap := h' }) : wpAny M A (noteFrame (.ref e) env) Q E s := by
  obtain ⟨a0, x⟩ := x
  refine wpAny_looks_onW hfr hf x fun h' z u => hQ h' ?_ u
  obtain ⟨k1, k2, k3, k4⟩ := z
  exact ⟨k1, k2, k3, a0, _, k4⟩
theorem Marked.sameBut {h h' : Heap} {l : List Env} {C : Addr} (x : Marked base l e h) (hs : Heap.SameBut C h h') (hC : base.get? C = none) (hne : ∀ o, h.get? C = some o → ∀ vs, o.data ≠ .fields vs) (hex : ∃ o, h.get? C = some o) (hfr : C ∉ l.filterMap (·.frame)) : Marked base l e h' := by
  obtain ⟨hkb, hen, hl, a0, fl, oe, vs, T, oT, ts, he, hcls, hd, h1, hnT, hTe, hT, hdT, h3⟩ := x
  obtain ⟨oC, hoC⟩ := hex
  have nc : ∀ b o vs, h.get? b = some o → o.data = .fields vs → b ≠ C := fun b o vs hb hd q => by
    rw [q] at hb
    exact hne o hb vs hd
  refine ⟨fun b o hb => (hs.2 b (fun q => by rw [q, hC] at hb; cases hb)).trans (hkb b o hb), hen, ?_, a0, fl, oe, vs, T, oT, ts, (hs.2 e (nc e oe vs he hd)).trans he, hcls, hd, h1, hnT, hTe, (hs.2 T (nc T oT ts hT hdT)).trans hT, hdT, h3⟩
  clear hkb hen he hcls hd h1 hnT hTe hT hdT h3
  induction l with
  | nil => trivial
  | cons env l ih =>
    obtain ⟨hk, ⟨L', o, hf, hn, ho, hd⟩, hr⟩ := hl
    refine ⟨hk, ⟨L', o, hf, hn, (hs.2 L' (fun q => hfr ?_)).trans ho, hd⟩, ih (fun q => hfr ?_) hr⟩
    · rw [List.filterMap_cons, hf, ← q]; exact .head _
    · rw [List.filterMap_cons, hf]; exact .tail _ q
end

theorem calm_Ev : True := by w_top off; trivial
section
variable {w : World} {A : Around} {E : Value → Shared → Prop} {s : Shared} {h₀ base : Heap} {L : Addr} {m : Str → Option Value} {env : Env} {outer : List Env}
/-- a turn's end -/
def TurnEnd (h₀ : Heap) (L : Addr) (m : Str → Option Value) (s : Shared) (good : Prop) (all : List (Addr × Obj)) (_ : Value) (s' : Shared) : Prop := good ∧ ∃ h' tk', s' = { s with heap := h', toks := tk' } ∧ Fr h₀ L h' m ∧ News h₀ L h' all
/-- a turn of a comprehension whose element may raise -/
def TurnX (w : World) (A : Around) (base h₀ : Heap) (L : Addr) (m : Str → Option Value) (env : Env) (outer : List Env) (elt : Expr) (x : Str) (scope : Scope) (cl : List (Str × Addr)) (s : Shared) (P : Nat → Value → Prop) (Good : Nat → Prop) (n : Nat) (news : List (Addr × Obj)) : Prop :=
  ∀ i v I oI C oC D (ys : List Value) m₂ h tk (E' : Value → Shared → Prop), i < n → P i v → LCg.NsObj oC m₂ → m₂ x = some v → Fr h₀ L h m → News h₀ L h ((I, oI) :: (C, oC) :: (D, LCg.lst ys) :: news) → LCg.Off3 I C D news → ((@Ne Nat I C) ∧ (@Ne Nat I D) ∧ (@Ne Nat C D)) →
    (∀ e h' tk', Flown base (env :: outer) e h' → h'.Ns L m → h₀.UpToSlots h' → SlotNews ((I, oI) :: (C, oC) :: (D, LCg.lst ys) :: news) h' → E' (.ref e) { s with heap := h', toks := tk' }) →
    wpAny (model PG w) A (eval elt (compEnvC scope cl C env)) (TurnEnd h₀ L m s (Good i) ((I, oI) :: (C, oC) :: (D, LCg.lst ys) :: news)) E' { s with heap := h, toks := tk }
def LcSrcX (w : World) (A : Around) (base h₀ : Heap) (L : Addr) (m : Str → Option Value) (env : Env) (outer : List Env) (elt : Expr) (x : Str) (scope : Scope) (cl : List (Str × Addr)) (E : Value → Shared → Prop) (xv : Value) (s₁ : Shared) : Prop :=
  ∃ n P S Good news, Fr h₀ L s₁.heap m ∧ News h₀ L s₁.heap news ∧ S news ∧ Iter w A h₀ L xv s₁ n P S ∧ (∀ g, TurnX w A base h₀ L m env outer elt x scope cl { s₁ with heap := g } P Good n news) ∧ ((∀ i, i < n → Good i) → False) ∧
    ∀ e h' tk', Marked base (env :: outer) e h' → h'.Ns L m → h₀.UpToSlots h' → SlotNews news h' → E (.ref e) { s₁ with heap := h', toks := tk' }
theorem comp_bad {elt iter : Expr} {x : Str} {px : Pos} {scope : Scope} {cl : List (Str × Addr)} {pos : Pos} {Q : Value → Shared → Prop} (_F₀ : Fr h₀ L s.heap m) (hfr : A.frames = some (env :: outer)) (hf : env.frame = some L) (hst : base.StaysIn h₀) (hout : ∀ a ∈ outer.filterMap (·.frame), ∃ o, h₀.get? a = some o)
    (hclos : closureFor scope env = pure cl) (hcell : ∀ y ∈ scope.names, y.2 ≠ .cell) (hkind : scope.kind = .function)
    (hnames : ∀ y ∈ scope.names, y.2 = .local → scope.names.lookup y.1 = some .local) (hx : scope.names.lookup x = some .local)
    (h : wpAny (model PG w) A (eval iter env) (LcSrcX w A base h₀ L m env outer elt x scope cl E) E s)
    (hs : ∀ x, foldedSetIterable iter env x = pure x := by intro _; rfl) :
    wpAny (model PG w) A (eval (.ListComp elt [⟨.Name x px, iter, [], 0⟩] scope pos) env) Q E s := by
  rw [eval_ListComp]
  refine wpAny_comprehension_free (use := none) rfl hs hclos hkind hnames (wpAny_mono h (fun xv s₁ h₁ => ?_) fun _ _ e => e)
  obtain ⟨n, P, S, Good, news, F, N, hS, It, T, never, hE⟩ := h₁
  refine It.go _ _ fun o fp St W hIo hSt st0 hfp => ?_
  have T' := T (s₁.heap.push o)
  have up : ∀ b o', s₁.heap.get? b = some o' → (s₁.heap.push o).get? b = some o' := fun b o' e => Heap.get?_push_of_some _ e
  have F := F.keeps up
  have hIL : L ≠ s₁.heap.objs.size := by
    have := (show Fr h₀ L s₁.heap m from by assumption).ns.lt
    exact Nat.ne_of_lt this
  have hI₀ : h₀.get? s₁.heap.objs.size = none := next_is_new (by assumption)
  have offI : ∀ p ∈ news, p.1 ≠ s₁.heap.objs.size := fun p hp => Nat.ne_of_lt (Heap.lt_size (N p hp).1)
  have N := N.grown up
  generalize hI : s₁.heap.objs.size = I at *
  generalize hG : s₁.heap.push o = G at *
  refine wpAny_newObj_type (wpAny_newFunctionEnv hcell (by intro y hy; simp at hy) (fun h₁ hns₁ hsb₁ => ?_) hkind)
  dsimp only at hns₁ hsb₁ ⊢
  obtain ⟨D, hD⟩ : ∃ D, D = G.objs.size := ⟨_, rfl⟩
  obtain ⟨C, hC⟩ : ∃ C, C = (G.push ({ cls := .type "list", data := .seq #[] } : Obj)).objs.size := ⟨_, rfl⟩
  rw [← hC] at hns₁ hsb₁ ⊢
  rw [← hD]
  have hCD : C = D + 1 := by rw [hC, hD, Heap.size_push]
  have lt : ∀ b o', G.get? b = some o' → b < D := fun b o' e => hD ▸ Heap.lt_size e
  have ltI : I < D := by rw [hD, ← hG, Heap.size_push, hI]; exact Nat.lt_succ_self _
  have hfpD : ∀ b ∈ fp, b < D := fun b hb => by rw [hD]; exact hfp b hb
  have old : ∀ b o', G.get? b = some o' → h₁.get? b = some o' := fun b o' e => hsb₁.extBut b o' (Nat.ne_of_lt (by rw [hCD]; exact Nat.lt_succ_of_lt (lt b o' e))) (Heap.get?_push_of_some _ (Heap.get?_push_of_some _ e))
  have hacc : h₁.get? D = some (LCg.lst []) := hsb₁.extBut _ _ (by rw [hCD]; exact Nat.ne_of_lt (Nat.lt_succ_self _)) (Heap.get?_push_of_some _ (by rw [hD]; exact Heap.get?_push_size _ rfl))
  have gone : ∀ a, D ≤ a → h₀.get? a = none := fun a ha => by
    cases e : h₀.get? a with
    | none => rfl
    | some o' => exact absurd (lt a o' (F.keep a o' e)) (Nat.not_lt.mpr ha)
  have hD₀ := gone D (Nat.le_refl _)
  have hC₀ := gone C (by rw [hCD]; exact Nat.le_succ _)
  have hLD : L < D := by rw [hD]; exact F.ns.lt
  have dDL : D ≠ L := Nat.ne_of_gt hLD
  have dCL : C ≠ L := by rw [hCD]; exact Nat.ne_of_gt (Nat.lt_succ_of_lt hLD)
  have dIC : I ≠ C := by rw [hCD]; exact Nat.ne_of_lt (Nat.lt_succ_of_lt ltI)
  have dID : I ≠ D := Nat.ne_of_lt ltI
  have dCD : C ≠ D := by rw [hCD]; exact Nat.ne_of_gt (Nat.lt_succ_self _)
  have off : LCg.Off3 I C D news := LCg.Off3.of fun p hp => ⟨offI p hp, by rw [hCD]; exact Nat.ne_of_lt (Nat.lt_succ_of_lt (lt _ _ (N p hp).1)), Nat.ne_of_lt (lt _ _ (N p hp).1)⟩
  have offm := off.mem
  have hDf : D ∉ fp := fun q => Nat.lt_irrefl _ (hfpD _ q)
  have hCf : C ∉ fp := fun q => by have := hfpD _ q; rw [hCD] at this; exact Nat.lt_irrefl _ (Nat.lt_of_succ_lt this)
  have bC : base.get? C = none := fresh_of_stays hst hC₀
  have frC : C ∉ (env :: outer).filterMap (·.frame) := fun q => by
    obtain ⟨en, hen, hef⟩ := List.mem_filterMap.mp q
    rcases List.mem_cons.mp hen with rfl | hen
    · rw [hf] at hef; exact dCL (Option.some.inj hef).symm
    · obtain ⟨o', ho'⟩ := hout C (List.mem_filterMap.mpr ⟨en, hen, hef⟩)
      rw [hC₀] at ho'; cases ho'
  have raised : ∀ e oC m₂ h' tk', LCg.NsObj oC m₂ → (∃ sl, h'.get? C = some { oC with slots := sl }) → Flown base (env :: outer) e h' → h'.Ns L m → h₀.UpToSlots h' → SlotNews news h' →
      notedBy (model PG w) A (compEnvC scope cl C env) (fun e s' => compPost (model PG w) A E none Q (.ref D) C (.error e) s') (.ref e) { s₁ with heap := h', toks := tk' } := by
    intro e oC m₂ h' tk' hoC hsl fl nL up₀ nn
    show wpAny _ A (noteFrame (.ref e) env) _ _ _
    refine note_any (s := { s₁ with heap := h', toks := tk' }) hfr hf fl fun h₂ mk u => ?_
    obtain ⟨es, ep, hdC, hk, hm⟩ := hoC
    have hdf : ∀ vs, oC.data ≠ .fields vs := fun vs q => by rw [hdC] at q; cases q
    obtain ⟨sl, hsl⟩ := hsl
    obtain ⟨sl₂, hsl₂⟩ := u C _ hsl hdf
    refine ⟨m₂, ⟨_, es, ep, hsl₂, hdC, hk, hm⟩, fun h₃ hs₃ cenv' _ => ?_⟩
    refine passOn_any (s := { s₁ with heap := h₃, toks := tk' }) (mk.sameBut hs₃ bC (fun o' ho' vs q => by rw [hsl₂] at ho'; cases ho'; exact hdf vs q) ⟨_, hsl₂⟩ frC) fun h₄ mk₄ u₄ => hE e h₄ tk' mk₄ (u₄.ns ((u.ns nL).sameBut hs₃ (Ne.symm dCL))) (fun b o' hb hnf => ?_) fun p hp hnf => ?_
    · obtain ⟨z, hz⟩ := up₀ b o' hb hnf
      obtain ⟨z₂, hz₂⟩ := u b _ hz hnf
      have hz₃ := (hs₃.2 b (fun q => by rw [q, hC₀] at hb; cases hb)).trans hz₂
      obtain ⟨z₃, hz₄⟩ := u₄ b _ hz₃ hnf
      exact ⟨z₃, hz₄⟩
    obtain ⟨z, hz⟩ := nn p hp hnf
    obtain ⟨z₂, hz₂⟩ := u p.1 _ hz hnf
    have hz₃ := (hs₃.2 p.1 (offm p hp).2.1).trans hz₂
    obtain ⟨z₃, hz₄⟩ := u₄ p.1 _ hz₃ hnf
    exact ⟨z₃, hz₄⟩
  have loop : ∀ s₃ : Shared, s₃ = { s₁ with heap := h₁, toks := s₁.toks + ([] : List (Str × Value)).length } →
      codeAny (model PG w) A (.compLoop (.ListComp elt [⟨.Name x px, iter, [], 0⟩] scope pos) 0 (.ref I) (.ref D) (compEnvC scope cl C env)) (compPost (model PG w) A E none Q (.ref D) C) s₃ := by
    rintro s₃ rfl
    refine codeAny_compLoop_tests
      (fun k s' => ∃ h' tk i ys m', s' = { s₁ with heap := h', toks := tk } ∧ i ≤ n ∧ k = n + 1 - i ∧ ys.length = i ∧ St i h' ∧ Fr h₀ L h' m ∧ h'.Ns C m' ∧ News h₀ L h' ((D, LCg.lst ys) :: news) ∧ ∀ j, j < i → Good j) ?_ (n + 1)
      ⟨h₁, _, 0, [], _, rfl, Nat.zero_le _, rfl, rfl, W.frame _ _ _ st0 (fun b _ o' e => old b o' e), F.keeps old, hns₁, fun p hp => ?_, fun j hj => absurd hj (Nat.not_lt_zero _)⟩
    · rintro k s' ⟨h', tk, i, ys, m', rfl, hi, rfl, hyl, hst', F', hn', N', gd⟩
      by_cases hlt : i < n
      · refine W.item i _ _ _ hlt hst' fun v h₂ tk₂ hPv hst₂ hk₂ => ?_
        refine wpAny_assign_Name (wpAny_storeName_local (lookup_relabel_local hx) (hn'.at' fun o' e => hk₂ _ o' (by simpa using Ne.symm dIC) e) (fun h₃ hn₃ hs₃ => ?_) (by simp [compEnvC, relabel, hkind]))
        refine wpAny_tests_nil ?_
        simp only [if_true]
        have hst₃ : St (i + 1) h₃ := W.frame _ _ _ hst₂ fun b hb o' e => hs₃.extBut b o' (fun q => hCf (by have q' : b = C := q; rw [← q']; exact hb)) e
        obtain ⟨oI, heI⟩ := hIo _ _ hst₃
        obtain ⟨oC, heC, hoC⟩ := LCg.ns_obj hn₃
        have F₃ : Fr h₀ L h₃ m := (LCg.fr_but F' hk₂ hIL hI₀).change hs₃ dCL hC₀
        have N₂ : News h₀ L h₂ ((D, LCg.lst ys) :: news) := LCg.news_but N' hk₂ fun p hp => by
          rcases List.mem_cons.mp hp with rfl | hp
          · exact Ne.symm dID
          · exact (offm p hp).1
        have N₃ : News h₀ L h₃ ((I, oI) :: (C, oC) :: (D, LCg.lst ys) :: news) := fun p hp => by
          rcases List.mem_cons.mp hp with rfl | hp
          · exact ⟨heI, Ne.symm hIL, hI₀⟩
          · rcases List.mem_cons.mp hp with rfl | hp
            · exact ⟨heC, dCL, hC₀⟩
            · have z := N₂ p hp
              refine ⟨hs₃.extBut _ _ ?_ z.1, z.2⟩
              rcases List.mem_cons.mp hp with rfl | hp
              · exact Ne.symm dCD
              · exact (offm p hp).2.1
        refine wpAny_mono (T' i v I oI C oC D ys _ h₃ _ _ hlt hPv hoC (by simp) F₃ N₃ off ⟨dIC, dID, dCD⟩ fun e h' tk' fl nL up₀ nn => ?_) (fun y s₄ h₄ => ?_) fun _ _ e => e
        · refine raised e oC _ h' tk' hoC (nn (C, oC) (.tail _ (.head _)) fun vs q => ?_) fl nL up₀ fun p hp => nn p (.tail _ (.tail _ (.tail _ hp)))
          obtain ⟨es, ep, hdC, _⟩ := hoC
          have q' : oC.data = .fields vs := q
          rw [hdC] at q'
          cases q'
        · obtain ⟨good, h₄, tk₄, rfl, F₄, N₄⟩ := h₄
          have zI := (N₄ (I, oI) (.head _)).1
          have zC := (N₄ (C, oC) (.tail _ (.head _))).1
          have zD := (N₄ (D, LCg.lst ys) (.tail _ (.tail _ (.head _)))).1
          have N₄' : News h₀ L h₄ news := fun p hp => N₄ p (.tail _ (.tail _ (.tail _ hp)))
          have hst₄ : St (i + 1) h₄ := hSt _ _ _ _ _ hst₃ heI zI F₄.keep N₄' hS
          refine append_at (hsz := by show ys.toArray.size ≤ sizeLine; rw [List.size_toArray, hyl]; exact Nat.le_trans hi It.size) zD fun h₅ hs₅ hD₅ => ?_
          refine ⟨n + 1 - (i + 1), by omega, h₅, tk₄, i + 1, ys ++ [y], _, rfl, hlt, rfl, by rw [List.length_append, List.length_singleton, hyl], W.frame _ _ _ hst₄ fun b hb o' e => hs₅.extBut b o' (fun q => hDf (q ▸ hb)) e, F₄.change hs₅ dDL hD₀,
            (hoC.ns zC).sameBut hs₅ dCD, fun p hp => ?_, fun j hj => ?_⟩
          · rcases List.mem_cons.mp hp with rfl | hp
            · exact ⟨hD₅.trans (congrArg some (LCg.lst_snoc ys y)), dDL, hD₀⟩
            · exact ⟨hs₅.extBut _ _ (offm p hp).2.2 (N₄' p hp).1, (N₄' p hp).2⟩
          · rcases Nat.lt_succ_iff_lt_or_eq.mp hj with hj | rfl
            · exact gd j hj
            · exact good
      · obtain rfl : i = n := Nat.le_antisymm hi (Nat.not_lt.mp hlt)
        exact (never gd).elim
    · rcases List.mem_cons.mp hp with rfl | hp
      · exact ⟨hacc, dDL, hD₀⟩
      · exact ⟨old _ _ (N p hp).1, (N p hp).2⟩
  exact codeAny_compStart_list (loop _ rfl) (W.self 0 _ _ _ (W.frame _ _ _ st0 fun b _ o' e => old b o' e) (loop _ rfl))
end

theorem calm_Ra : True := by w_top off; trivial
/-- what is made for a raise -/
def RaiseMid (M : Model) (E : Value → Shared → Prop) (v : Value) (s₁ : Shared) : Prop := ∃ e oe, v = .ref e ∧ Cls71 M s₁.heap ∧ s₁.heap.get? e = some oe ∧ ExcOb oe ∧ E (.ref e) s₁
local macro_rules | `(tactic| walk_at "exec Raise some none") => `(tactic| (k_here; refine Halt.go ?_))
local macro_rules | `(tactic| walk_at "RaiseMid") => `(tactic| (refine Halt.go ?_))
local macro_rules | `(tactic| walk_at "call ref") => `(tactic| (k_here; (with_reducible refine cr1 71 ?_); k_dflt (refine' new_exc_c (by walk_at "amb") (by ktr_room) (by ktr_units) ?_; walk_at "fin8")))
theorem show_name_bad {w : World} {dp un : Nat} {gd : Option (List Code)} {cn : Str} {cs : Scope} {a : Addr} {ccd : Value} {cl : List (Str × Addr)} {outer : List Env} {A₀ : Around} {base h₀ : Heap} {L : Addr} {m : Str → Option Value} {news : List (Addr × Obj)} {p : Program} {loose : List Str} {mean : ExcName → Option Value} {mg mb : Str → Option Value} {s : Shared} {Q E : Value → Shared → Prop} (Z : Amb w cs outer A₀ base h₀ L s.heap m news p loose mean mg mb) (hd : dp + 5 < recursionLimit) (hu : un + 310 < cLine)
    {x : Str} {t : Tok} {cz : List Nat} (hx : x.cps.toList = cz) (hn : cz.length ≤ 100) (hbad : ¬ (cz.map Int.ofNat).filter (fun c => !(decide (32 ≤ c) && decide (c < 127))) = [])
    (exc : ∀ e h' tk', Flown base (envX cn cs L a ccd cl :: outer) e h' → h'.Ns L m → h₀.UpToSlots h' → SlotNews news h' → E (.ref e) { s with heap := h', toks := tk' }) :
    wpAny (model PG w) (ktrTop dp un gd cn cs L a ccd cl outer) (call (.ref 281) [.str x t]) Q E s := by
  obtain ⟨B, F, X, N, T, hk⟩ := Z
  have hsz : x.cps.size ≤ 100 := by rw [← Array.length_toList, hx]; exact hn
  have hne : ¬ cz.map Int.ofNat = [] := by intro e; rw [e] at hbad; exact hbad rfl
  have hall : ¬ (cz.map Int.ofNat).filter (fun c => !atomB c) = [] := by
    intro e
    refine hbad (List.filter_eq_nil_iff.mpr fun c hc hq => ?_)
    have h1 := List.filter_eq_nil_iff.mp e c hc
    simp only [Bool.not_eq_true, Bool.not_eq_false', atomB, Bool.and_eq_true, decide_eq_true_eq] at h1
    simp only [Bool.not_eq_true', Bool.and_eq_false_iff, decide_eq_false_iff_not] at hq
    omega
  refine wpAny_call ?_
  k_dflt cell_enter
  k_steps
  unfold Halt
  k_dflt (refine Assign_ListComp_G (by k_asm) (by rfl) (by with_unfolding_all rfl) (by with_unfolding_all rfl) (by decide) (by rfl) (by decide) (by rfl) (by rfl) (by rfl) ?_)
  k_steps
  rename News _ _ _ _ => N9
  refine ⟨_, _, _, _, by k_asm, N9, trivial, iter_str rfl (by rw [sizeLine_eq]; omega), fun g9 => ?_⟩
  refine comp_inv (fun i ys nw => nw = news ∧ IntsAre ys ((x.cps.toList.map Int.ofNat).take i)) ⟨rfl, .nil⟩ ?_ ?_
  · rintro i ys nw v I oI C oC D m₂ h tk E' hi ⟨rfl, hys⟩ ⟨c, u, hc, rfl⟩ hC hm F7 N7 off ne
    try k_fold
    k_steps
    refine comp_end (by k_asm) N7 (fun p hp => hp) off trivial ⟨rfl, ?_⟩
    rw [List.take_add_one, show (x.cps.toList.map Int.ofNat)[i]? = some (c : Int) by simp [hc]]
    exact intsAre_snoc hys
  · rintro ys nw ⟨rfl, hys⟩
    rw [show (x.cps.toList.map Int.ofNat).take x.cps.size = x.cps.toList.map Int.ofNat from List.take_of_length_le (by simp), hx] at hys
    have hyl := hys.length
    simp only [List.length_map] at hyl
    clear N9
    k_steps
    unfold Halt
    k_dflt (refine ListComp_GT (by k_asm) (by with_unfolding_all rfl) (by decide) (by rfl) (by decide) (by rfl) ?_)
    k_steps
    rename News _ _ _ _ => N9
    refine ⟨_, _, _, _, by k_asm, N9, (.tail _ (.head _)), iter_list rfl (by rw [sizeLine_eq, List.size_toArray]; omega) N9 (.tail _ (.head _)), fun g9 => ?_⟩
    refine comp_invT (fun i ys nw => nw = _ ∧ IntsAre ys (((cz.map Int.ofNat).take i).filter (fun c => !atomB c))) ⟨rfl, .nil⟩ ?_ ?_
    · rintro i ys2 nw v I oI C oC D m₂ h tk E' hi ⟨rfl, hys2⟩ hv hC hm F7 N7 off ne
      obtain ⟨c, u, hc, rfl⟩ := intsAre_at hys hv
      have hf := filter_snoc (p := fun c => !atomB c) hc
      cases hq : atomB c
      all_goals
        simp only [hq, Bool.not_true, Bool.not_false, Bool.false_eq_true, if_true, if_false, List.append_nil] at hf
        try k_fold
        k_steps
        rename News _ _ _ _ => N8
        refine comp_end (by k_asm) N8 (fun p hp => hp) off (.tail _ (.head _)) ⟨rfl, ?_⟩
        rw [hf]
      · exact intsAre_snoc hys2
      · exact hys2
    · rintro ys2 nw ⟨rfl, hys2⟩
      rw [show (cz.map Int.ofNat).take ys.toArray.size = cz.map Int.ofNat from List.take_of_length_le (by simp; omega)] at hys2
      clear N9
      k_steps
      unfold Halt
      k_dflt (refine ListComp_GT (by k_asm) (by with_unfolding_all rfl) (by decide) (by rfl) (by decide) (by rfl) ?_)
      k_steps
      rename News _ _ _ _ => N9
      refine ⟨_, _, _, _, by k_asm, N9, (.tail _ (.tail _ (.tail _ (.head _)))), iter_list rfl (by rw [sizeLine_eq, List.size_toArray]; omega) N9 (.tail _ (.tail _ (.tail _ (.head _)))), fun g9 => ?_⟩
      refine comp_invT (fun i ys nw => nw = _ ∧ IntsAre ys (((cz.map Int.ofNat).take i).filter (fun c => !(decide (32 ≤ c) && decide (c < 127))))) ⟨rfl, .nil⟩ ?_ ?_
      · rintro i ys3 nw v I oI C oC D m₂ h tk E' hi ⟨rfl, hys3⟩ hv hC hm F7 N7 off ne
        obtain ⟨c, u, hc, rfl⟩ := intsAre_at hys hv
        have hf := filter_snoc (p := fun c => !(decide (32 ≤ c) && decide (c < 127))) hc
        by_cases q1 : 32 ≤ c <;> by_cases q2 : c < 127
        all_goals
          simp only [q1, q2, decide_true, decide_false, Bool.and_true, Bool.and_false, Bool.false_and, Bool.not_true, Bool.not_false, Bool.false_eq_true, if_true, if_false, List.append_nil] at hf
          try k_fold
          k_steps
          refine comp_end (by k_asm) N7 (fun p hp => hp) off (.tail _ (.tail _ (.tail _ (.head _)))) ⟨rfl, ?_⟩
          rw [hf]
          first | exact hys3 | exact intsAre_snoc hys3
      · rintro ys3 nw ⟨rfl, hys3⟩
        rw [show (cz.map Int.ofNat).take ys.toArray.size = cz.map Int.ofNat from List.take_of_length_le (by simp; omega)] at hys3
        clear N9
        k_steps
        unfold Halt
        rw [arm_exec_Raise]
        refine wpAny_bind (wpAny_standAt (raise71 rfl ?_))
        refine wpAny_bind (wpAny_mono (Q := RaiseMid _ _) ?_ (fun v s₃ h₃ => wpAny_bind (wpAny_standAt (wpAny_pure h₃))) fun _ _ y => y)
        k_steps
        unfold Halt
        rename ExcOb _ => ho9
        rename News _ _ _ _ => N9
        rename Fr _ _ _ _ => F9
        rename Below _ _ _ _ => B9
        rename Fr h₀ L _ m => FG9
        refine ⟨_, _, rfl, cls71 (Frag.In.keeps (by assumption) F9.keep), (N9 _ (.head _)).1, ho9, ?_⟩
        show wpAny _ _ (leaving _ _) _ _ _
        refine leave71 B9 F9 N9 ho9 rfl fun h9 fl up nn => ?_
        exact exc _ _ _ fl (up.ns FG9.ns) ((Heap.UpToSlots.of_keeps FG9.keep).trans up) fun p hp => nn p (.tail _ (.tail _ (.tail _ (.tail _ (.tail _ (.tail _ (.tail _ hp)))))))

theorem calm_Sp : True := by w_top off; trivial
/-- a number's text -/
abbrev numS (n : Int) : Str := Str.ofString (toString n)
abbrev numC (n : Int) : List Nat := (numS n).cps.toList
theorem str_own {prog : Program} {w : World} {A : Around} {E : Value → Shared → Prop} {s : Shared} {n : Int} {t : Tok} {Q : Value → Shared → Prop} (h0 : 0 ≤ n) (h1 : n < 10 ^ 10) (h : (numS n).length ≤ 10 → Q (.str (numS n) s.toks) { s with toks := s.toks + 1 }) : wpAny (model prog w) A (call (.type "str") [.int n t]) Q E s :=
  P.str_of_int (shown (N := 2 ^ 1920) (by omega) (by omega) (Int.le_refl _)) (h (KT.len_num h0 h1))
local macro_rules | `(tactic| walk_at "call type:str") => `(tactic| (k_here; (with_reducible refine c1i ?_); (refine str_own (by walk_at "ao") (by walk_at "ao") ?_); intro _))
/-- the codes of a wanted part, as a section shows it -/
def partC : Option (Int × Int) → Bool → List Nat
  | none, _ => []
  | some (a, b), ans => 60 :: (numC a ++ ((if ans = true then [] else 46 :: numC b) ++ [62]))
def PartB (news : List (Addr × Obj)) (pt : Value) (part : Option (Int × Int)) : Prop :=
  (pt = .none ∧ part = none) ∨ ∃ a b pp t1 t2 k, part = some (a, b) ∧ pt = .ref pp ∧ (pp, ({ cls := .type "tuple", data := .seq [.int a t1, .int b t2].toArray k } : Obj)) ∈ news ∧ 0 ≤ a ∧ a < 10 ^ 10 ∧ 0 ≤ b ∧ b < 10 ^ 10
theorem c_lt : (Str.ofString "<").cps.toList = [60] := by decide +kernel
theorem c_gt : (Str.ofString ">").cps.toList = [62] := by decide +kernel
theorem c_dot : (Str.ofString ".").cps.toList = [46] := by decide +kernel
theorem c_none : (Str.ofString "").cps.toList = [] := by decide +kernel
theorem c_lb : (Str.ofString "[").cps.toList = [91] := by decide +kernel
theorem c_rb : (Str.ofString "]").cps.toList = [93] := by decide +kernel
theorem c_op : (Str.ofString " (").cps.toList = [32, 40] := by decide +kernel
theorem c_cl : (Str.ofString ")").cps.toList = [41] := by decide +kernel
theorem c_sp : (Str.ofString " ").cps.toList = [32] := by decide +kernel
theorem PartB.mono {n n' : List (Addr × Obj)} {pt : Value} {part : Option (Int × Int)} (h : PartB n pt part) (sub : ∀ p ∈ n, p ∈ n') : PartB n' pt part := by
  rcases h with h | ⟨a, b, pp, t1, t2, k, e1, e2, hm, r⟩
  · exact .inl h
  · exact .inr ⟨a, b, pp, t1, t2, k, e1, e2, sub _ hm, r⟩
theorem show_partial_c {w : World} {dp un : Nat} {gd : Option (List Code)} {cn : Str} {cs : Scope} {a : Addr} {ccd : Value} {cl : List (Str × Addr)} {outer : List Env} {A₀ : Around} {base h₀ : Heap} {L : Addr} {m : Str → Option Value} {news : List (Addr × Obj)} {p : Program} {loose : List Str} {mean : ExcName → Option Value} {mg mb : Str → Option Value} {s : Shared} {Q E : Value → Shared → Prop} (Z : Amb w cs outer A₀ base h₀ L s.heap m news p loose mean mg mb) (hd : dp + 3 < recursionLimit) (hu : un + 300 < cLine)
    {pt : Value} {part : Option (Int × Int)} {ans : Bool} (hp : PartB news pt part)
    (ret : ∀ z t' h' tk', Fr h₀ L h' m → News h₀ L h' news → z.cps.toList = partC part ans → z.length ≤ 100 → Q (.str z t') { s with heap := h', toks := tk' }) :
    wpAny (model PG w) (ktrTop dp un gd cn cs L a ccd cl outer) (call (.ref 288) [pt, .bool ans]) Q E s := by
  obtain ⟨B, F, X, N, T, hk⟩ := Z
  rcases hp with ⟨rfl, rfl⟩ | ⟨a, b, pp, t1, t2, k, rfl, rfl, hm, ha0, ha1, hb0, hb1⟩
  · refine wpAny_call ?_
    k_dflt cell_enter
    k_steps
    exact ret _ _ _ _ (by k_asm) (by k_asm) rfl (by decide)
  · cases ans
    all_goals
      refine wpAny_call ?_
      k_dflt cell_enter
      k_steps
      exact ret _ _ _ _ (by k_asm) (by k_asm) (by simp [partC, Str.cps_append, c_lt, c_gt, c_dot, c_none]) (by omega)
local macro_rules | `(tactic| walk_at "call ref") => `(tactic| (k_here; (with_reducible refine cr2 288 ?_); k_dflt (refine' show_partial_c (by walk_at "amb") (by ktr_room) (by ktr_units) (PartB.mono (by assumption) (by intro p hp; repeat (first | exact hp | apply List.mem_cons_of_mem))) ?_; walk_at "fin8")))
local macro_rules | `(tactic| walk_at "call ref") => `(tactic| (k_here; (with_reducible refine cr1 281 ?_); k_dflt (refine' show_name_c (by walk_at "amb") (by ktr_room) (by ktr_units) ‹_› ‹_› ‹_› ?_; walk_at "fin5")))
theorem iter_tupleK {w : World} {A : Around} {s₁ : Shared} {h₀ : Heap} {L : Addr} {ax : Addr} {vs : List Value} {news : List (Addr × Obj)} {k : Nat} (hh : A.handled = none) (hsz : vs.length ≤ sizeLine) (N : News h₀ L s₁.heap news) (hm : (ax, ({ cls := .type "tuple", data := .seq vs.toArray k } : Obj)) ∈ news) :
    Iter w A h₀ L (.ref ax) s₁ vs.length (fun i v => vs[i]? = some v) (fun nw => (ax, ({ cls := .type "tuple", data := .seq vs.toArray k } : Obj)) ∈ nw) where
  size := hsz
  go := fun Q E q => by
    have tup : ∀ {h : Heap}, h.get? ax = some { cls := .type "tuple", data := .seq vs.toArray k } → h.IsTuple ax vs.toArray := fun e => ⟨_, e, rfl, _, rfl⟩
    have hl := tup (N.get hm)
    have hlt : ax < s₁.heap.objs.size := Heap.lt_size (N.get hm)
    have W : Walks PG w A s₁.heap.objs.size [s₁.heap.objs.size, ax] [s₁.heap.objs.size] vs.length (fun i v => vs.toArray[i]? = some v) _ := Walks.tuple hh s₁.heap.objs.size ax (Nat.ne_of_lt hlt) vs.toArray
    refine wpAny_pyIter_tuple hl (q _ _ _ ⟨W.sub, W.frame, fun i s Q E hi st hQ => W.item i s Q E hi st fun v h' tk hP => hQ v h' tk (by simpa using hP), W.done, W.self⟩ (fun i h q => let ⟨o, e, _⟩ := q.1; ⟨o, e⟩) ?_ ⟨⟨_, Heap.get?_push_size _ rfl, rfl, rfl⟩, tup (Heap.get?_push_of_some _ (N.get hm))⟩ ?_)
    · intro i h h' o nw q e e' _ N' S
      exact ⟨by obtain ⟨o', e2, r⟩ := q.1; rw [e] at e2; cases e2; exact ⟨o, e', r⟩, tup (N'.get S)⟩
    · intro b hb
      rw [Heap.size_push]
      rcases List.mem_cons.mp hb with rfl | hb
      · exact Nat.lt_succ_self _
      · rw [List.mem_singleton.mp hb]; exact Nat.lt_succ_of_lt hlt
theorem intsAre_atL {vs : List Value} {ns : List Int} {v : Value} {i : Nat} (h : IntsAre vs ns) (e : vs[i]? = some v) : ∃ n t, ns[i]? = some n ∧ v = .int n t := intsAre_at h (by rw [List.getElem?_toArray]; exact e)
theorem strsAre_atL {vs : List Value} {ns : List Str} {v : Value} {i : Nat} (h : StrsAre vs ns) (e : vs[i]? = some v) : ∃ n t, ns[i]? = some n ∧ v = .str n t := by
  induction h generalizing i with
  | nil => simp at e
  | cons n t r ih =>
    cases i with
    | zero => exact ⟨n, t, rfl, (Option.some.inj (by simpa using e)).symm⟩
    | succ i => simpa using ih (by simpa using e)
theorem strsAre_append {us : List Value} {zs : List Str} (h' : StrsAre us zs) : ∀ {vs : List Value} {ys : List Str}, StrsAre vs ys → StrsAre (vs ++ us) (ys ++ zs)
  | _, _, .nil => h'
  | _, _, .cons y t r => .cons y t (strsAre_append h' r)
theorem add_strs {prog : Program} {w : World} {A : Around} {E : Value → Shared → Prop} {s : Shared} {h₀ : Heap} {L a b : Addr} {m : Str → Option Value} {news : List (Addr × Obj)} {vs ws : List Value} {ys zs : List Str} {Q : Value → Shared → Prop} (F : Fr h₀ L s.heap m) (N : News h₀ L s.heap news) (ha : s.heap.IsList a vs.toArray) (hb : s.heap.IsList b ws.toArray) (hi : StrsAre vs ys) (hj : StrsAre ws zs)
    (hz : vs.length + ws.length ≤ 100000)
    (h : ∀ D us h', Fr h₀ L h' m → News h₀ L h' ((D, PySem.W.listOf (List.toArray us) 0) :: news) → (∀ p ∈ news, p.1 < D) → StrsAre us (ys ++ zs) → Q (.ref D) { s with heap := h' }) : wpAny (model prog w) A (binaryOp .Add (.ref a) (.ref b)) Q E s :=
  add_lists F N ha hb (fun h' F' N' => h _ _ h' F' N' (fun p hp => Heap.lt_size (N p hp).1) (strsAre_append hj hi)) (by rw [sizeLine_eq]; omega)
theorem join_okN {xs : List Str} {n : Nat} (h : ∀ x ∈ xs, x.length ≤ n) (hn : n ≤ 1000) (hx : xs.length ≤ 100) : (xs.map (·.length)).sum + xs.length * 64 ≤ 16777216 := by
  have key : ∀ l : List Str, (∀ x ∈ l, x.length ≤ n) → (l.map (·.length)).sum ≤ l.length * n := by
    intro l
    induction l with
    | nil => intro _; exact Nat.zero_le _
    | cons x r ih =>
      intro h
      have h1 := ih fun y hy => h y (.tail _ hy)
      have h2 := h x (.head _)
      simp only [List.map_cons, List.sum_cons, List.length_cons, Nat.add_mul, Nat.one_mul]
      omega
  have h1 := key xs h
  have h2 : xs.length * n ≤ 100 * 1000 := Nat.mul_le_mul hx hn
  omega
theorem joinC_len (sep : List Nat) {n : Nat} : ∀ l : List (List Nat), (∀ x ∈ l, x.length ≤ n) → (joinC sep l).length ≤ l.length * (n + sep.length)
  | [], _ => Nat.zero_le _
  | x :: r, h => by
    have key : ∀ l : List (List Nat), (∀ x ∈ l, x.length ≤ n) → ((l.map (sep ++ ·)).flatten).length ≤ l.length * (n + sep.length) := by
      intro l
      induction l with
      | nil => intro _; exact Nat.zero_le _
      | cons x r ih =>
        intro h
        have h1 := ih fun y hy => h y (.tail _ hy)
        have h2 := h x (.head _)
        simp only [List.map_cons, List.flatten_cons, List.length_cons, List.length_append, Nat.add_mul, Nat.one_mul]
        simp only [Nat.mul_add] at h1 ⊢
        omega
    have h1 := key r fun y hy => h y (.tail _ hy)
    have h2 := h x (.head _)
    show (x ++ _).length ≤ _
    rw [List.length_append, List.length_cons, Nat.add_mul, Nat.one_mul]
    omega
theorem join_len {sep : Str} {xs : List Str} {n : Nat} (h : ∀ x ∈ xs, x.length ≤ n) : (Txt.join sep xs).length ≤ xs.length * (n + sep.length) := by
  have := joinC_len sep.cps.toList (n := n) (xs.map (·.cps.toList)) (fun x hx => by obtain ⟨y, hy, rfl⟩ := List.mem_map.mp hx; rw [Array.length_toList]; exact h y hy)
  rw [← join_codes, List.length_map, Array.length_toList, Array.length_toList] at this
  exact this
theorem esc_len (cz : List Nat) : ((cz.map escN).flatten).length ≤ 2 * cz.length := by
  induction cz with
  | nil => exact Nat.zero_le _
  | cons c r ih =>
    have : (escN c).length ≤ 2 := by unfold escN; split <;> simp
    simp only [List.map_cons, List.flatten_cons, List.length_append, List.length_cons]
    omega
theorem shown_len (cz : List Nat) : (shownC cz).length ≤ 2 * cz.length + 2 := by
  unfold shownC
  split
  · omega
  · have := esc_len cz
    simp only [List.length_cons, List.length_append, List.length_nil]
    omega
local macro_rules | `(tactic| walk_at "binaryOp Add ref ref") => `(tactic| (k_here; (with_reducible show wpAny _ _ (binaryOp _ (Value.ref _) (Value.ref _)) _ _ _); k_dflt (refine' add_strs (by k_asm) (by k_asm) (News.isList (by k_asm) (by k_mem)) (News.isList (by k_asm) (by k_mem)) ‹_› (by first | exact .nil | exact .cons _ _ .nil | assumption) (by (try simp only [List.length_cons, List.length_nil]); omega) ?_); intro D' us' h' F' N' l1 hS'; (try k_lt l1); (try k_sweep)))
section
variable {w : World} {A : Around} {h₀ : Heap} {L y dy tp np : Addr} {m : Str → Option Value} {news : List (Addr × Obj)} {s : Shared} {wd : Str} {pt : Value} {k1 k2 k3 k4 tw : Tok} {expr : Bool} {Q E : Value → Shared → Prop}
theorem sec_partial (F : Fr h₀ L s.heap m) (X₀ : (Mine.hd.heap_1 w.params).In h₀) (N : News h₀ L s.heap news) (hx : (y, instObj 197 dy) ∈ news) (hdx : (dy, secD w.params tp np wd pt k1 k2 k3 k4 tw) ∈ news) (hv : handedIn pt = true)
    (h : Q pt { s with toks := s.toks + 1 }) : wpAny (model PG w) A (getAttr (.ref y) (Str.ofString "partial") expr) Q E s := by
  refine' get_own F X₀ (InstAt.of_news N hx hdx) ?k4 ?k5 ?k6 ?k7 ?k8 hv h
  case k4 => k_is
  case k5 => k_is
  case k6 => k_is
  case k7 => k_is
  case k8 => k_get
end
local macro_rules | `(tactic| walk_at "getAttr ref") => `(tactic| (k_here; (with_reducible refine ga "partial" ?_); k_dflt (refine' sec_partial (by k_asm) (by k_asm) (by k_asm) (by k_mem) (by k_mem) ‹_› ?_; k_whole)))
/-- what a section's texts ask -/
structure SecOk (P : List Int) (wd : Str) (names : List (List Nat)) : Prop where
  few : P.length ≤ 10
  num : ∀ p ∈ P, 0 ≤ p ∧ p < 10 ^ 10
  wl : wd.length ≤ 20
  fewN : names.length ≤ 10
  nl : ∀ cz ∈ names, cz.length ≤ 100
  nc : (words2.any (· == wd)) = true → ∀ cz ∈ names, ∀ c ∈ cz, 32 ≤ c ∧ c < 127
def wordsS (P : List Int) (wd : Str) : List Str := P.map numS ++ (if wd = Str.ofString "" then [] else [wd])
def bodyC (P : List Int) (wd : Str) (names : List (List Nat)) : List Nat :=
  joinC [46] ((wordsS P wd).map (·.cps.toList)) ++ (if (words2.any (· == wd)) = true then 32 :: 40 :: (joinC [32] (names.map shownC) ++ [41]) else [])
theorem show_section_c {w : World} {dp un : Nat} {gd : Option (List Code)} {cn : Str} {cs : Scope} {a : Addr} {ccd : Value} {cl : List (Str × Addr)} {outer : List Env} {A₀ : Around} {base h₀ : Heap} {L : Addr} {m : Str → Option Value} {news : List (Addr × Obj)} {p : Program} {loose : List Str} {mean : ExcName → Option Value} {mg mb : Str → Option Value} {s : Shared} {Q E : Value → Shared → Prop} (Z : Amb w cs outer A₀ base h₀ L s.heap m news p loose mean mg mb) (hd : dp + 6 < recursionLimit) (hu : un + 400 < cLine)
    {y dy tp np : Addr} {pv nv : List Value} {P : List Int} {names : List (List Nat)} {wd : Str} {pt : Value} {k1 k2 k3 k4 tw : Tok} {pk nk : Nat} {part : Option (Int × Int)} {ans : Bool} {args : List Value} (hargs : (args = [.ref y] ∧ ans = false) ∨ (args = [.ref y, .bool true] ∧ ans = true))
    (hy : (y, instObj 197 dy) ∈ news) (hdy : (dy, secD w.params tp np wd pt k1 k2 k3 k4 tw) ∈ news) (htp : (tp, ({ cls := .type "tuple", data := .seq pv.toArray pk } : Obj)) ∈ news) (hnp : (np, ({ cls := .type "tuple", data := .seq nv.toArray nk } : Obj)) ∈ news)
    (hP : IntsAre pv P) (hN : StrsAre nv (names.map fun cz => ⟨cz.toArray⟩)) (hp : PartB news pt part) (ok : SecOk P wd names)
    (ret : ∀ z t' h' tk', Fr h₀ L h' m → News h₀ L h' news → z.cps.toList = 91 :: (bodyC P wd names ++ 93 :: partC part ans) → Q (.str z t') { s with heap := h', toks := tk' }) :
    wpAny (model PG w) (ktrTop dp un gd cn cs L a ccd cl outer) (call (.ref 294) args) Q E s := by
  obtain ⟨B, F, X, N, T, hk⟩ := Z
  have hw3 : (wd != Str.ofString "") = false ∧ wd = Str.ofString "" ∧ (words2.any (· == wd)) = false ∨ ((wd != Str.ofString "") = true ∧ ¬ wd = Str.ofString "" ∧ (words2.any (· == wd)) = false) ∨ ((wd != Str.ofString "") = true ∧ ¬ wd = Str.ofString "" ∧ (words2.any (· == wd)) = true) := by
    by_cases q : wd = Str.ofString ""
    · exact .inl ⟨by simp [q], q, by rw [q]; decide⟩
    · cases e : words2.any (· == wd)
      · exact .inr (.inl ⟨by simp [q], q, rfl⟩)
      · exact .inr (.inr ⟨by simp [q], q, rfl⟩)
  have hfew := ok.few
  have hnum : ∀ x ∈ P.map numS, x.length ≤ 20 := by
    intro x hx
    obtain ⟨n, hn, rfl⟩ := List.mem_map.mp hx
    have := KT.len_num (ok.num n hn).1 (ok.num n hn).2
    show (Str.ofString (toString n)).length ≤ 20
    omega
  have hall : ∀ x ∈ P.map numS ++ [wd], x.length ≤ 20 := by
    intro x hx
    rcases List.mem_append.mp hx with hx | hx
    · exact hnum x hx
    · rw [List.mem_singleton.mp hx]; exact ok.wl
  have hall0 : ∀ x ∈ P.map numS ++ [], x.length ≤ 20 := by rw [List.append_nil]; exact hnum
  have hok0 := join_okN hall0 (by decide) (by simp; omega)
  have hok1 := join_okN hall (by decide) (by simp; omega)
  have hjl0 : (Txt.join (Str.ofString ".") (P.map numS ++ [])).length ≤ 400 := Nat.le_trans (join_len hall0) (by
    rw [show (Str.ofString ".").length = 1 from by decide]; simp; omega)
  have hjl1 : (Txt.join (Str.ofString ".") (P.map numS ++ [wd])).length ≤ 400 := Nat.le_trans (join_len hall) (by
    rw [show (Str.ofString ".").length = 1 from by decide]; simp; omega)
  have hshl : ∀ x ∈ names.map (fun cz => (⟨(shownC cz).toArray⟩ : Str)), x.length ≤ 202 := by
    intro x hx
    obtain ⟨cz, hcz, rfl⟩ := List.mem_map.mp hx
    have h1 := shown_len cz
    have h2 := ok.nl cz hcz
    show (shownC cz).toArray.size ≤ 202
    rw [List.size_toArray]
    omega
  have hfn := ok.fewN
  have hok2 := join_okN hshl (by decide) (by simp; omega)
  have hjl2 : (Txt.join (Str.ofString " ") (names.map (fun cz => (⟨(shownC cz).toArray⟩ : Str)))).length ≤ 3000 := Nat.le_trans (join_len hshl) (by
    rw [show (Str.ofString " ").length = 1 from by decide]; simp; omega)
  have hpv : handedIn pt = true := by
    rcases hp with ⟨rfl, _⟩ | ⟨_, _, _, _, _, _, _, rfl, _⟩ <;> rfl
  rcases hargs with ⟨rfl, rfl⟩ | ⟨rfl, rfl⟩
  all_goals
    refine wpAny_call ?_
    k_dflt cell_enter
    k_steps
    unfold Halt
    k_dflt (refine ListComp_G (by k_asm) (by with_unfolding_all rfl) (by decide) (by rfl) (by decide) (by rfl) ?_)
    k_steps
    rename News _ _ _ _ => N9
    refine ⟨_, _, _, _, by k_asm, N9, htp, iter_tupleK rfl (by rw [sizeLine_eq, hP.length]; omega) N9 htp, fun g9 => ?_⟩
    refine comp_inv (fun i ys nw => nw = _ ∧ StrsAre ys ((P.map numS).take i)) ⟨rfl, .nil⟩ ?_ ?_
    · rintro i ys nw v I oI C oC D m₂ h tk E' hi ⟨rfl, hys⟩ hv hC hm F7 N7 off ne
      obtain ⟨n, u, hn, rfl⟩ := intsAre_atL hP hv
      obtain ⟨hn0, hn1⟩ := ok.num n (List.mem_of_getElem? hn)
      try k_fold
      k_steps
      refine comp_end (by k_asm) N7 (fun p hp => hp) off htp ⟨rfl, ?_⟩
      rw [List.take_add_one, show (P.map numS)[i]? = some (numS n) by simp [hn]]
      exact strsAre_snoc hys
    · rintro ys nw ⟨rfl, hys⟩
      rw [show (P.map numS).take pv.length = P.map numS from List.take_of_length_le (by rw [List.length_map, hP.length]; exact Nat.le_refl _)] at hys
      have hyl := strsAre_length hys
      rw [List.length_map] at hyl
      clear N9
      rcases hw3 with ⟨hne9, hw, hw2⟩ | ⟨hne9, hw, hw2⟩ | ⟨hne9, hw, hw2⟩
      · k_steps
        rename News h₀ L _ _ => N7
        rename Array.toList (Str.cps _) = partC _ _ => hz9
        exact ret _ _ _ _ (by k_asm) (fun p hp => N7 p (.tail _ (.tail _ (.tail _ hp)))) (by
          have hj := join_codes (Str.ofString ".") (P.map numS ++ [])
          rw [c_dot] at hj
          simp only [List.append_nil] at hj
          simp only [Str.cps_append, Array.toList_append, c_lb, c_rb, hz9, hj, bodyC, wordsS, if_pos hw, hw2, Bool.false_eq_true, if_false, List.append_assoc, List.append_nil, List.nil_append, List.cons_append])
      · k_steps
        rename News h₀ L _ _ => N7
        rename Array.toList (Str.cps _) = partC _ _ => hz9
        exact ret _ _ _ _ (by k_asm) (fun p hp => N7 p (.tail _ (.tail _ (.tail _ hp)))) (by
          have hj := join_codes (Str.ofString ".") (P.map numS ++ [wd])
          rw [c_dot] at hj
          simp only [Str.cps_append, Array.toList_append, c_lb, c_rb, hz9, hj, bodyC, wordsS, if_neg hw, hw2, Bool.false_eq_true, if_false, List.append_assoc, List.append_nil, List.nil_append, List.cons_append])
      · k_steps
        unfold Halt
        k_dflt (refine ListComp_G (by k_asm) (by with_unfolding_all rfl) (by decide) (by rfl) (by decide) (by rfl) ?_)
        k_steps
        rename News _ _ _ _ => N9
        refine ⟨_, _, _, _, by k_asm, N9, (.tail _ (.tail _ (.tail _ hnp))), iter_tupleK rfl (by rw [sizeLine_eq, strsAre_length hN, List.length_map]; omega) N9 (.tail _ (.tail _ (.tail _ hnp))), fun g9 => ?_⟩
        refine comp_inv (fun i ys nw => nw = _ ∧ StrsAre ys ((names.map (fun cz => (⟨(shownC cz).toArray⟩ : Str))).take i)) ⟨rfl, .nil⟩ ?_ ?_
        · rintro i ys nw v I oI C oC D m₂ h tk E' hi ⟨rfl, hys⟩ hv hC hm F7 N7 off ne
          obtain ⟨z, u, hz, rfl⟩ := strsAre_atL hN hv
          rw [List.getElem?_map] at hz
          obtain ⟨cz, hcz, rfl⟩ := Option.map_eq_some_iff.mp hz
          have hq1 : (⟨cz.toArray⟩ : Str).cps.toList = cz := rfl
          have hq2 := ok.nl cz (List.mem_of_getElem? hcz)
          have hq3 := ok.nc hw2 cz (List.mem_of_getElem? hcz)
          try k_fold
          k_steps
          rename News _ _ _ _ => N8
          refine comp_end (by k_asm) N8 (fun p hp => hp) off (.tail _ (.tail _ (.tail _ hnp))) ⟨rfl, ?_⟩
          rw [List.take_add_one, show (names.map (fun cz => (⟨(shownC cz).toArray⟩ : Str)))[i]? = some (⟨(shownC cz).toArray⟩ : Str) by simp [hcz]]
          exact strsAre_snoc hys
        · rintro ys2 nw ⟨rfl, hys2⟩
          rw [show (names.map (fun cz => (⟨(shownC cz).toArray⟩ : Str))).take nv.length = names.map (fun cz => (⟨(shownC cz).toArray⟩ : Str)) from List.take_of_length_le (by rw [List.length_map, strsAre_length hN, List.length_map]; exact Nat.le_refl _)] at hys2
          clear N9
          k_steps
          rename News h₀ L _ _ => N7
          rename Array.toList (Str.cps _) = partC _ _ => hz9
          exact ret _ _ _ _ (by k_asm) (fun p hp => N7 p (.tail _ (.tail _ (.tail _ (.tail _ hp))))) (by
            have hj := join_codes (Str.ofString ".") (P.map numS ++ [wd])
            have hj2 := join_codes (Str.ofString " ") (names.map (fun cz => (⟨(shownC cz).toArray⟩ : Str)))
            rw [c_dot] at hj
            rw [c_sp, List.map_map] at hj2
            have e2 : (names.map ((fun x : Str => x.cps.toList) ∘ fun cz => (⟨(shownC cz).toArray⟩ : Str))) = names.map shownC := rfl
            rw [e2] at hj2
            simp only [Str.cps_append, Array.toList_append, c_lb, c_rb, c_op, c_cl, hz9, hj, hj2, bodyC, wordsS, if_neg hw, hw2, if_true, List.append_assoc, List.append_nil, List.nil_append, List.cons_append])

theorem calm_Rb : True := by w_top off; trivial
theorem good_no {cz : List Nat} (h : ¬ ∀ c ∈ cz, 32 ≤ c ∧ c < 127) : ¬ (cz.map Int.ofNat).filter (fun c => !(decide (32 ≤ c) && decide (c < 127))) = [] := by
  intro e
  refine h fun c hc => ?_
  have := List.filter_eq_nil_iff.mp e (Int.ofNat c) (List.mem_map_of_mem hc)
  simp at this
  omega
local macro_rules | `(tactic| walk_at "call ref") => `(tactic| (k_here; (with_reducible refine cr1 281 ?_); k_dflt (refine' show_name_bad (by walk_at "amb") (by ktr_room) (by ktr_units) ‹_› ‹_› ‹_› ?b4; k_whole; (intro e' h' tk' fl' nL' up' nn'; refine Halt.go ?_))))
local macro_rules | `(tactic| walk_at "TurnEnd") => `(tactic| (refine Halt.go ?_))
theorem show_section_bad {w : World} {dp un : Nat} {gd : Option (List Code)} {cn : Str} {cs : Scope} {a : Addr} {ccd : Value} {cl : List (Str × Addr)} {outer : List Env} {A₀ : Around} {base h₀ : Heap} {L : Addr} {m : Str → Option Value} {news : List (Addr × Obj)} {p : Program} {loose : List Str} {mean : ExcName → Option Value} {mg mb : Str → Option Value} {s : Shared} {Q E : Value → Shared → Prop} (Z : Amb w cs outer A₀ base h₀ L s.heap m news p loose mean mg mb) (hd : dp + 8 < recursionLimit) (hu : un + 420 < cLine)
    {y dy tp np : Addr} {pv nv : List Value} {P : List Int} {names : List (List Nat)} {wd : Str} {pt : Value} {k1 k2 k3 k4 tw : Tok} {pk nk : Nat}
    (hy : (y, instObj 197 dy) ∈ news) (hdy : (dy, secD w.params tp np wd pt k1 k2 k3 k4 tw) ∈ news) (htp : (tp, ({ cls := .type "tuple", data := .seq pv.toArray pk } : Obj)) ∈ news) (hnp : (np, ({ cls := .type "tuple", data := .seq nv.toArray nk } : Obj)) ∈ news)
    (hP : IntsAre pv P) (hN : StrsAre nv (names.map fun cz => ⟨cz.toArray⟩)) (hpv : handedIn pt = true) (hfew : P.length ≤ 10) (hnums : ∀ p ∈ P, 0 ≤ p ∧ p < 10 ^ 10) (hwl : wd.length ≤ 20) (hfn : names.length ≤ 10) (hnl : ∀ cz ∈ names, cz.length ≤ 100) (hw2 : (words2.any (· == wd)) = true) (hbad : ∃ cz ∈ names, ¬ ∀ c ∈ cz, 32 ≤ c ∧ c < 127)
    (exc : ∀ e h' tk', Flown base (envX cn cs L a ccd cl :: outer) e h' → h'.Ns L m → h₀.UpToSlots h' → SlotNews news h' → E (.ref e) { s with heap := h', toks := tk' }) :
    wpAny (model PG w) (ktrTop dp un gd cn cs L a ccd cl outer) (call (.ref 294) [.ref y]) Q E s := by
  obtain ⟨B, F, X, N, T, hk⟩ := Z
  have hw0 : ¬ wd = Str.ofString "" := by intro q; rw [q] at hw2; exact absurd hw2 (by decide)
  have hne9 : (wd != Str.ofString "") = true := by simp [hw0]
  have hnum : ∀ x ∈ P.map numS, x.length ≤ 20 := by
    intro x hx
    obtain ⟨n, hn, rfl⟩ := List.mem_map.mp hx
    have := KT.len_num (hnums n hn).1 (hnums n hn).2
    show (Str.ofString (toString n)).length ≤ 20
    omega
  have hall : ∀ x ∈ P.map numS ++ [wd], x.length ≤ 20 := by
    intro x hx
    rcases List.mem_append.mp hx with hx | hx
    · exact hnum x hx
    · rw [List.mem_singleton.mp hx]; exact hwl
  have hok1 := join_okN hall (by decide) (by simp; omega)
  have hjl1 : (Txt.join (Str.ofString ".") (P.map numS ++ [wd])).length ≤ 400 := Nat.le_trans (join_len hall) (by
    rw [show (Str.ofString ".").length = 1 from by decide]; simp; omega)
  refine wpAny_call ?_
  k_dflt cell_enter
  k_steps
  unfold Halt
  k_dflt (refine ListComp_G (by k_asm) (by with_unfolding_all rfl) (by decide) (by rfl) (by decide) (by rfl) ?_)
  k_steps
  rename News _ _ _ _ => N9
  refine ⟨_, _, _, _, by k_asm, N9, htp, iter_tupleK rfl (by rw [sizeLine_eq, hP.length]; omega) N9 htp, fun g9 => ?_⟩
  refine comp_inv (fun i ys nw => nw = _ ∧ StrsAre ys ((P.map numS).take i)) ⟨rfl, .nil⟩ ?_ ?_
  · rintro i ys nw v I oI C oC D m₂ h tk E' hi ⟨rfl, hys⟩ hv hC hm F7 N7 off ne
    obtain ⟨n, u, hn, rfl⟩ := intsAre_atL hP hv
    obtain ⟨hn0, hn1⟩ := hnums n (List.mem_of_getElem? hn)
    try k_fold
    k_steps
    refine comp_end (by k_asm) N7 (fun p hp => hp) off htp ⟨rfl, ?_⟩
    rw [List.take_add_one, show (P.map numS)[i]? = some (numS n) by simp [hn]]
    exact strsAre_snoc hys
  · rintro ys nw ⟨rfl, hys⟩
    rw [show (P.map numS).take pv.length = P.map numS from List.take_of_length_le (by rw [List.length_map, hP.length]; exact Nat.le_refl _)] at hys
    have hyl := strsAre_length hys
    rw [List.length_map] at hyl
    clear N9
    k_steps
    unfold Halt
    rename Below _ _ _ _ => B9
    rename Fr h₀ L _ m => FG9
    k_dflt (refine comp_bad (by k_asm) (by rfl) (by rfl) B9.stays (fun a ha => (B9.frames.mem ha).2.imp fun o ho => ho.1) (by with_unfolding_all rfl) (by decide) (by rfl) (by decide) (by rfl) ?_)
    k_steps
    rename News _ _ _ _ => N9
    refine ⟨nv.length, _, _, fun i => ∀ cz, names[i]? = some cz → ∀ c ∈ cz, 32 ≤ c ∧ c < 127, _, by k_asm, N9, .tail _ (.tail _ (.tail _ hnp)), iter_tupleK rfl (by rw [sizeLine_eq, strsAre_length hN, List.length_map]; omega) N9 (.tail _ (.tail _ (.tail _ hnp))), fun g9 => ?_, fun hgo => ?_, ?_⟩
    · intro i v I oI C oC D ys m₂ h tk E' hi hv hC hm F7 N7 off ne hE'
      obtain ⟨z, u, hz, rfl⟩ := strsAre_atL hN hv
      rw [List.getElem?_map] at hz
      obtain ⟨cz, hcz, rfl⟩ := Option.map_eq_some_iff.mp hz
      have hq1 : (⟨cz.toArray⟩ : Str).cps.toList = cz := rfl
      have hq2 := hnl cz (List.mem_of_getElem? hcz)
      clear N9
      by_cases hg : ∀ c ∈ cz, 32 ≤ c ∧ c < 127
      · try k_fold
        k_steps
        unfold Halt
        rename News _ _ _ _ => N8
        exact ⟨fun cz' e => by rw [hcz] at e; cases e; exact hg, _, _, rfl, by k_asm, N8⟩
      · have hb9 := good_no hg
        try k_fold
        k_steps
        unfold Halt
        rename SlotNews _ _ => nn9
        rename Heap.UpToSlots _ _ => up9
        rename Heap.Ns _ _ _ => ns9
        rename Flown _ _ _ _ => fl9
        exact hE' _ _ _ fl9 ns9 up9 nn9
    · obtain ⟨cz, hc, hn⟩ := hbad
      obtain ⟨i, hi, e⟩ := List.getElem_of_mem hc
      exact hn (hgo i (by rw [strsAre_length hN, List.length_map]; exact hi) cz (by rw [List.getElem?_eq_getElem hi, e]))
    · intro e h' tk' mk nL up₀ nn
      show wpAny _ _ (leaving _ _) _ _ _
      refine leave_any rfl rfl mk fun h9 fl up => ?_
      exact exc _ _ _ fl (up.ns (up₀.ns FG9.ns)) ((Heap.UpToSlots.of_keeps FG9.keep).trans (up₀.trans up)) fun p hp hnf => by
        obtain ⟨z, hz⟩ := nn p (.tail _ (.tail _ (.tail _ hp))) hnf
        obtain ⟨z₂, hz₂⟩ := up p.1 _ hz hnf
        exact ⟨z₂, hz₂⟩

theorem calm_Ct : True := by w_top off; trivial
theorem kts71 (P : Params) : ktsIn (Mine.hd.heap_1 P) 71 "Exception" = true := by rfl
theorem caught71 {w : World} {A : Around} {E : Value → Shared → Prop} {s' : Shared} {base : Heap} {env : Env} {outer : List Env} {L e : Addr} {x : Str} {np pos : Pos} {b₀ : Stmt} {suite : List Stmt} {rest : List ExceptHandler} {Q : Flow → Shared → Prop}
    (hfr : A.frames = some (env :: outer)) (hf : env.frame = some L) (fl : Flown base (env :: outer) e s'.heap) (X : (Mine.hd.heap_1 w.params).In base)
    (hname : ∀ h' (Q : Value → Shared → Prop) (E : Value → Shared → Prop), base.StaysIn h' → s'.heap.UpToSlots h' → Q (.ref 71) { s' with heap := h' } → wpAny (model PG w) (A.mark (some (.ref e))) (eval (.Name x np) env) Q E { s' with heap := h' })
    (k : ∀ h', base.StaysIn h' → s'.heap.UpToSlots h' → wpAny (model PG w) (A.mark (some (.ref e))) (execs (b₀ :: suite) env) Q (fun _ _ => False) { s' with heap := h' }) :
    wpAny (model PG w) A (noteFrame (.ref e) env) (fun _ s₂ => wpAny (model PG w) A (setFlight (.ref e) none) (fun _ s₃ =>
      wpAny (model PG w) A (handleBy (.ref e) env (.ExceptHandler (some (.Name x np)) none (b₀ :: suite) pos :: rest)) Q E s₃) E s₂) E s' := by
  obtain ⟨a0, fl⟩ := fl
  refine wpAny_looks_onW hfr hf fl fun h₄ held₄ u₄ => ?_
  refine wpAny_landsW held₄ fun h₅ fl₅ u₅ => ?_
  have u := u₄.trans u₅
  obtain ⟨ob, hob, hobc⟩ := fl₅.there
  obtain ⟨nm, q', N, bs, bm, hdct, sn, sub, ab, col, dd, k0, k1, k2, k3, k5, newId, hC, hbase, hbT⟩ := kts_cls (X.keeps fl₅.1) (kts71 w.params)
  refine wpAny_handleBy_cons (codeAny_handlers_test (hname h₅ _ _ fl₅.1 u ?_)) (by intro q; cases q)
  refine wpAny_excMatches_sub_self hC hob hobc hbase (codeAny_handlers_suite ?_)
  refine lands_againW fl₅ fun h₆ fl₆ u₆ => ?_
  exact wpAny_mono (k h₆ fl₆.1 (u.trans u₆)) (fun _ _ z => z) fun _ _ z => z.elim

theorem calm_La : True := by w_top off; trivial
/-- the tape: its cells' list and the place -/
abbrev tapeO (ce : Addr) (at_ : Int) (ti : Tok) (k : Nat) : Obj := PySem.W.listOf #[.ref ce, .int at_ ti] k
theorem upd_open {h₀ h : Heap} {L dx : Addr} {news : List (Addr × Obj)} {g : Obj → List (Addr × Obj)} {o : Obj} (N : News h₀ L h news) (U : UpdF dx o news g) :
    ∃ R, (∀ p ∈ R, p.1 ≠ dx) ∧ News h₀ L h ((dx, o) :: R) ∧ (∀ h' o', News h₀ L h' ((dx, o') :: R) → News h₀ L h' (g o')) ∧ ∀ p ∈ news, p ≠ (dx, o) → p ∈ R := by
  obtain ⟨pre, post, rfl, hg, h1, h2⟩ := U.split
  refine ⟨pre ++ post, fun p hp => (List.mem_append.mp hp).elim (h1 p) (h2 p), fun p hp => ?_, fun h' o' N' p hp => ?_, fun p hp hne => ?_⟩
  · rcases List.mem_cons.mp hp with rfl | hp
    · exact N _ (by simp)
    · refine N _ ?_
      rcases List.mem_append.mp hp with q | q <;> simp [q]
  · rw [hg] at hp
    refine N' p ?_
    rcases List.mem_append.mp hp with q | q
    · simp [q]
    · rcases List.mem_cons.mp q with rfl | q
      · simp
      · simp [q]
  · rcases List.mem_append.mp hp with q | q
    · simp [q]
    · rcases List.mem_cons.mp q with q | q
      · exact absurd q hne
      · simp [q]
theorem len_cells {prog : Program} {w : World} {A : Around} {E : Value → Shared → Prop} {s : Shared} {h₀ : Heap} {L l : Addr} {news : List (Addr × Obj)} {vs : List Value} {ns : List Int} {k : Nat} {Q : Value → Shared → Prop} (N : News h₀ L s.heap news) (hm : (l, PySem.W.listOf vs.toArray k) ∈ news) (hi : IntsAre vs ns) (hz : ns.length ≤ 100000)
    (h : Q (.int (ns.length : Nat) (s.toks + 1)) { s with toks := s.toks + 1 + 1 }) : wpAny (model prog w) A (call (.builtin "len") [.ref l]) Q E s :=
  len_list (News.isList N hm) (by rw [List.size_toArray, hi.length]; omega) (by rw [List.size_toArray, hi.length]; exact h)
local macro_rules | `(tactic| walk_at "call builtin:len") => `(tactic| (k_here; (with_reducible refine c1r ?_); k_dflt (refine' len_cells (by k_asm) (by k_mem) ‹_› (by omega) ?_; k_whole)))
local macro_rules | `(tactic| walk_at "subscriptTail Name BinOp ref int") => `(tactic| (k_here; (with_reducible show wpAny _ _ (subscriptTail _ _ (Value.ref _) (Value.int _ _)) _ _ _); k_dflt (refine' item_list_ints (News.isList (by k_asm) (by k_mem)) ‹_› (Int.fmod_nonneg_of_pos _ (by omega)) (Int.fmod_lt_of_pos _ (by omega)) (Int.lt_of_lt_of_le (Int.fmod_lt_of_pos _ (by omega)) (by omega)) ?_; k_whole); intro _))
theorem draw_end {Q : Value → Shared → Prop} {X n : Int} {t : Tok} {s : Shared} (hn : 0 < n) (h : ∀ v : Nat, (v : Int) < n → Q (.int (v : Nat) t) s) : Q (.int (X.fmod n) t) s := by
  have h0 := Int.fmod_nonneg_of_pos X (b := n) (by omega)
  have h1 := Int.fmod_lt_of_pos X (b := n) (by omega)
  have := h (X.fmod n).toNat (by omega)
  rwa [Int.toNat_of_nonneg h0] at this
theorem law_draw_c {w : World} {dp un : Nat} {gd : Option (List Code)} {cn : Str} {cs : Scope} {a : Addr} {ccd : Value} {cl : List (Str × Addr)} {outer : List Env} {A₀ : Around} {base h₀ : Heap} {L : Addr} {m : Str → Option Value} {news : List (Addr × Obj)} {p : Program} {loose : List Str} {mean : ExcName → Option Value} {mg mb : Str → Option Value} {s : Shared} {Q E : Value → Shared → Prop} (Z : Amb w cs outer A₀ base h₀ L s.heap m news p loose mean mg mb) (hd : dp + 1 < recursionLimit) (hu : un + 300 < cLine)
    {ta ce : Addr} {cv : List Value} {cns : List Int} {i : Nat} {n : Int} {ti tn : Tok} {k kc : Nat} {g : Obj → List (Addr × Obj)} (hce : (ce, PySem.W.listOf cv.toArray kc) ∈ news) (hU : UpdF ta (tapeO ce i ti k) news g) (hcx : (ce, PySem.W.listOf cv.toArray kc) ≠ (ta, tapeO ce i ti k)) (hcv : IntsAre cv cns) (hl : 0 < cns.length) (hl2 : cns.length ≤ 100) (hi : i ≤ 1000) (hn : 0 < n) (hn2 : n ≤ 1000)
    (ret : ∀ (v : Nat) t' ti' h' tk', (v : Int) < n → Fr h₀ L h' m → News h₀ L h' (g (tapeO ce (i + 1 : Nat) ti' k)) → Q (.int v t') { s with heap := h', toks := tk' }) :
    wpAny (model PG w) (ktrTop dp un gd cn cs L a ccd cl outer) (call (.ref 302) [.ref ta, .int n tn]) Q E s := by
  obtain ⟨B, F, X, N, T, hk⟩ := Z
  obtain ⟨R, hR, N, back, inR⟩ := upd_open N hU
  have hcR := inR _ hce hcx
  clear inR hce hcx
  refine wpAny_call ?_
  k_dflt cell_enter
  k_steps
  rename News h₀ L _ _ => N7
  exact draw_end hn fun v hv => ret v _ _ _ _ hv (by k_asm) (back _ _ (by exact N7))
local macro_rules | `(tactic| walk_at "call ref") => `(tactic| (k_here; (with_reducible refine cr2 302 ?_); k_dflt (refine' law_draw_c (by walk_at "amb") (by ktr_room) (by ktr_units) ?b1 ?b2 ?b3 ?b4 ?b5 ?b6 ?b7 ?b8 ?b9 ?_; (case b2 => k_updF); (case b1 => k_mem); (case b4 => assumption); (case b3 => first | assumption | exact hcx0 _ _ | (intro q9; exact absurd (congrArg Prod.fst q9) (by assumption))); (case b5 => assumption); (case b6 => assumption); (case b7 => first | assumption | omega); (case b8 => first | decide | assumption | omega); (case b9 => first | decide | assumption | omega); walk_at "fin8")))
theorem allLt_mono {d e : Addr} {l : List (Addr × Obj)} (h : AllLt d l) (hde : @LE.le Nat _ d e) : AllLt e l := allLt_mem fun p hp => Nat.lt_of_lt_of_le (mem_allLt h p hp) hde
local macro_rules | `(tactic| k_all) => `(tactic| (refine ne_of_allLt ?_; (repeat' (first | exact True.intro | exact allLt_mono (by assumption) (by omega) | (refine And.intro (by (try dsimp only); omega) ?_))); done))
/-- what a comprehension runs over: a range -/
theorem iter_range {w : World} {A : Around} {s₁ : Shared} {h₀ : Heap} {L : Addr} {r : Addr} {n : Nat} {t u v : Tok} (hh : A.handled = none) (hr : IsRange s₁.heap r 0 ((n : Nat) : Int) 1 t u v) (hn : n ≤ 100000) :
    Iter w A h₀ L (.ref r) s₁ n (fun i v => ∃ t, v = .int (i : Nat) t) (fun _ => True) where
  size := by rw [sizeLine_eq]; omega
  go := fun Q E q => by
    have hsz : Builtin.Range.rangeSize 0 ((n : Nat) : Int) 1 = ((n : Nat) : Int) := by rw [rangeSize_nat]; omega
    have W := LCg.range_walks (prog := PG) (w := w) (A := A) (I := s₁.heap.objs.size) hh 0 n
    refine wpAny_pyIter_range hr (small_one (by decide) (by decide) (by omega) (by omega)) ?_
    refine q _ _ _ ⟨W.sub, W.frame, fun i s Q E hi st hQ => W.item i s Q E hi st fun v h' tk hP => hQ v h' tk (by simpa using hP), W.done, W.self⟩ (fun i h z => ⟨_, z⟩) LCg.range_st ?_ ?_
    · show IsRangeIter _ _ _ _ _
      rw [hsz]
      simpa using Heap.get?_push_size _ rfl
    · intro b hb
      rw [List.mem_singleton.mp hb, Heap.size_push]
      exact Nat.lt_succ_self _
/-- the signs of which the law makes names -/
def signsL : List Nat := [97, 90, 57, 45, 46, 126, 92, 34, 32, 93, 40, 41, 123, 37, 42, 58, 59, 31, 127, 233]
theorem signs_eq : (Str.ofString "aZ9-.~\\\" ](){%*:;\x1f\x7fé").cps = signsL.toArray := by decide +kernel
theorem item_signs {prog : Program} {w : World} {A : Around} {E : Value → Shared → Prop} {s : Shared} {t u : Tok} {v : Nat} {value slice : Expr} {Q : Value → Shared → Prop} (hv : (v : Int) < 20) (h : ∀ c, c ∈ signsL → Q (.str ⟨#[c]⟩ s.toks) { s with toks := s.toks + 1 })
    (hs : subscripted slice false (.str (Str.ofString "aZ9-.~\\\" ](){%*:;\x1f\x7fé") t) (.int v u) = operate [.str (Str.ofString "aZ9-.~\\\" ](){%*:;\x1f\x7fé") t, .int v u] (getItem (.str (Str.ofString "aZ9-.~\\\" ](){%*:;\x1f\x7fé") t) (.int v u)) := by with_unfolding_all rfl)
    (ht : ∀ r, letTemporaryGo value (.str (Str.ofString "aZ9-.~\\\" ](){%*:;\x1f\x7fé") t) r = pure () := by intro _; with_unfolding_all rfl) : wpAny (model prog w) A (subscriptTail value slice (.str (Str.ofString "aZ9-.~\\\" ](){%*:;\x1f\x7fé") t) (.int v u)) Q E s := by
  have hl : v < signsL.length := by have : signsL.length = 20 := rfl; omega
  refine item_str_own (c := signsL[v]) (by rw [signs_eq, List.getElem?_toArray, List.getElem?_eq_getElem hl]) (by omega) (h _ (List.getElem_mem hl)) hs ht
local macro_rules | `(tactic| walk_at "subscriptTail Name Call str int") => `(tactic| (k_here; (with_reducible show wpAny _ _ (subscriptTail _ _ (Value.str _ _) (Value.int _ _)) _ _ _); k_dflt (refine item_signs (by omega) ?_); intro _ _))
theorem law_name_c {w : World} {dp un : Nat} {gd : Option (List Code)} {cn : Str} {cs : Scope} {a : Addr} {ccd : Value} {cl : List (Str × Addr)} {outer : List Env} {A₀ : Around} {base h₀ : Heap} {L : Addr} {m : Str → Option Value} {news : List (Addr × Obj)} {p : Program} {loose : List Str} {mean : ExcName → Option Value} {mg mb : Str → Option Value} {s : Shared} {Q E : Value → Shared → Prop} (Z : Amb w cs outer A₀ base h₀ L s.heap m news p loose mean mg mb) (hd : dp + 2 < recursionLimit) (hu : un + 400 < cLine)
    {ta ce : Addr} {cv : List Value} {cns : List Int} {i : Nat} {ti : Tok} {k kc : Nat} {g : Obj → List (Addr × Obj)} (hce : (ce, PySem.W.listOf cv.toArray kc) ∈ news) (hU : UpdF ta (tapeO ce i ti k) news g) (hcx : (ce, PySem.W.listOf cv.toArray kc) ≠ (ta, tapeO ce i ti k)) (hcv : IntsAre cv cns) (hl : 0 < cns.length) (hl2 : cns.length ≤ 100) (hi : i ≤ 900)
    (ret : ∀ (cz : List Nat) t' ti' h' tk' j, (∀ c ∈ cz, c ∈ signsL) → cz.length ≤ 4 → j ≤ i + 6 → Fr h₀ L h' m → News h₀ L h' (g (tapeO ce (j : Nat) ti' k)) → Q (.str ⟨cz.toArray⟩ t') { s with heap := h', toks := tk' }) :
    wpAny (model PG w) (ktrTop dp un gd cn cs L a ccd cl outer) (call (.ref 307) [.ref ta]) Q E s := by
  obtain ⟨B, F, X, N, T, hk⟩ := Z
  obtain ⟨R, hR, N, back, inR⟩ := upd_open N hU
  have hcR := inR _ hce hcx
  have hcR0 := hR _ hcR
  have hcx0 : ∀ j tj, (ce, PySem.W.listOf cv.toArray kc) ≠ (ta, tapeO ce j tj k) := fun j tj e => hcR0 (congrArg Prod.fst e)
  clear inR hce hcx
  refine wpAny_call ?_
  k_dflt (refine' code_defC ?k1 ?k2 ?k3 ?k4 ?k5 ?kA ?kF ?kK ?k6 ?k7 ?k8 ?k9 ?kB ?kD ?_ ?c2 ?c3 ?c4; (case kA => exact rfl); (case kF => exact rfl); (case kK => assumption); (case k1 => k_asm); (case k2 => k_asm); (case k3 => k_asm); (case k4 => k_asm); (case k5 => k_asm); (case k6 => k_is); (case k7 => k_is); (case k8 => ktr_room); (case k9 => first | exact BindsTo.of_eq rfl | exact binds_K (by k_in) rfl (by k_is) rfl rfl rfl | fail "k_enter: no rule for these arguments"); (case kB => exact rfl); (case kD => decide +kernel); (case c2 => exact rfl); (case c3 => exact rfl); (case c4 => exact rfl); k_whole; intro g' L' h' tk' cells' FG' F' N' Y' B' X' T' l1; (try k_lt l1); have l1a := l1.1; have l1b := l1.2; k_cells Y'; (try simp only [List.cons_append, List.nil_append] at N'); (try dsimp only); (try k_lift B'); (try k_fold))
  k_steps
  all_goals
    unfold Halt
    k_dflt (refine ListComp_G (by k_asm) (by with_unfolding_all rfl) (by decide) (by rfl) (by decide) (by rfl) ?_)
    k_steps
    rename News _ _ _ _ => N9
    rename IsRange _ _ _ _ _ _ _ _ => R9
    refine ⟨_, _, _, _, by k_asm, N9, trivial, iter_range rfl R9 (by omega), fun g9 => ?_⟩
    refine comp_inv (fun i' ys nw => ∃ (j : Nat) (tj : Tok) (cz : List Nat), nw = _ :: _ :: (ta, tapeO ce j tj k) :: R ∧ StrsAre ys (cz.map fun c => ⟨#[c]⟩) ∧ cz.length = i' ∧ (∀ c ∈ cz, c ∈ signsL) ∧ j = i + 1 + 1 + i') ⟨i + 1 + 1, _, [], rfl, .nil, rfl, (fun c hc => by cases hc), rfl⟩ ?_ ?_
    · rintro i' ys nw v I oI C oC D m₂ h tk E' hi' ⟨j, tj, cz, rfl, hys, hczl, hcz, hj⟩ ⟨u, rfl⟩ hC hm F7 N7 off ne
      have hj9 : j ≤ 1000 := by omega
      have offs := off
      simp only [LCg.Off3] at offs
      obtain ⟨⟨o1, o2, o3⟩, ⟨o4, o5, o6⟩, ⟨o7, o8, o9⟩, offR⟩ := offs
      clear N9 R9
      try k_fold
      k_steps
      rename News _ _ _ _ => N8
      rename _ ∈ signsL => hc9
      refine comp_end (by k_asm) N8 (fun p hp => hp) off trivial ⟨j + 1, _, cz ++ [_], rfl, by rw [List.map_append]; exact strsAre_snoc hys, by rw [List.length_append, hczl]; rfl, fun c' hc' => ?_, by omega⟩
      rcases List.mem_append.mp hc' with q | q
      · exact hcz _ q
      · rw [List.mem_singleton.mp q]; exact hc9
    · rintro ys nw ⟨j, tj, cz, rfl, hys, hczl, hcz, hj⟩
      clear N9 R9
      have hok := join_ok1 (xs := cz.map fun c => ⟨#[c]⟩) (fun y hy => by obtain ⟨c, _, rfl⟩ := List.mem_map.mp hy; rfl) (by rw [List.length_map]; omega)
      have ej : Txt.join (Str.ofString "") (cz.map fun c => ⟨#[c]⟩) = ⟨cz.toArray⟩ := str_of_codes (join_nil_codes cz)
      k_steps
      rw [ej]
      rename News h₀ L _ _ => N7
      exact ret cz _ _ _ _ j hcz (by omega) (by omega) (by k_asm) (back _ _ (fun p hp => N7 p (.tail _ (.tail _ (.tail _ hp)))))

theorem calm_Lw : True := by w_top off; trivial
section
variable {prog : Program} {w : World} {A : Around} {E : Value → Shared → Prop} {s : Shared} {a b : Addr} {vs : List Value} {ys : List Str} {Q : Value → Shared → Prop}
theorem eqv_strs_nil (ys : List Str) : PyData.eqv (.list (ys.map PyData.str)) (.list []) = decide (ys = []) := by
  cases ys with
  | nil => rfl
  | cons n ns => simp [PyData.eqv, PyData.eqvAll]
theorem eq_strsN (hl : s.heap.IsList a vs.toArray) (hi : StrsAre vs ys) (hl' : s.heap.IsList b #[]) (hc : ∀ y ∈ ys, PyData.canLay0 (.str y) = true) (hu : A.units + 64 < cLine) (h : Q (.bool (decide (ys = []))) s) : wpAny (model prog w) A (compareOp .Eq (.ref a) (.ref b)) Q E s :=
  eq_dataH (reads_newData hl hi.carried) (reads_newData (ys := []) hl' .nil) (shaped_strs hc) rfl hu (by rw [eqv_strs_nil]; exact h)
theorem ne_strsN (hl : s.heap.IsList a vs.toArray) (hi : StrsAre vs ys) (hl' : s.heap.IsList b #[]) (hc : ∀ y ∈ ys, PyData.canLay0 (.str y) = true) (hu : A.units + 64 < cLine) (h : Q (.bool (!decide (ys = []))) s) : wpAny (model prog w) A (compareOp .NotEq (.ref a) (.ref b)) Q E s :=
  ne_dataH (reads_newData hl hi.carried) (reads_newData (ys := []) hl' .nil) (shaped_strs hc) rfl hu (by rw [eqv_strs_nil]; exact h)
end
local macro_rules | `(tactic| walk_at "compareOp Eq ref ref") => `(tactic| (k_here; k_dflt (refine' eq_strsN (News.isList (by k_asm) (by k_mem)) ‹_› (News.isList (by k_asm) (by k_mem)) ‹_› (by ktr_units) ?_; k_whole)))
local macro_rules | `(tactic| walk_at "compareOp NotEq ref ref") => `(tactic| (k_here; k_dflt (refine' ne_strsN (News.isList (by k_asm) (by k_mem)) ‹_› (News.isList (by k_asm) (by k_mem)) ‹_› (by ktr_units) ?_; k_whole)))
theorem filter_snocN {p : Nat → Bool} {l : List Nat} {i : Nat} {c : Nat} (h : l[i]? = some c) : (l.take (i + 1)).filter p = (l.take i).filter p ++ (if p c = true then [c] else []) := by
  rw [List.take_add_one, h, List.filter_append]
  cases q : p c <;> simp [q]
/-- a sign of one code -/
abbrev sgn (c : Nat) : Str := ⟨#[c]⟩
def goodN (c : Nat) : Bool := decide (32 ≤ c) && decide (c < 127)
def barN (c : Nat) : Bool := decide (c ∈ [92, 34, 32, 93, 40, 41, 123, 37, 42])
def quoN (c : Nat) : Bool := decide (c ∈ [92, 34])
theorem occ_bar : ∀ c ∈ signsL, (!(Builtin.Str.occurrences (Str.ofString "\\\" ](){%*") (sgn c) 0 (Str.ofString "\\\" ](){%*").length 1).isEmpty) = barN c := by decide +kernel
theorem occ_quo : ∀ c ∈ signsL, (!(Builtin.Str.occurrences (Str.ofString "\\\"") (sgn c) 0 (Str.ofString "\\\"").length 1).isEmpty) = quoN c := by decide +kernel
theorem can_sgn : ∀ c ∈ signsL, PyData.canLay0 (.str (sgn c)) = true := by decide +kernel
theorem lt_sp {c : Nat} (h : c < 32) : (sgn c).cps.toList < (Str.ofString " ").cps.toList := by show [c] < [32]; exact List.Lex.rel h
theorem nlt_sp {c : Nat} (h : 32 ≤ c) : ¬ (sgn c).cps.toList < (Str.ofString " ").cps.toList := by
  show ¬ [c] < [32]
  intro q
  cases q with
  | rel q => omega
  | cons q => cases q
theorem lt_ti {c : Nat} (h : 126 < c) : (Str.ofString "~").cps.toList < (sgn c).cps.toList := by show [126] < [c]; exact List.Lex.rel h
theorem nlt_ti {c : Nat} (h : c < 127) : ¬ (Str.ofString "~").cps.toList < (sgn c).cps.toList := by
  show ¬ [126] < [c]
  intro q
  cases q with
  | rel q => omega
  | cons q => cases q
theorem atom_bar : ∀ c ∈ signsL, goodN c = true → atomB (c : Int) = !barN c := by decide +kernel
theorem all_good {cz : List Nat} (hg : (cz.filter (fun c => !goodN c)).map sgn = []) : ∀ c ∈ cz, goodN c = true := by
  intro c hc
  have := List.filter_eq_nil_iff.mp (List.map_eq_nil_iff.mp hg) c hc
  simpa using this
theorem shown_atomN {cz : List Nat} (hs : ∀ c ∈ cz, c ∈ signsL) (hg : (cz.filter (fun c => !goodN c)).map sgn = []) (h0 : ¬ cz = []) (hb : (cz.filter barN).map sgn = []) : shownC cz = cz := by
  unfold shownC
  refine if_pos ⟨h0, fun c hc => ?_⟩
  have := List.filter_eq_nil_iff.mp (List.map_eq_nil_iff.mp hb) c hc
  rw [atom_bar c (hs c hc) (all_good hg c hc)]
  simpa using this
theorem shown_quotedN {cz : List Nat} (hs : ∀ c ∈ cz, c ∈ signsL) (hg : (cz.filter (fun c => !goodN c)).map sgn = []) (h : cz = [] ∨ ¬ (cz.filter barN).map sgn = []) : shownC cz = 34 :: ((cz.map escN).flatten ++ [34]) := by
  unfold shownC
  refine if_neg fun q => ?_
  rcases h with h | h
  · exact q.1 h
  · refine h (List.map_eq_nil_iff.mpr (List.filter_eq_nil_iff.mpr fun c hc => ?_))
    have := q.2 c hc
    rw [atom_bar c (hs c hc) (all_good hg c hc)] at this
    simpa using this
theorem esc_quo {c : Nat} (h : quoN c = true) : (⟨(escN c).toArray⟩ : Str) = Str.ofString "\\" ++ sgn c := by
  have q : c = 34 ∨ c = 92 := by simpa [quoN, or_comm] using h
  rw [show escN c = [92, c] from if_pos q]
  exact str_of_codes (by simp only [Str.cps_append, Array.toList_append]; rfl)
theorem esc_plain {c : Nat} (h : quoN c = false) : (⟨(escN c).toArray⟩ : Str) = sgn c := by
  have q : ¬ (c = 34 ∨ c = 92) := by
    intro z
    rw [show quoN c = true by simpa [quoN, or_comm] using z] at h
    cases h
  rw [show escN c = [c] from if_neg q]
theorem join_esc (cz : List Nat) : (Txt.join (Str.ofString "") (cz.map fun c => (⟨(escN c).toArray⟩ : Str))).cps.toList = (cz.map escN).flatten := by
  rw [join_codes, c_none, joinC_nil, List.map_map]
  rfl
theorem quoted_join {cz : List Nat} : (Str.ofString "\"" ++ Txt.join (Str.ofString "") (cz.map fun c => (⟨(escN c).toArray⟩ : Str)) ++ Str.ofString "\"") = ⟨(34 :: ((cz.map escN).flatten ++ [34])).toArray⟩ := by
  refine str_of_codes ?_
  simp only [Str.cps_append, Array.toList_append, join_esc]
  show [34] ++ _ ++ [34] = _
  simp
theorem law_shown_c {w : World} {dp un : Nat} {gd : Option (List Code)} {cn : Str} {cs : Scope} {a : Addr} {ccd : Value} {cl : List (Str × Addr)} {outer : List Env} {A₀ : Around} {base h₀ : Heap} {L : Addr} {m : Str → Option Value} {news : List (Addr × Obj)} {p : Program} {loose : List Str} {mean : ExcName → Option Value} {mg mb : Str → Option Value} {s : Shared} {Q E : Value → Shared → Prop} (Z : Amb w cs outer A₀ base h₀ L s.heap m news p loose mean mg mb) (hd : dp + 2 < recursionLimit) (hu : un + 300 < cLine)
    {x : Str} {t : Tok} {cz : List Nat} (hx : x.cps.toList = cz) (hn : cz.length ≤ 100) (hs : ∀ c ∈ cz, c ∈ signsL)
    (retN : ∀ h' tk', Fr h₀ L h' m → News h₀ L h' news → ¬ (cz.filter (fun c => !goodN c)).map sgn = [] → Q .none { s with heap := h', toks := tk' })
    (retS : ∀ t' h' tk', Fr h₀ L h' m → News h₀ L h' news → (cz.filter (fun c => !goodN c)).map sgn = [] → Q (.str ⟨(shownC cz).toArray⟩ t') { s with heap := h', toks := tk' }) :
    wpAny (model PG w) (ktrTop dp un gd cn cs L a ccd cl outer) (call (.ref 312) [.str x t]) Q E s := by
  obtain ⟨B, F, X, N, T, hk⟩ := Z
  have hsz : x.cps.size ≤ 100 := by rw [← Array.length_toList, hx]; exact hn
  refine wpAny_call ?_
  k_dflt cell_enter
  k_steps
  unfold Halt
  k_dflt (refine ListComp_GT (by k_asm) (by with_unfolding_all rfl) (by decide) (by rfl) (by decide) (by rfl) ?_)
  k_steps
  rename News _ _ _ _ => N9
  refine ⟨_, _, _, _, by k_asm, N9, trivial, iter_str rfl (by rw [sizeLine_eq]; omega), fun g9 => ?_⟩
  refine comp_invT (fun i ys nw => nw = news ∧ StrsAre ys (((cz.take i).filter (fun c => !goodN c)).map sgn)) ⟨rfl, .nil⟩ ?_ ?_
  · rintro i ys nw v I oI C oC D m₂ h tk E' hi ⟨rfl, hys⟩ ⟨c, u, hc, rfl⟩ hC hm F7 N7 off ne
    have hcc : cz[i]? = some c := by rw [← hx]; simpa using hc
    have hf := filter_snocN (p := fun c => !goodN c) hcc
    have hsp := @lt_sp c
    have hsp' := @nlt_sp c
    have hti := @lt_ti c
    have hti' := @nlt_ti c
    by_cases q1 : 32 ≤ c
    · have q1' := hsp' q1
      by_cases q2 : c < 127
      · have q2' := hti' q2
        clear hsp hsp' hti hti'
        try k_fold
        k_steps
        refine comp_end (by k_asm) N7 (fun p hp => hp) off trivial ⟨rfl, ?_⟩
        rw [hf]
        simpa [goodN, q1, q2] using hys
      · have q2' := hti (by omega)
        clear hsp hsp' hti hti'
        try k_fold
        k_steps
        refine comp_end (by k_asm) N7 (fun p hp => hp) off trivial ⟨rfl, ?_⟩
        rw [hf]
        simp only [goodN, q1, q2, decide_true, decide_false, Bool.and_false, Bool.not_false, if_true, List.map_append, List.map_cons, List.map_nil]
        exact strsAre_snoc hys
    · have q1' := hsp (by omega)
      clear hsp hsp' hti hti'
      try k_fold
      k_steps
      refine comp_end (by k_asm) N7 (fun p hp => hp) off trivial ⟨rfl, ?_⟩
      rw [hf]
      simp only [goodN, q1, decide_false, Bool.false_and, Bool.not_false, if_true, List.map_append, List.map_cons, List.map_nil]
      exact strsAre_snoc hys
  · rintro ys nw ⟨rfl, hys⟩
    rw [show cz.take x.cps.size = cz from List.take_of_length_le (by rw [← hx]; simp)] at hys
    clear N9
    have hcan : ∀ y ∈ (cz.filter (fun c => !goodN c)).map sgn, PyData.canLay0 (.str y) = true := by
      intro y hy
      obtain ⟨c, hc, rfl⟩ := List.mem_map.mp hy
      exact can_sgn c (hs c (List.mem_filter.mp hc).1)
    have hel : ∀ y ∈ cz.map (fun c => (⟨(escN c).toArray⟩ : Str)), y.length ≤ 2 := by
      intro y hy
      obtain ⟨c, _, rfl⟩ := List.mem_map.mp hy
      show (escN c).toArray.size ≤ 2
      rw [List.size_toArray]
      unfold escN
      split <;> simp
    have hok := join_okN hel (by decide) (by rw [List.length_map]; exact hn)
    have hjl : (Txt.join (Str.ofString "") (cz.map fun c => (⟨(escN c).toArray⟩ : Str))).length ≤ 400 := Nat.le_trans (join_len hel) (by rw [List.length_map, show (Str.ofString "").length = 0 from by decide]; omega)
    by_cases hbad : (cz.filter (fun c => !goodN c)).map sgn = []
    · by_cases hne : cz = []
      · have hxe : (x != Str.ofString "") = false := by
          have : x = Str.ofString "" := str_of_codes (by rw [hx, hne, c_none])
          simp [this]
        k_steps
        unfold Halt
        k_dflt (refine ListComp_G (by k_asm) (by with_unfolding_all rfl) (by decide) (by rfl) (by decide) (by rfl) ?_)
        k_steps
        rename News _ _ _ _ => N9
        refine ⟨_, _, _, _, by k_asm, N9, trivial, iter_str rfl (by rw [sizeLine_eq]; omega), fun g9 => ?_⟩
        refine comp_inv (fun i ys nw => nw = _ ∧ StrsAre ys ((cz.take i).map fun c => (⟨(escN c).toArray⟩ : Str))) ⟨rfl, .nil⟩ ?_ ?_
        · rintro i ys3 nw v I oI C oC D m₂ h tk E' hi ⟨rfl, hys3⟩ ⟨c, u, hc, rfl⟩ hC hm F7 N7 off ne
          have hcc : cz[i]? = some c := by rw [← hx]; simpa using hc
          have hocc := occ_quo c (hs c (List.mem_of_getElem? hcc))
          have hl9 : (sgn c).length ≤ 8 := by show 1 ≤ 8; decide
          cases hq : quoN c
          · rw [hq] at hocc
            try k_fold
            k_steps
            refine comp_end (by k_asm) N7 (fun p hp => hp) off trivial ⟨rfl, ?_⟩
            rw [List.take_add_one, hcc, List.map_append, Option.toList_some, List.map_cons, List.map_nil, esc_plain hq]
            exact strsAre_snoc hys3
          · rw [hq] at hocc
            try k_fold
            k_steps
            refine comp_end (by k_asm) N7 (fun p hp => hp) off trivial ⟨rfl, ?_⟩
            rw [List.take_add_one, hcc, List.map_append, Option.toList_some, List.map_cons, List.map_nil, esc_quo hq]
            exact strsAre_snoc hys3
        · rintro ys3 nw ⟨rfl, hys3⟩
          rw [show cz.take x.cps.size = cz from List.take_of_length_le (by rw [← hx]; simp)] at hys3
          clear N9
          k_steps
          rw [quoted_join, ← shown_quotedN hs hbad (.inl hne)]
          rename News h₀ L _ _ => N7
          exact retS _ _ _ (by k_asm) (fun p hp => N7 p (.tail _ (.tail _ (.tail _ hp)))) hbad
      · have hxe : (x != Str.ofString "") = true := by
          have : ¬ x = Str.ofString "" := fun e => hne (by rw [← hx, e, c_none])
          simpa using this
        k_steps
        unfold Halt
        k_dflt (refine ListComp_GT (by k_asm) (by with_unfolding_all rfl) (by decide) (by rfl) (by decide) (by rfl) ?_)
        k_steps
        rename News _ _ _ _ => N9
        refine ⟨_, _, _, _, by k_asm, N9, trivial, iter_str rfl (by rw [sizeLine_eq]; omega), fun g9 => ?_⟩
        refine comp_invT (fun i ys nw => nw = _ ∧ StrsAre ys (((cz.take i).filter barN).map sgn)) ⟨rfl, .nil⟩ ?_ ?_
        · rintro i ys2 nw v I oI C oC D m₂ h tk E' hi ⟨rfl, hys2⟩ ⟨c, u, hc, rfl⟩ hC hm F7 N7 off ne
          have hcc : cz[i]? = some c := by rw [← hx]; simpa using hc
          have hf := filter_snocN (p := barN) hcc
          have hocc := occ_bar c (hs c (List.mem_of_getElem? hcc))
          cases hq : barN c
          all_goals
            rw [hq] at hocc
            try k_fold
            k_steps
            refine comp_end (by k_asm) N7 (fun p hp => hp) off trivial ⟨rfl, ?_⟩
            rw [hf]
          · simpa [hq] using hys2
          · simp only [hq, if_true, List.map_append, List.map_cons, List.map_nil]
            exact strsAre_snoc hys2
        · rintro ys2 nw ⟨rfl, hys2⟩
          rw [show cz.take x.cps.size = cz from List.take_of_length_le (by rw [← hx]; simp)] at hys2
          clear N9
          have hcan2 : ∀ y ∈ (cz.filter barN).map sgn, PyData.canLay0 (.str y) = true := by
            intro y hy
            obtain ⟨c, hc, rfl⟩ := List.mem_map.mp hy
            exact can_sgn c (hs c (List.mem_filter.mp hc).1)
          by_cases hbar : (cz.filter barN).map sgn = []
          · k_steps
            have e9 : x = ⟨(shownC cz).toArray⟩ := str_of_codes (by rw [hx, shown_atomN hs hbad hne hbar])
            rw [e9]
            rename News h₀ L _ _ => N7
            exact retS _ _ _ (by k_asm) (fun p hp => N7 p (.tail _ (.tail _ (.tail _ (.tail _ hp))))) hbad
          · k_steps
            unfold Halt
            k_dflt (refine ListComp_G (by k_asm) (by with_unfolding_all rfl) (by decide) (by rfl) (by decide) (by rfl) ?_)
            k_steps
            rename News _ _ _ _ => N9
            refine ⟨_, _, _, _, by k_asm, N9, trivial, iter_str rfl (by rw [sizeLine_eq]; omega), fun g9 => ?_⟩
            refine comp_inv (fun i ys nw => nw = _ ∧ StrsAre ys ((cz.take i).map fun c => (⟨(escN c).toArray⟩ : Str))) ⟨rfl, .nil⟩ ?_ ?_
            · rintro i ys3 nw v I oI C oC D m₂ h tk E' hi ⟨rfl, hys3⟩ ⟨c, u, hc, rfl⟩ hC hm F7 N7 off ne
              have hcc : cz[i]? = some c := by rw [← hx]; simpa using hc
              have hocc := occ_quo c (hs c (List.mem_of_getElem? hcc))
              have hl9 : (sgn c).length ≤ 8 := by show 1 ≤ 8; decide
              cases hq : quoN c
              · rw [hq] at hocc
                try k_fold
                k_steps
                refine comp_end (by k_asm) N7 (fun p hp => hp) off trivial ⟨rfl, ?_⟩
                rw [List.take_add_one, hcc, List.map_append, Option.toList_some, List.map_cons, List.map_nil, esc_plain hq]
                exact strsAre_snoc hys3
              · rw [hq] at hocc
                try k_fold
                k_steps
                refine comp_end (by k_asm) N7 (fun p hp => hp) off trivial ⟨rfl, ?_⟩
                rw [List.take_add_one, hcc, List.map_append, Option.toList_some, List.map_cons, List.map_nil, esc_quo hq]
                exact strsAre_snoc hys3
            · rintro ys3 nw ⟨rfl, hys3⟩
              rw [show cz.take x.cps.size = cz from List.take_of_length_le (by rw [← hx]; simp)] at hys3
              clear N9
              k_steps
              rw [quoted_join, ← shown_quotedN hs hbad (.inr hbar)]
              rename News h₀ L _ _ => N7
              exact retS _ _ _ (by k_asm) (fun p hp => N7 p (.tail _ (.tail _ (.tail _ (.tail _ (.tail _ hp)))))) hbad
    · k_steps
      rename News h₀ L _ _ => N7
      exact retN _ _ (by k_asm) (fun p hp => N7 p (.tail _ (.tail _ hp))) hbad

theorem calm_Pl : True := by w_top off; trivial
def words6 : List Str := Str.ofString "" :: words5
theorem menu3_le {a : Int} (h : a ∈ [(0 : Int), 7, 4294967295]) : 0 ≤ a ∧ a < 10 ^ 10 := by
  simp only [List.mem_cons, List.not_mem_nil, or_false] at h
  omega
theorem menu_le {a : Int} (h : a ∈ [(1 : Int), 2, 40, 4294967295]) : 1 ≤ a ∧ a < 10 ^ 10 := by
  simp only [List.mem_cons, List.not_mem_nil, or_false] at h
  omega
theorem words6_len : ∀ wd ∈ words6, wd.length ≤ 20 := by decide +kernel
/-- the path and the word, points between them -/
def textS (P : List Int) (wd : Str) : Str := Txt.join (Str.ofString ".") (wordsS P wd)
theorem num_len {P : List Int} (hP : ∀ p ∈ P, p ∈ [(1 : Int), 2, 40, 4294967295]) : ∀ x ∈ P.map numS, x.length ≤ 20 := by
  intro x hx
  obtain ⟨n, hn, rfl⟩ := List.mem_map.mp hx
  have h9 := menu_le (hP n hn)
  have := KT.len_num (n := n) (by omega) h9.2
  show (Str.ofString (toString n)).length ≤ 20
  omega
theorem textS_len {P : List Int} {wd : Str} (hP : ∀ p ∈ P, p ∈ [(1 : Int), 2, 40, 4294967295]) (hP5 : P.length ≤ 5) (hw : wd ∈ words6) : (textS P wd).length ≤ 200 := by
  have hall : ∀ x ∈ wordsS P wd, x.length ≤ 20 := by
    intro x hx
    rcases List.mem_append.mp hx with hx | hx
    · exact num_len hP x hx
    · split at hx
      · cases hx
      · rw [List.mem_singleton.mp hx]; exact words6_len wd hw
  refine Nat.le_trans (join_len hall) ?_
  rw [show (Str.ofString ".").length = 1 from by decide]
  have : (wordsS P wd).length ≤ 6 := by
    unfold wordsS
    rw [List.length_append, List.length_map]
    split <;> simp <;> omega
  omega
/-- the text of the law, whole -/
def fullS (P : List Int) (wd : Str) (czs : List (List Nat)) : Str := ⟨(bodyC P wd czs).toArray⟩
/-- the names that the law makes -/
def NamesMade (czs : List (List Nat)) : Prop := ∀ cz ∈ czs, (∀ c ∈ cz, c ∈ signsL) ∧ cz.length ≤ 4
/-- a section's text: the law's, and show_section's -/
def secS (P : List Int) (wd : Str) (czs : List (List Nat)) (part : Option (Int × Int)) (ans : Bool) : Str := ⟨(91 :: (bodyC P wd czs ++ 93 :: partC part ans)).toArray⟩
theorem full_codes (P : List Int) (wd : Str) (czs : List (List Nat)) : (fullS P wd czs).cps.toList = bodyC P wd czs := rfl
theorem whole_none (P : List Int) (wd : Str) (czs : List (List Nat)) (ans : Bool) : Str.ofString "[" ++ fullS P wd czs ++ Str.ofString "]" ++ Str.ofString "" = secS P wd czs none ans := by
  refine str_of_codes ?_
  show _ = 91 :: (bodyC P wd czs ++ 93 :: partC none ans)
  simp only [Str.cps_append, Array.toList_append, c_lb, c_rb, c_none, full_codes, partC]
  simp
theorem whole_some (P : List Int) (wd : Str) (czs : List (List Nat)) (a b : Int) : Str.ofString "[" ++ fullS P wd czs ++ Str.ofString "]" ++ (Str.ofString "<" ++ numS a ++ Str.ofString "." ++ numS b ++ Str.ofString ">") = secS P wd czs (some (a, b)) false := by
  refine str_of_codes ?_
  show _ = 91 :: (bodyC P wd czs ++ 93 :: partC (some (a, b)) false)
  simp only [Str.cps_append, Array.toList_append, c_lb, c_rb, c_lt, c_gt, c_dot, full_codes, partC]
  simp
theorem answer_some (P : List Int) (wd : Str) (czs : List (List Nat)) (a b : Int) : Str.ofString "[" ++ fullS P wd czs ++ Str.ofString "]" ++ (Str.ofString "<" ++ numS a ++ Str.ofString ">") = secS P wd czs (some (a, b)) true := by
  refine str_of_codes ?_
  show _ = 91 :: (bodyC P wd czs ++ 93 :: partC (some (a, b)) true)
  simp only [Str.cps_append, Array.toList_append, c_lb, c_rb, c_lt, c_gt, c_dot, full_codes, partC]
  simp
theorem body_len {P : List Int} {wd : Str} {czs : List (List Nat)} (hP : ∀ p ∈ P, p ∈ [(1 : Int), 2, 40, 4294967295]) (hP5 : P.length ≤ 5) (hw : wd ∈ words6) (hcz : NamesMade czs) (hczl : czs.length ≤ 4) : (bodyC P wd czs).length ≤ 300 := by
  have h1 := textS_len hP hP5 hw
  have h2 : (joinC [46] ((wordsS P wd).map (·.cps.toList))).length ≤ 200 := by
    rw [← c_dot, ← join_codes, Array.length_toList]
    exact h1
  have h3 : (joinC [32] (czs.map shownC)).length ≤ (czs.map shownC).length * (10 + [32].length) := joinC_len [32] _ (fun x hx => by
    obtain ⟨cz, hc, rfl⟩ := List.mem_map.mp hx
    have := shown_len cz
    have := (hcz cz hc).2
    omega)
  rw [List.length_map] at h3
  unfold bodyC
  rw [List.length_append]
  split
  · simp only [List.length_cons, List.length_append, List.length_nil] at h3 ⊢
    omega
  · simp only [List.length_nil]
    omega
/-- a number's figures -/
def digs (n : Int) : List Int := (numC n).map Int.ofNat
def okB (d : List Int) : Bool := d.all (fun c => decide (48 ≤ c) && decide (c ≤ 57)) && decide (0 < d.length) && decide (d.length ≤ 20) && (decide (d.length = 1) || decide (d.headD (-1) ≠ 48)) && decide (valF d ≤ 4294967295)
theorem okB_ok {d : List Int} (h : okB d = true) : NumOk d := by
  simp only [okB, Bool.and_eq_true, Bool.or_eq_true, decide_eq_true_eq, List.all_eq_true] at h
  obtain ⟨⟨⟨⟨h1, h2⟩, h3⟩, h4⟩, h5⟩ := h
  exact ⟨h1, h2, h3, h4, h5⟩
theorem digs_menu : ∀ n ∈ [(1 : Int), 2, 40, 4294967295], okB (digs n) = true ∧ valF (digs n) = n := by decide +kernel
theorem digs_menu3 : ∀ n ∈ [(0 : Int), 7, 4294967295], okB (digs n) = true ∧ valF (digs n) = n := by decide +kernel
theorem digs_small : ∀ n ∈ List.range 100, okB (digs (n : Nat)) = true ∧ valF (digs (n : Nat)) = ((n : Nat) : Int) := by decide +kernel
theorem digs_99 {b : Int} (h0 : 1 ≤ b) (h1 : b ≤ 99) : okB (digs b) = true ∧ valF (digs b) = b := by
  have := digs_small b.toNat (List.mem_range.mpr (by omega))
  rwa [Int.toNat_of_nonneg (by omega)] at this
theorem joinC_snoc (sep w : List Nat) : ∀ l : List (List Nat), joinC sep (l ++ [w]) = joinC sep l ++ ((if l = [] then [] else sep) ++ w)
  | [] => by simp [joinC]
  | x :: r => by
    show x ++ ((r ++ [w]).map (sep ++ ·)).flatten = x ++ (r.map (sep ++ ·)).flatten ++ _
    simp
theorem joinC_path : ∀ P : List Int, (joinC [46] (P.map numC)).map Int.ofNat = pathC (P.map digs)
  | [] => rfl
  | [n] => by simp [joinC, pathC, digs]
  | n :: k :: r => by
    have ih := joinC_path (k :: r)
    have e : joinC [46] ((n :: k :: r).map numC) = numC n ++ 46 :: joinC [46] ((k :: r).map numC) := by simp [joinC]
    rw [e, List.map_append, List.map_cons, ih]
    rfl
theorem tail_codes : ∀ l : List (List Nat), ((l.map ([32] ++ ·)).flatten).map Int.ofNat = tailSh (l.map (·.map Int.ofNat))
  | [] => rfl
  | x :: r => by
    have ih := tail_codes r
    simp only [List.map_cons, List.flatten_cons, List.map_append, ih]
    simp [tailSh]
theorem names_codes (cz : List Nat) (r : List (List Nat)) : (joinC [32] ((cz :: r).map shownC)).map Int.ofNat = (shownC cz).map Int.ofNat ++ tailSh (r.map fun c => (shownC c).map Int.ofNat) := by
  show (shownC cz ++ ((r.map shownC).map ([32] ++ ·)).flatten).map Int.ofNat = _
  rw [List.map_append, tail_codes, List.map_map]
  rfl
theorem name_ok {cz : List Nat} (h : ∀ c ∈ cz, 32 ≤ c ∧ c < 127) (hl : cz.length ≤ 4) : NameOk cz ((shownC cz).map Int.ofNat) := by
  refine ⟨?_, h, by omega⟩
  unfold shownC
  split
  · rename_i q
    exact .inl ⟨q.1, q.2, rfl⟩
  · exact .inr (by simp [escC])
theorem words_codes (P : List Int) (wd : Str) : (joinC [46] ((wordsS P wd).map (·.cps.toList))).map Int.ofNat = pathC (P.map digs) ++ (if wd = Str.ofString "" then [] else (if P = [] then [] else [46]) ++ wd.cps.toList.map Int.ofNat) := by
  unfold wordsS
  rw [List.map_append, List.map_map]
  show (joinC [46] (P.map numC ++ _)).map Int.ofNat = _
  by_cases q : wd = Str.ofString ""
  · rw [if_pos q, if_pos q, List.map_nil, List.append_nil, List.append_nil, joinC_path]
  · rw [if_neg q, if_neg q, List.map_cons, List.map_nil, joinC_snoc, List.map_append, joinC_path, List.map_append]
    by_cases z : P = []
    · rw [if_pos z, if_pos (by rw [z]; rfl)]; rfl
    · rw [if_neg z, if_neg (by simpa using z)]; rfl
theorem val_path {P : List Int} (hP : ∀ p ∈ P, p ∈ [(1 : Int), 2, 40, 4294967295]) : (P.map digs).map valF = P := by
  rw [List.map_map]
  conv => rhs; rw [← List.map_id P]
  exact List.map_congr_left fun n hn => (digs_menu n (hP n hn)).2
theorem path_ok {P : List Int} (hP : ∀ p ∈ P, p ∈ [(1 : Int), 2, 40, 4294967295]) : ∀ d ∈ P.map digs, NumOk d ∧ 1 ≤ valF d := by
  intro d hd
  obtain ⟨n, hn, rfl⟩ := List.mem_map.mp hd
  have h := digs_menu n (hP n hn)
  exact ⟨okB_ok h.1, by rw [h.2]; exact (menu_le (hP n hn)).1⟩
/-- the wanted parts that the law makes -/
def PartMade (part : Option (Int × Int)) : Prop := part = none ∨ ∃ a b, part = some (a, b) ∧ a ∈ [(0 : Int), 7, 4294967295] ∧ 1 ≤ b ∧ b ≤ 99
theorem part_ok {part : Option (Int × Int)} (h : PartMade part) : PartOk ((partC part false).map Int.ofNat) part := by
  rcases h with rfl | ⟨a, b, rfl, ha, hb0, hb1⟩
  · exact .inl ⟨rfl, rfl⟩
  · have h1 := digs_menu3 a ha
    have h2 := digs_99 hb0 hb1
    refine .inr ⟨digs a, digs b, ?_, okB_ok h1.1, by rw [h1.2]; exact (menu3_le ha).1, okB_ok h2.1, by rw [h2.2]; exact hb0, by rw [h1.2, h2.2]⟩
    simp [partC, digs]
theorem num_codes_ok {n : Int} (h : okB (digs n) = true) : ∀ c ∈ numC n, c < 127 := by
  intro c hc
  have := (okB_ok h).fig (Int.ofNat c) (List.mem_map_of_mem hc)
  simp only [Int.ofNat_eq_natCast] at this
  omega
theorem num_codes_len {n : Int} (h : okB (digs n) = true) : (numC n).length ≤ 20 := by
  have := (okB_ok h).few
  rwa [digs, List.length_map] at this
theorem part_codes {part : Option (Int × Int)} {ans : Bool} (h : PartMade part) : (∀ c ∈ partC part ans, c < 127) ∧ (partC part ans).length ≤ 50 := by
  rcases h with rfl | ⟨a, b, rfl, ha, hb0, hb1⟩
  · exact ⟨(fun c hc => nomatch hc), Nat.zero_le 50⟩
  · have h1 := digs_menu3 a ha
    have h2 := digs_99 hb0 hb1
    have l1 := num_codes_len h1.1
    have l2 := num_codes_len h2.1
    have c1 := num_codes_ok h1.1
    have c2 := num_codes_ok h2.1
    cases ans
    all_goals
      simp only [partC, if_true, Bool.false_eq_true, if_false]
      refine ⟨fun c hc => ?_, ?_⟩
      · simp only [List.mem_cons, List.mem_append, List.not_mem_nil, or_false, List.nil_append, List.cons_append] at hc
        first
          | (rcases hc with rfl | hc | rfl | hc | rfl <;> first | omega | exact c1 _ hc | exact c2 _ hc)
          | (rcases hc with rfl | hc | rfl <;> first | omega | exact c1 _ hc)
      · simp only [List.length_cons, List.length_append, List.length_nil]
        omega
theorem mem_joinC {sep : List Nat} {c : Nat} : ∀ {l : List (List Nat)}, c ∈ joinC sep l → c ∈ sep ∨ ∃ x ∈ l, c ∈ x
  | x :: r, h => by
    rcases List.mem_append.mp h with h | h
    · exact .inr ⟨x, .head _, h⟩
    · obtain ⟨y, hy, hc⟩ := List.mem_flatten.mp h
      obtain ⟨z, hz, rfl⟩ := List.mem_map.mp hy
      rcases List.mem_append.mp hc with hc | hc
      · exact .inl hc
      · exact .inr ⟨z, .tail _ hz, hc⟩
theorem words6_codes : ∀ wd ∈ words6, ∀ c ∈ wd.cps.toList, c < 127 := by decide +kernel
theorem shown_codes {cz : List Nat} (h : ∀ c ∈ cz, 32 ≤ c ∧ c < 127) : ∀ c ∈ shownC cz, c < 127 := by
  intro c hc
  unfold shownC at hc
  split at hc
  · exact (h c hc).2
  · simp only [List.mem_cons, List.mem_append, List.not_mem_nil, or_false] at hc
    rcases hc with rfl | hc | rfl
    · omega
    · obtain ⟨y, hy, hc⟩ := List.mem_flatten.mp hc
      obtain ⟨z, hz, rfl⟩ := List.mem_map.mp hy
      unfold escN at hc
      split at hc
      · simp only [List.mem_cons, List.not_mem_nil, or_false] at hc
        rcases hc with rfl | rfl
        · omega
        · exact (h _ hz).2
      · rw [List.mem_singleton.mp hc]; exact (h _ hz).2
    · omega
theorem sec_codes {P : List Int} {wd : Str} {czs : List (List Nat)} {part : Option (Int × Int)} (hP : ∀ p ∈ P, p ∈ [(1 : Int), 2, 40, 4294967295]) (hw : wd ∈ words6) (hgd : (words2.any (· == wd)) = true → ∀ cz ∈ czs, ∀ c ∈ cz, 32 ≤ c ∧ c < 127) (hpart : PartMade part) :
    ∀ c ∈ (secS P wd czs part false).cps.toList, c < 127 := by
  show ∀ c ∈ 91 :: (bodyC P wd czs ++ 93 :: partC part false), c < 127
  intro c hc
  simp only [List.mem_cons, List.mem_append] at hc
  rcases hc with rfl | hc | rfl | hc
  · omega
  · unfold bodyC at hc
    rcases List.mem_append.mp hc with hc | hc
    · rcases mem_joinC hc with hc | ⟨x, hx, hc⟩
      · rw [List.mem_singleton.mp hc]; omega
      · obtain ⟨y, hy, rfl⟩ := List.mem_map.mp hx
        rcases List.mem_append.mp hy with hy | hy
        · obtain ⟨n, hn, rfl⟩ := List.mem_map.mp hy
          exact num_codes_ok (digs_menu n (hP n hn)).1 c hc
        · split at hy
          · cases hy
          · rw [List.mem_singleton.mp hy] at hc; exact words6_codes wd hw c hc
    · split at hc
      · rename_i q
        simp only [List.mem_cons, List.mem_append, List.not_mem_nil, or_false] at hc
        rcases hc with rfl | rfl | hc | rfl
        · omega
        · omega
        · rcases mem_joinC hc with hc | ⟨x, hx, hc⟩
          · rw [List.mem_singleton.mp hc]; omega
          · obtain ⟨cz, hz, rfl⟩ := List.mem_map.mp hx
            exact shown_codes (hgd q cz hz) c hc
        · omega
      · cases hc
  · omega
  · exact (part_codes hpart).1 c hc
theorem words6_split : ∀ wd ∈ words6, wd = Str.ofString "" ∨ (wd ∈ words5 ∧ wd ≠ Str.ofString "") := by decide +kernel

theorem calm_Pr : True := by w_top off; trivial
theorem show_section_k {w : World} {dp un : Nat} {gd : Option (List Code)} {cn : Str} {cs : Scope} {a : Addr} {ccd : Value} {cl : List (Str × Addr)} {outer : List Env} {A₀ : Around} {base h₀ : Heap} {L : Addr} {m : Str → Option Value} {news : List (Addr × Obj)} {p : Program} {loose : List Str} {mean : ExcName → Option Value} {mg mb : Str → Option Value} {s : Shared} {Q E : Value → Shared → Prop} (Z : Amb w cs outer A₀ base h₀ L s.heap m news p loose mean mg mb) (hd : dp + 6 < recursionLimit) (hu : un + 400 < cLine)
    {y dy tp np : Addr} {pv nv : List Value} {P : List Int} {names : List (List Nat)} {wd : Str} {pt : Value} {k1 k2 k3 k4 tw : Tok} {pk nk : Nat} {part : Option (Int × Int)} {ans : Bool} {args : List Value} (hargs : (args = [.ref y] ∧ ans = false) ∨ (args = [.ref y, .bool true] ∧ ans = true))
    (hy : (y, instObj 197 dy) ∈ news) (hdy : (dy, secD w.params tp np wd pt k1 k2 k3 k4 tw) ∈ news) (htp : (tp, ({ cls := .type "tuple", data := .seq pv.toArray pk } : Obj)) ∈ news) (hnp : (np, ({ cls := .type "tuple", data := .seq nv.toArray nk } : Obj)) ∈ news)
    (hP : IntsAre pv P) (hN : StrsAre nv (names.map fun cz => ⟨cz.toArray⟩)) (hp : PartB news pt part) (ok : SecOk P wd names)
    (ret : ∀ t' h' tk', Fr h₀ L h' m → News h₀ L h' news → Q (.str (secS P wd names part ans) t') { s with heap := h', toks := tk' }) :
    wpAny (model PG w) (ktrTop dp un gd cn cs L a ccd cl outer) (call (.ref 294) args) Q E s :=
  show_section_c Z hd hu hargs hy hdy htp hnp hP hN hp ok fun z t' h' tk' F N e => by
    rw [show z = secS P wd names part ans from str_of_codes e]
    exact ret t' h' tk' F N
theorem sec_ok {P : List Int} {wd : Str} {czs : List (List Nat)} (hP : ∀ p ∈ P, p ∈ [(1 : Int), 2, 40, 4294967295]) (hP5 : P.length ≤ 5) (hw : wd ∈ words6) (hcz : NamesMade czs) (hczl : czs.length ≤ 4) (hgd : (words2.any (· == wd)) = true → ∀ cz ∈ czs, ∀ c ∈ cz, 32 ≤ c ∧ c < 127) : SecOk P wd czs where
  few := by omega
  num := fun p hp => ⟨by have := menu_le (hP p hp); omega, (menu_le (hP p hp)).2⟩
  wl := words6_len wd hw
  fewN := by omega
  nl := fun cz h => by have := (hcz cz h).2; omega
  nc := hgd
theorem read_c {w : World} {dp un : Nat} {gd : Option (List Code)} {cn : Str} {cs : Scope} {a : Addr} {ccd : Value} {cl : List (Str × Addr)} {outer : List Env} {A₀ : Around} {base h₀ : Heap} {L : Addr} {m : Str → Option Value} {news : List (Addr × Obj)} {p : Program} {loose : List Str} {mean : ExcName → Option Value} {mg mb : Str → Option Value} {s : Shared} {Q E : Value → Shared → Prop} (Z : Amb w cs outer A₀ base h₀ L s.heap m news p loose mean mg mb) (hd : dp + 8 < recursionLimit) (hu : un + 400 < cLine)
    {P : List Int} {wd : Str} {czs : List (List Nat)} {part : Option (Int × Int)} {t : Tok} (hP : ∀ p ∈ P, p ∈ [(1 : Int), 2, 40, 4294967295]) (hP5 : P.length ≤ 5) (hw : wd ∈ words6) (hcz : NamesMade czs) (hczl : czs.length ≤ 4) (hcz0 : czs ≠ [])
    (hgd : (words2.any (· == wd)) = true → ∀ cz ∈ czs, ∀ c ∈ cz, 32 ≤ c ∧ c < 127) (hpart : PartMade part) (hm : wd = Str.ofString "MIME" → P ≠ [])
    (ret : ∀ y dy tp np pv pk nv nk k1 k2 k3 k4 tw pt ex h' tk', Fr h₀ L h' m → News h₀ L h' ((y, instObj 197 dy) :: (dy, secD w.params tp np wd pt k1 k2 k3 k4 tw) :: (np, { cls := .type "tuple", data := .seq nv.toArray nk }) :: (tp, { cls := .type "tuple", data := .seq pv.toArray pk }) :: (ex ++ news)) → PartV ex pt part → IntsAre pv P →
      StrsAre nv ((if (words2.any (· == wd)) = true then czs else []).map fun cz => ⟨cz.toArray⟩) → Q (.ref y) { s with heap := h', toks := tk' }) :
    wpAny (model PG w) (ktrTop dp un gd cn cs L a ccd cl outer) (call (.ref 276) [.str (secS P wd czs part false) t]) Q E s := by
  have hbl := body_len hP hP5 hw hcz hczl
  have hpc := part_codes (ans := false) hpart
  have hsz : (secS P wd czs part false).cps.size ≤ 1000 := by
    rw [← Array.length_toList]
    show (91 :: (bodyC P wd czs ++ 93 :: partC part false)).length ≤ 1000
    simp only [List.length_cons, List.length_append]
    omega
  have h127 := sec_codes hP hw hgd hpart
  have hpo := part_ok hpart
  have hps := path_ok hP
  have hvp := val_path hP
  have hpl : (P.map digs).length ≤ 100 := by rw [List.length_map]; omega
  have hks : (secS P wd czs part false).cps.toList.map Int.ofNat = 91 :: (pathC (P.map digs) ++ ((if wd = Str.ofString "" then [] else (if P = [] then [] else [46]) ++ wd.cps.toList.map Int.ofNat) ++ ((if (words2.any (· == wd)) = true then 32 :: 40 :: ((joinC [32] (czs.map shownC)).map Int.ofNat ++ [41]) else []) ++ 93 :: (partC part false).map Int.ofNat))) := by
    show (91 :: (bodyC P wd czs ++ 93 :: partC part false)).map Int.ofNat = _
    unfold bodyC
    rw [List.map_cons, List.map_append, List.map_append, words_codes]
    by_cases q : (words2.any (· == wd)) = true
    · rw [if_pos q, if_pos q]; simp
    · rw [if_neg q, if_neg q]; simp
  rcases words6_split wd hw with rfl | ⟨hw5, hne⟩
  · have q : ¬ (words2.any (· == Str.ofString "")) = true := by decide
    rw [if_pos rfl, if_neg q, List.nil_append, List.nil_append] at hks
    refine read_nil Z hd hu (t := t) rfl hsz h127 hks hps hpl hpo ?_
    intro y dy tp np pv pk nk k1 k2 k3 k4 tw pt ex h' tk' F N hv hi
    rw [hvp] at hi
    exact ret y dy tp np pv pk [] nk k1 k2 k3 k4 tw pt ex h' tk' F N hv hi (by rw [if_neg q]; exact .nil)
  · rw [if_neg hne] at hks
    by_cases q : (words2.any (· == wd)) = true
    · rw [if_pos q] at hks
      obtain ⟨cz0, r, rfl⟩ : ∃ cz0 r, czs = cz0 :: r := by cases czs with | nil => exact absurd rfl hcz0 | cons a b => exact ⟨a, b, rfl⟩
      rw [names_codes] at hks
      have hok : ∀ cz ∈ cz0 :: r, NameOk cz ((shownC cz).map Int.ofNat) := fun cz h => name_ok (hgd q cz h) (hcz cz h).2
      refine read_fields Z hd hu (t := t) (ps := P.map digs) (czs := r) (shs := r.map fun c => (shownC c).map Int.ofNat) (cz0 := cz0) (sh0 := (shownC cz0).map Int.ofNat) rfl hsz h127 hw5 q (by rw [hvp]; exact hm) ?_ hps hpl hpo (by rw [List.length_map]) (hok cz0 (.head _)) (fun k h1 h2 => ?_) (by simp only [List.length_cons] at hczl; omega) ?_
      · rw [hvp, hks]
        simp only [List.append_assoc, List.cons_append, List.nil_append]
      · rw [List.getElem_map]
        exact hok _ (.tail _ (List.getElem_mem h1))
      · intro y dy tp np pv pk nv nk k1 k2 k3 k4 tw pt ex h' tk' F N hv hi hn
        rw [hvp] at hi
        exact ret y dy tp np pv pk nv nk k1 k2 k3 k4 tw pt ex h' tk' F N hv hi (by rw [if_pos q]; exact hn)
    · rw [if_neg q, List.nil_append] at hks
      refine read_word Z hd hu (t := t) (ps := P.map digs) rfl hsz h127 hw5 ((Bool.not_eq_true _).mp q) (by rw [hvp]; exact hm) ?_ hps hpl hpo ?_
      · rw [hvp, hks]
        simp only [List.append_assoc]
      · intro y dy tp np pv pk nk k1 k2 k3 k4 tw pt ex h' tk' F N hv hi
        rw [hvp] at hi
        exact ret y dy tp np pv pk [] nk k1 k2 k3 k4 tw pt ex h' tk' F N hv hi (by rw [if_neg q]; exact .nil)

theorem calm_Pq : True := by w_top off; trivial
/-- a section's four parts as data -/
def partD : Option (Int × Int) → PyData
  | none => .none
  | some (a, b) => .tuple [.int a, .int b]
def secData (P : List Int) (wd : Str) (ys : List Str) (part : Option (Int × Int)) : PyData := .tuple [.tuple (P.map .int), .str wd, .tuple (ys.map .str), partD part]
theorem secData_shaped {P : List Int} {wd : Str} {ys : List Str} {part : Option (Int × Int)} (hw : PyData.canLay0 (.str wd) = true) (hy : ∀ y ∈ ys, PyData.canLay0 (.str y) = true) : PySem.SeqAt.shaped (secData P wd ys part) = true := by
  rcases part with _ | ⟨a, b⟩
  all_goals
    simp only [secData, partD, PySem.SeqAt.shaped, PyData.canLay0, PyData.canLayAll0, PyData.depth, PyData.depthAll, ke_canLayAll0, ke_depthAll, depthAll_strs, canLayAll_strs ys hy, Bool.and_eq_true, Bool.true_and, Bool.and_true, decide_eq_true_eq] at hw ⊢
    first | exact ⟨hw, by omega⟩ | omega
theorem signs_le : ∀ c ∈ signsL, c ≤ 233 := by decide
theorem strOf_signs {cz : List Nat} (h : ∀ c ∈ cz, c ∈ signsL) : PyData.canLay0 (.str ⟨cz.toArray⟩) = true := by
  simp only [PyData.canLay0, PyData.strOk]
  simp
  intro c hc
  have := signs_le c (h c hc)
  omega
theorem words6_can : ∀ wd ∈ words6, PyData.canLay0 (.str wd) = true := by decide +kernel
/-- the part is there -/
def PartH (h : Heap) (pt : Value) : Option (Int × Int) → Prop
  | none => pt = .none
  | some (a, b) => ∃ pp t1 t2 k, pt = .ref pp ∧ h.get? pp = some ({ cls := .type "tuple", data := .seq [.int a t1, .int b t2].toArray k } : Obj)
theorem partH_reads {h : Heap} {pt : Value} : ∀ {part : Option (Int × Int)}, PartH h pt part → ∃ as, Reads h pt (partD part) as
  | none, e => by rw [show pt = .none from e]; exact ⟨_, .none⟩
  | some (a, b), e => by
    obtain ⟨pp, t1, t2, k, rfl, e⟩ := e
    exact ⟨_, .tuple e rfl rfl (.cons (.int _ _) (.cons (.int _ _) .nil))⟩
theorem partH_of_V {h₀ h : Heap} {L : Addr} {ex news : List (Addr × Obj)} {pt : Value} (N : News h₀ L h news) (sub : ∀ p ∈ ex, p ∈ news) : ∀ {part : Option (Int × Int)}, PartV ex pt part → PartH h pt part
  | none, e => e
  | some (_, _), e => by
    obtain ⟨pp, t1, t2, k, rfl, hm⟩ := e
    exact ⟨pp, t1, t2, k, rfl, (N _ (sub _ hm)).1⟩
theorem partH_of_B {h₀ h : Heap} {L : Addr} {ex news : List (Addr × Obj)} {pt : Value} {part : Option (Int × Int)} (N : News h₀ L h news) (sub : ∀ p ∈ ex, p ∈ news) (e : PartB ex pt part) : PartH h pt part := by
  rcases e with ⟨rfl, rfl⟩ | ⟨a, b, pp, t1, t2, k, rfl, rfl, hm, _⟩
  · rfl
  · exact ⟨pp, t1, t2, k, rfl, (N _ (sub _ hm)).1⟩
theorem sec_reads {h : Heap} {a tp np : Addr} {pv nv : List Value} {P : List Int} {wd : Str} {t : Tok} {ys : List Str} {pt : Value} {part : Option (Int × Int)} (ha : IsTup h a #[.ref tp, .str wd t, .ref np, pt]) (htp : IsTup h tp pv.toArray) (hP : IntsAre pv P) (hnp : IsTup h np nv.toArray) (hN : StrsAre nv ys) (hpt : PartH h pt part) :
    ∃ as, Reads h (.ref a) (secData P wd ys part) as := by
  obtain ⟨as, hr⟩ := partH_reads hpt
  obtain ⟨o, ho, hc, n, hd⟩ := ha
  obtain ⟨o1, ho1, hc1, n1, hd1⟩ := htp
  obtain ⟨o2, ho2, hc2, n2, hd2⟩ := hnp
  exact ⟨_, .tuple ho hc hd (.cons (.tuple ho1 hc1 hd1 ((ke_carried hP).reads h)) (.cons (.str _ _) (.cons (.tuple ho2 hc2 hd2 (hN.carried.reads h)) (.cons hr .nil))))⟩
theorem eq_secs {prog : Program} {w : World} {A : Around} {E : Value → Shared → Prop} {s : Shared} {a b tp np tp' np' : Addr} {pv nv pv' nv' : List Value} {P : List Int} {wd : Str} {t t' : Tok} {ys : List Str} {pt pt' : Value} {part : Option (Int × Int)} {Q : Value → Shared → Prop}
    (ha : IsTup s.heap a #[.ref tp, .str wd t, .ref np, pt]) (htp : IsTup s.heap tp pv.toArray) (hP : IntsAre pv P) (hnp : IsTup s.heap np nv.toArray) (hN : StrsAre nv ys) (hpt : PartH s.heap pt part)
    (hb : IsTup s.heap b #[.ref tp', .str wd t', .ref np', pt']) (htp' : IsTup s.heap tp' pv'.toArray) (hP' : IntsAre pv' P) (hnp' : IsTup s.heap np' nv'.toArray) (hN' : StrsAre nv' ys) (hpt' : PartH s.heap pt' part)
    (hw : PyData.canLay0 (.str wd) = true) (hy : ∀ y ∈ ys, PyData.canLay0 (.str y) = true) (hu : A.units + 64 < cLine) (h : Q (.bool true) s) : wpAny (model prog w) A (compareOp .Eq (.ref a) (.ref b)) Q E s := by
  obtain ⟨as, ra⟩ := sec_reads ha htp hP hnp hN hpt
  obtain ⟨bs, rb⟩ := sec_reads hb htp' hP' hnp' hN' hpt'
  have sh := secData_shaped (P := P) (part := part) hw hy
  refine eq_dataH ra rb sh sh hu ?_
  rw [PySem.SeqAt.eqv_refl _ (PySem.SeqAt.canLay_of_shaped sh)]
  exact h

/-- what is made for the tape's cells -/
def TapeMid (h₀ : Heap) (L : Addr) (m : Str → Option Value) (led : List (Addr × Obj)) (s : Shared) (v : Value) (s' : Shared) : Prop :=
  ∃ (m₁ : Str → Option Value) (ce : Addr) (cv : List Value) (cns : List Int) (k : Nat) (h' : Heap) (tk' : Nat), v = .ref ce ∧ s' = { s with heap := h', toks := tk' } ∧ Fr h₀ L h' m₁ ∧ News h₀ L h' ((ce, PySem.W.listOf cv.toArray k) :: led) ∧ (∀ p ∈ led, @LT.lt Nat _ p.1 ce) ∧ IntsAre cv cns ∧ 0 < cns.length ∧ cns.length ≤ 100
theorem drop1 {h₀ h : Heap} {L : Addr} {x y : Addr × Obj} {r : List (Addr × Obj)} (N : News h₀ L h (x :: y :: r)) : News h₀ L h (x :: r) := fun p hp => N p (by
  rcases List.mem_cons.mp hp with h | h
  · rw [h]; exact .head _
  · exact .tail _ (.tail _ h))
theorem tape_open {h₀ h : Heap} {L ta ce : Addr} {t : Tok} {c cell : Addr × Obj} (N : News h₀ L h ([(ta, PySem.W.listOf #[.ref ce, .int 0 t] 0), c] ++ [cell])) : News h₀ L h (cell :: (ta, tapeO ce ((0 : Nat) : Int) t 0) :: c :: []) := fun p hp => by
  rcases List.mem_cons.mp hp with h | hp
  · exact N p (by rw [h]; simp)
  · rcases List.mem_cons.mp hp with h | hp
    · exact N p (by rw [h]; exact .head _)
    · rw [List.mem_singleton.mp hp]; exact N _ (.tail _ (.head _))
abbrev ledB {h₀ h : Heap} {L a : Addr} {x : Addr × Obj} {o : Obj} {r : List (Addr × Obj)} (_ : News h₀ L h (x :: (a, o) :: r)) : Addr := a
theorem tape_join {prog : Program} {w : World} {A : Around} {E : Value → Shared → Prop} {s : Shared} {h₀ : Heap} {L : Addr} {m : Str → Option Value} {led : List (Addr × Obj)} {x : Sem Value} {Q : Value → Shared → Prop} (_F : Fr h₀ L s.heap m) (_N : News h₀ L s.heap led)
    (h1 : wpAny (model prog w) A x (TapeMid h₀ L m led s) E s) (h2 : ∀ v s', TapeMid h₀ L m led s v s' → Q v s') : wpAny (model prog w) A x Q E s := wpAny_mono h1 h2 (fun _ _ e => e)
local macro_rules | `(tactic| walk_at "eval BoolOp") => `(tactic| (k_here; (fail_if_success (with_reducible show wpAny _ _ _ (TapeMid _ _ _ _ _) _ _)); refine Halt.go ?_))
theorem item_words {w : World} {A : Around} {E : Value → Shared → Prop} {s : Shared} {h₀ : Heap} {L : Addr} {m : Str → Option Value} {value slice : Expr} {v : Nat} {u : Tok} {Q : Value → Shared → Prop} (F : Fr h₀ L s.heap m) (X₀ : (Mine.hd.heap_1 w.params).In h₀) (h1 : (v : Int) < 6) (h : ∀ wd t, wd ∈ words6 → Q (.str wd t) s)
    (hs : subscripted slice false (.ref 295) (.int v u) = operate [.ref 295, .int v u] (getItem (.ref 295) (.int v u)) := by with_unfolding_all rfl) (hg : ∀ r, letTemporaryGo value (.ref 295) r = pure () := by intro _; with_unfolding_all rfl) :
    wpAny (model PG w) A (subscriptTail value slice (.ref 295) (.int v u)) Q E s := by
  have X := X₀.keeps F.keep
  have ht : ∃ vs : List Value, IsTup s.heap 295 vs.toArray ∧ StrsAre vs words6 := by
    refine ⟨_, tupK X (by k_is), ?_⟩
    repeat constructor
  obtain ⟨vs, ht, hi⟩ := ht
  have hvl := strsAre_length hi
  have hv : v < vs.length := by rw [hvl]; have : words6.length = 6 := rfl; omega
  obtain ⟨wd, t, hw, e⟩ := strsAre_atL hi (List.getElem?_eq_getElem hv)
  have hx : vs.toArray[v]? = some (.str wd t) := by rw [List.getElem?_toArray, List.getElem?_eq_getElem hv, e]
  have hj : seqIndex? (v : Int) vs.toArray.size = some v := by
    have h0 : ¬ (v : Int) < 0 := by omega
    have h2 : v < vs.toArray.size := by simpa using hv
    simp only [List.size_toArray] at h2
    simp [seqIndex?, h0, h2]
  exact PyProof.Rows.item_tuple ht (by omega) (by omega) hj hx (h wd t (List.mem_of_getElem? hw)) hs hg
local macro_rules | `(tactic| walk_at "subscriptTail Name Call ref int") => `(tactic| (k_here; (with_reducible show wpAny _ _ (subscriptTail _ _ (Value.ref 295) (Value.int _ _)) _ _ _); k_dflt (refine' item_words (by k_asm) (by k_asm) (by omega) ?_); intro _ _ _))
local macro_rules | `(tactic| k_qdec) => `(tactic| decide +kernel)

theorem menu_mem {v : Nat} (h : (v : Int) < 4) : [(1 : Int), 2, 40, 4294967295].getD (v : Int).toNat 0 ∈ [(1 : Int), 2, 40, 4294967295] := by
  have h4 : v < 4 := by omega
  rcases v with _ | _ | _ | _ | v
  · decide
  · decide
  · decide
  · decide
  · omega
/-- what is made for the wanted part -/
def PartMid (h₀ : Heap) (L : Addr) (m : Str → Option Value) (c0 : Addr × Obj) (ta ce : Addr) (ceO : Addr × Obj) (tpO : Addr × Obj) (s : Shared) (v : Value) (s' : Shared) : Prop :=
  ∃ (part : Option (Int × Int)) (R : List (Addr × Obj)) (j : Nat) (tj : Tok) (h' : Heap) (tk' : Nat), s' = { s with heap := h', toks := tk' } ∧ Fr h₀ L h' m ∧ News h₀ L h' (c0 :: (ta, tapeO ce j tj 0) :: R) ∧ (∀ p ∈ R, p.1 ≠ ta) ∧ c0.1 ≠ ta ∧ ceO ∈ R ∧ tpO ∈ R ∧ PartB R v part ∧
    (part = none ∨ ∃ a b, part = some (a, b) ∧ a ∈ [(0 : Int), 7, 4294967295] ∧ 1 ≤ b ∧ b ≤ 99) ∧ j ≤ 20
theorem part_join {prog : Program} {w : World} {A : Around} {E : Value → Shared → Prop} {s : Shared} {h₀ : Heap} {L : Addr} {m : Str → Option Value} {c0 ceO tpO y : Addr × Obj} {ta ce : Addr} {o : Obj} {r : List (Addr × Obj)} {x : Sem Value} {Q : Value → Shared → Prop} (_F : Fr h₀ L s.heap m) (_N : News h₀ L s.heap (tpO :: y :: c0 :: (ta, o) :: ceO :: r))
    (h1 : wpAny (model prog w) A x (PartMid h₀ L m c0 ta ce ceO tpO s) E s) (h2 : ∀ v s', PartMid h₀ L m c0 ta ce ceO tpO s v s' → Q v s') : wpAny (model prog w) A x Q E s := wpAny_mono h1 h2 (fun _ _ e => e)
local macro_rules | `(tactic| walk_at "eval IfExp") => `(tactic| (k_here; (with_reducible show wpAny _ _ (eval (Expr.IfExp (Expr.Compare (Expr.Call _ _ _ _) _ _ _) _ _ _) _) _ _ _); (fail_if_success (with_reducible show wpAny _ _ _ (PartMid _ _ _ _ _ _ _ _ _) _ _)); refine Halt.go ?_))
local macro_rules | `(tactic| walk_at "PartMid") => `(tactic| (refine Halt.go ?_))

theorem menu3_mem {v : Nat} (h : (v : Int) < 3) : [(0 : Int), 7, 4294967295].getD (v : Int).toNat 0 ∈ [(0 : Int), 7, 4294967295] := by
  have h4 : v < 3 := by omega
  rcases v with _ | _ | _ | v
  · decide
  · decide
  · decide
  · omega
theorem pick5 {h₀ h : Heap} {L : Addr} {a b c d e : Addr × Obj} {r : List (Addr × Obj)} (N : News h₀ L h (a :: b :: c :: d :: e :: r)) : News h₀ L h (c :: d :: [e, a]) := fun p hp => N p (by
  simp only [List.mem_cons, List.not_mem_nil, or_false] at hp ⊢
  rcases hp with h | h | h | h <;> simp [h])
theorem pick7 {h₀ h : Heap} {L : Addr} {y z a b c d e : Addr × Obj} {r : List (Addr × Obj)} (N : News h₀ L h (y :: z :: a :: b :: c :: d :: e :: r)) : News h₀ L h (c :: d :: [e, a, y]) := fun p hp => N p (by
  simp only [List.mem_cons, List.not_mem_nil, or_false] at hp ⊢
  rcases hp with h | h | h | h | h <;> simp [h])

/-- what a statement «x = ..» leaves that binds a text -/
def AsgMid (h₀ : Heap) (L : Addr) (m : Str → Option Value) (x z : Str) (news : List (Addr × Obj)) (s : Shared) (fl : Flow) (s' : Shared) : Prop :=
  fl = .next ∧ ∃ t h' tk', s' = { s with heap := h', toks := tk' } ∧ Fr h₀ L h' (fun y => if y = x then some (.str z t) else m y) ∧ News h₀ L h' news
theorem asg_join {prog : Program} {w : World} {A : Around} {E : Value → Shared → Prop} {s : Shared} {h₀ : Heap} {L : Addr} {m : Str → Option Value} {news : List (Addr × Obj)} {t : Sem Flow} {Q : Flow → Shared → Prop} (_F : Fr h₀ L s.heap m) (_N : News h₀ L s.heap news) (x z : Str)
    (h1 : wpAny (model prog w) A t (AsgMid h₀ L m x z news s) E s) (h2 : ∀ t h' tk', Fr h₀ L h' (fun y => if y = x then some (.str z t) else m y) → News h₀ L h' news → Q .next { s with heap := h', toks := tk' }) : wpAny (model prog w) A t Q E s :=
  wpAny_mono h1 (fun fl s' hq => by obtain ⟨rfl, t, h', tk', rfl, F, N⟩ := hq; exact h2 t h' tk' F N) (fun _ _ e => e)
local macro_rules | `(tactic| walk_at "exec Assign") => `(tactic| (k_here; (with_reducible show wpAny _ _ (exec (Stmt.Assign [Expr.Name (PySem.Str.ofString "text") _] (Expr.Call _ _ _ _) _) _) _ _ _); (fail_if_success (with_reducible show wpAny _ _ _ (AsgMid _ _ _ _ _ _ _) _ _)); refine Halt.go ?_))
local macro_rules | `(tactic| walk_at "exec Assign") => `(tactic| (k_here; (with_reducible show wpAny _ _ (exec (Stmt.Assign [Expr.Name (PySem.Str.ofString "whole") _] _ _) _) _ _ _); (fail_if_success (with_reducible show wpAny _ _ _ (AsgMid _ _ _ _ _ _ _) _ _)); refine Halt.go ?_))
local macro_rules | `(tactic| walk_at "exec Assign") => `(tactic| (k_here; (with_reducible show wpAny _ _ (exec (Stmt.Assign [Expr.Name (PySem.Str.ofString "answer") _] _ _) _) _ _ _); (fail_if_success (with_reducible show wpAny _ _ _ (AsgMid _ _ _ _ _ _ _) _ _)); refine Halt.go ?_))
local macro_rules | `(tactic| walk_at "AsgMid") => `(tactic| (refine Halt.go ?_))
local macro_rules | `(tactic| walk_at "call ref") => `(tactic| (k_here; (with_reducible refine cr1 307 ?_); k_dflt (refine' law_name_c (by walk_at "amb") (by ktr_room) (by ktr_units) ?b1 ?b2 ?b3 ?b4 ?b5 ?b6 ?b7 ?_; (case b2 => k_updF); (case b1 => k_mem); (case b3 => (intro q9; exact absurd (congrArg Prod.fst q9) (by assumption))); (case b4 => assumption); (case b5 => assumption); (case b6 => assumption); (case b7 => first | assumption | omega); walk_at "fin11")))
theorem iter_rangeI {w : World} {A : Around} {s₁ : Shared} {h₀ : Heap} {L : Addr} {r : Addr} {N : Int} {t u v : Tok} (hh : A.handled = none) (hr : IsRange s₁.heap r 0 N 1 t u v) (h0 : 0 ≤ N) (hn : N ≤ 100000) :
    Iter w A h₀ L (.ref r) s₁ N.toNat (fun i v => ∃ t, v = .int (i : Nat) t) (fun _ => True) :=
  iter_range hh (n := N.toNat) (by rw [Int.toNat_of_nonneg h0]; exact hr) (by omega)
theorem pickS {h₀ h : Heap} {L : Addr} {a b c d e f : Addr × Obj} {r : List (Addr × Obj)} (N : News h₀ L h (a :: b :: c :: d :: e :: f :: r)) : News h₀ L h (a :: b :: c :: r) := fun p hp => N p (by
  simp only [List.mem_cons] at hp ⊢
  rcases hp with h | h | h | h <;> simp [h])

theorem slice_words : ∀ wd ∈ words6, (Txt.slice wd none (some 7) == Str.ofString "HEADER.") = words2.any (· == wd) := by decide +kernel
theorem full_plain {P : List Int} {wd : Str} {czs : List (List Nat)} (h : (words2.any (· == wd)) = false) : textS P wd = fullS P wd czs := by
  refine str_of_codes ?_
  show (Txt.join (Str.ofString ".") (wordsS P wd)).cps.toList = bodyC P wd czs
  rw [join_codes, c_dot, bodyC, h, if_neg Bool.false_ne_true, List.append_nil]
/-- what the statement leaves that shows the names -/
def IfMid (h₀ : Heap) (L : Addr) (m : Str → Option Value) (P : List Int) (wd : Str) (czs : List (List Nat)) (news : List (Addr × Obj)) (s : Shared) (fl : Flow) (s' : Shared) : Prop :=
  (fl = .next ∧ ∃ t sv h' tk', s' = { s with heap := h', toks := tk' } ∧ Fr h₀ L h' (fun y => if y = Str.ofString "shown" then sv else if y = Str.ofString "text" then some (.str (fullS P wd czs) t) else m y) ∧ News h₀ L h' news ∧
    ((words2.any (· == wd)) = true → ∀ cz ∈ czs, ∀ c ∈ cz, 32 ≤ c ∧ c < 127)) ∨
  (fl = .ret (.bool true) ∧ ∃ h' tk' m', s' = { s with heap := h', toks := tk' } ∧ Fr h₀ L h' m')
theorem if_join {prog : Program} {w : World} {A : Around} {E : Value → Shared → Prop} {s : Shared} {h₀ : Heap} {L : Addr} {m : Str → Option Value} {P : List Int} {wd : Str} {czs : List (List Nat)} {v : Option Value} {news : List (Addr × Obj)} {t : Sem Flow} {Q : Flow → Shared → Prop} (_F : Fr h₀ L s.heap (fun y => if y = Str.ofString "text" then v else m y)) (_N : News h₀ L s.heap news)
    (h1 : wpAny (model prog w) A t (IfMid h₀ L m P wd czs news s) E s) (h2 : ∀ fl s', IfMid h₀ L m P wd czs news s fl s' → Q fl s') : wpAny (model prog w) A t Q E s := wpAny_mono h1 h2 (fun _ _ e => e)
theorem fr_shown0 {h₀ h : Heap} {L : Addr} {m : Str → Option Value} {a : Option Value} (F : Fr h₀ L h (fun y => if y = Str.ofString "text" then a else m y)) :
    Fr h₀ L h (fun y => if y = Str.ofString "shown" then m (Str.ofString "shown") else if y = Str.ofString "text" then a else m y) := by
  have e : (fun y => if y = Str.ofString "shown" then m (Str.ofString "shown") else if y = Str.ofString "text" then a else m y) = (fun y => if y = Str.ofString "text" then a else m y) := by
    funext y
    by_cases q : y = Str.ofString "shown"
    · rw [if_pos q, q, if_neg (by decide)]
    · rw [if_neg q]
  rw [e]; exact F
theorem fr_shown1 {h₀ h : Heap} {L : Addr} {m : Str → Option Value} {a b c : Option Value} (F : Fr h₀ L h (fun y => if y = Str.ofString "text" then a else if y = Str.ofString "shown" then b else if y = Str.ofString "text" then c else m y)) :
    Fr h₀ L h (fun y => if y = Str.ofString "shown" then b else if y = Str.ofString "text" then a else m y) := by
  have e : (fun y => if y = Str.ofString "shown" then b else if y = Str.ofString "text" then a else m y) = (fun y => if y = Str.ofString "text" then a else if y = Str.ofString "shown" then b else if y = Str.ofString "text" then c else m y) := by
    funext y
    by_cases q : y = Str.ofString "shown"
    · rw [if_pos q, q, if_neg (by decide), if_pos rfl]
    · rw [if_neg q, if_neg q]
      by_cases q2 : y = Str.ofString "text"
      · rw [if_pos q2, if_pos q2]
      · rw [if_neg q2, if_neg q2, if_neg q2]
  rw [e]; exact F
local macro_rules | `(tactic| walk_at "exec If") => `(tactic| (k_here; (with_reducible show wpAny _ _ (exec (Stmt.If (Expr.Compare (Expr.Subscript _ _ _) _ _ _) _ _ _) _) _ _ _); (fail_if_success (with_reducible show wpAny _ _ _ (IfMid _ _ _ _ _ _ _ _) _ _)); refine Halt.go ?_))
local macro_rules | `(tactic| walk_at "IfMid") => `(tactic| (refine Halt.go ?_))

/-- what the law's own reading of a name is -/
def shownD (cz : List Nat) : PyData := if (cz.filter (fun c => !goodN c)).map sgn = [] then .str ⟨(shownC cz).toArray⟩ else .none
theorem carried_snoc : ∀ {vs : List Value} {ds : List PyData} {v : Value} {d : PyData}, CarriedAll vs ds → Carried v d → CarriedAll (vs ++ [v]) (ds ++ [d])
  | _, _, _, _, .nil, c => .cons c .nil
  | _, _, _, _, .cons a r, c => .cons a (carried_snoc r c)
theorem carried_strs {f : List Nat → Str} : ∀ {vs : List Value} {as : List (List Nat)}, CarriedAll vs (as.map fun a => PyData.str (f a)) → StrsAre vs (as.map f)
  | _, [], .nil => .nil
  | _, _ :: _, .cons (.str _ t) r => .cons _ t (carried_strs r)
theorem in_none {prog : Program} {w : World} {A : Around} {E : Value → Shared → Prop} {s : Shared} {a : Addr} {vs : List Value} {ds : List PyData} {Q : Value → Shared → Prop} (hl : s.heap.IsList a vs.toArray) (hi : CarriedAll vs ds) (hc : PyData.canLayAll0 ds = true) (hu : A.units + 64 < cLine)
    (h : Q (.bool (ds.any fun y => PyData.eqv y .none)) s) : wpAny (model prog w) A (compareOp .In .none (.ref a)) Q E s :=
  PySem.SeqAt.in_list_reads (reads_newData hl hi) .none hc rfl (by
    have : min (PyData.depthAll ds) (PyData.depth .none) ≤ 0 := Nat.min_le_right _ _
    omega) h
theorem goodN_iff {c : Nat} : goodN c = true ↔ 32 ≤ c ∧ c < 127 := by simp [goodN]
theorem shown_can {cz : List Nat} (h : (cz.filter (fun c => !goodN c)).map sgn = []) : PyData.canLay0 (.str ⟨(shownC cz).toArray⟩) = true := by
  have hg : ∀ c ∈ cz, 32 ≤ c ∧ c < 127 := fun c hc => goodN_iff.mp (all_good h c hc)
  have := shown_codes hg
  simp only [PyData.canLay0, PyData.strOk]
  simp
  intro c hc
  have := this c hc
  omega
theorem shownD_can : ∀ czs : List (List Nat), PyData.canLayAll0 (czs.map shownD) = true
  | [] => rfl
  | cz :: r => by
    rw [List.map_cons, PyData.canLayAll0, shownD_can r, Bool.and_true]
    unfold shownD
    split
    · rename_i h; exact shown_can h
    · rfl
theorem any_none_false {czs : List (List Nat)} (h : ∀ cz ∈ czs, (cz.filter (fun c => !goodN c)).map sgn = []) : ((czs.map shownD).any fun y => PyData.eqv y .none) = false := by
  rw [List.any_eq_false]
  intro d hd
  obtain ⟨cz, hc, rfl⟩ := List.mem_map.mp hd
  unfold shownD
  rw [if_pos (h cz hc)]
  simp [PyData.eqv]
theorem any_none_true {czs : List (List Nat)} (h : ¬ ∀ cz ∈ czs, (cz.filter (fun c => !goodN c)).map sgn = []) : ((czs.map shownD).any fun y => PyData.eqv y .none) = true := by
  rw [List.any_eq_true]
  simp only [Classical.not_forall] at h
  obtain ⟨cz, hc, hn⟩ := h
  refine ⟨_, List.mem_map_of_mem hc, ?_⟩
  unfold shownD
  rw [if_neg hn]
  simp [PyData.eqv]
theorem shownD_good {czs : List (List Nat)} (h : ∀ cz ∈ czs, (cz.filter (fun c => !goodN c)).map sgn = []) : czs.map shownD = czs.map fun cz => PyData.str ⟨(shownC cz).toArray⟩ :=
  List.map_congr_left fun cz hc => by unfold shownD; rw [if_pos (h cz hc)]
theorem full_fields {P : List Int} {wd : Str} {czs : List (List Nat)} (h : (words2.any (· == wd)) = true) : textS P wd ++ Str.ofString " (" ++ Txt.join (Str.ofString " ") (czs.map fun cz => ⟨(shownC cz).toArray⟩) ++ Str.ofString ")" = fullS P wd czs := by
  refine str_of_codes ?_
  show _ = bodyC P wd czs
  have e1 : (textS P wd).cps.toList = joinC [46] ((wordsS P wd).map (·.cps.toList)) := by
    show (Txt.join (Str.ofString ".") (wordsS P wd)).cps.toList = _
    rw [join_codes, c_dot]
  have e2 := join_codes (Str.ofString " ") (czs.map fun cz => (⟨(shownC cz).toArray⟩ : Str))
  rw [c_sp, List.map_map] at e2
  have e3 : (czs.map ((fun x : Str => x.cps.toList) ∘ fun cz => (⟨(shownC cz).toArray⟩ : Str))) = czs.map shownC := rfl
  rw [e3] at e2
  simp only [Str.cps_append, Array.toList_append, e1, e2, c_op, c_cl, bodyC, h, if_true, List.append_assoc, List.cons_append, List.nil_append]
local macro_rules | `(tactic| walk_at "call ref") => `(tactic| (k_here; (with_reducible refine cr1 312 ?_); k_dflt (refine' law_shown_c (by walk_at "amb") (by ktr_room) (by ktr_units) ‹_› ‹_› ‹_› ?_ ?_; (all_goals k_whole); (intro h' tk' F' N' hb'; (try k_fold); (try k_sweep)); (all_goals (try (intro t' h' tk' F' N' hb'; (try k_fold); (try k_sweep)))))))
local macro_rules | `(tactic| walk_at "compareOp In none ref") => `(tactic| (k_here; k_dflt (refine' in_none (News.isList (by k_asm) (by k_mem)) ‹_› (shownD_can _) (by ktr_units) ?_; k_whole)))

theorem partB_handed {ex : List (Addr × Obj)} {pt : Value} {part : Option (Int × Int)} (h : PartB ex pt part) : handedIn pt = true := by
  rcases h with ⟨rfl, _⟩ | ⟨_, _, _, _, _, _, _, rfl, _⟩ <;> rfl
theorem bad_ex {czs : List (List Nat)} (h : ¬ ∀ cz ∈ czs, (cz.filter (fun c => !goodN c)).map sgn = []) : ∃ cz ∈ czs, ¬ ∀ c ∈ cz, 32 ≤ c ∧ c < 127 := by
  simp only [Classical.not_forall] at h
  obtain ⟨cz, hc, hn⟩ := h
  refine ⟨cz, hc, fun q => hn ?_⟩
  rw [List.filter_eq_nil_iff.mpr fun c hcc => by simpa using goodN_iff.mpr (q c hcc)]
  rfl
local macro_rules | `(tactic| walk_at "call ref") => `(tactic| (k_here; (with_reducible refine cr1 294 ?_); k_dflt (refine' show_section_bad (by walk_at "amb") (by ktr_room) (by ktr_units) (by k_mem) (by k_mem) (by k_mem) (by k_mem) ‹_› ‹_› ‹_› (by omega) ‹_› ‹_› (by omega) ‹_› ‹_› ‹_› ?bf; k_whole; (intro e' h' tk' fl' nL' up' nn'; refine Halt.go ?_))))

/-- what a statement leaves that goes on as it was, or leaves with True -/
def MidOr (h₀ : Heap) (L : Addr) (m : Str → Option Value) (news : List (Addr × Obj)) (C : Prop) (s : Shared) (fl : Flow) (s' : Shared) : Prop :=
  (fl = .next ∧ ∃ h' tk', s' = { s with heap := h', toks := tk' } ∧ Fr h₀ L h' m ∧ News h₀ L h' news ∧ C) ∨ (fl = .ret (.bool true) ∧ ∃ h' tk' m', s' = { s with heap := h', toks := tk' } ∧ Fr h₀ L h' m')
theorem or_join {prog : Program} {w : World} {A : Around} {E : Value → Shared → Prop} {s : Shared} {h₀ : Heap} {L : Addr} {m : Str → Option Value} {news : List (Addr × Obj)} {t : Sem Flow} {Q : Flow → Shared → Prop} (C : Prop) (_F : Fr h₀ L s.heap m) (_N : News h₀ L s.heap news)
    (h1 : wpAny (model prog w) A t (MidOr h₀ L m news C s) E s) (h2 : ∀ fl s', MidOr h₀ L m news C s fl s' → Q fl s') : wpAny (model prog w) A t Q E s := wpAny_mono h1 h2 (fun _ _ e => e)
local macro_rules | `(tactic| walk_at "exec If") => `(tactic| (k_here; (with_reducible show wpAny _ _ (exec (Stmt.If (Expr.BoolOp _ _ _) _ _ _) _) _ _ _); (fail_if_success (with_reducible show wpAny _ _ _ (MidOr _ _ _ _ _ _) _ _)); refine Halt.go ?_))
local macro_rules | `(tactic| walk_at "MidOr") => `(tactic| (refine Halt.go ?_))

local macro_rules | `(tactic| walk_at "call ref") => `(tactic| (k_here; (with_reducible refine cr1 294 ?_); k_dflt (refine' show_section_k (ans := false) (by walk_at "amb") (by ktr_room) (by ktr_units) (.inl ⟨rfl, rfl⟩) (by k_mem) (by k_mem) (.tail _ (.tail _ (.tail _ (by assumption)))) (by k_mem) ‹_› ‹_› (PartB.mono (by assumption) (by intro p hp; exact .tail _ (.tail _ (.tail _ hp)))) ‹_› ?_; walk_at "fin5")))
local macro_rules | `(tactic| walk_at "call ref") => `(tactic| (k_here; (with_reducible refine cr2 294 ?_); k_dflt (refine' show_section_k (ans := true) (by walk_at "amb") (by ktr_room) (by ktr_units) (.inr ⟨rfl, rfl⟩) (by k_mem) (by k_mem) (.tail _ (.tail _ (.tail _ (by assumption)))) (by k_mem) ‹_› ‹_› (PartB.mono (by assumption) (by intro p hp; exact .tail _ (.tail _ (.tail _ hp)))) ‹_› ?_; walk_at "fin5")))

theorem partV_handed {ex : List (Addr × Obj)} {pt : Value} : ∀ {part : Option (Int × Int)}, PartV ex pt part → handedIn pt = true
  | none, h => by rw [show pt = .none from h]; rfl
  | some (a, b), h => by obtain ⟨pp, t1, t2, k, rfl, _⟩ := h; rfl
local macro_rules | `(tactic| walk_at "compareOp Eq ref ref") => `(tactic| (k_here; (rename PartV _ _ _ => hv9); refine Halt.go ?_))
local macro_rules | `(tactic| walk_at "call ref") => `(tactic| (k_here; (with_reducible refine cr1 276 ?_); k_dflt (refine' read_c (by walk_at "amb") (by ktr_room) (by ktr_units) ‹_› ‹_› ‹_› ‹_› ‹_› ‹_› ‹_› ‹_› ‹_› ?_; k_whole; intro y' dy' tp' np' pv' pk' nv' nk' k1' k2' k3' k4' tw' pt' ex' h' tk' F' N' hv' hi' hn'; have hpv' := partV_handed hv'; (try k_fold); (try k_sweep))))

theorem calm_L : True := by w_top off; trivial
theorem law_ends : PySem.Challenge.rw_nz0297_01.Holds := Mine.hd (by
  k_go0
  (all_goals try k_fold)
  k_steps
  unfold Halt
  rename News _ _ _ _ => N9
  rename Fr _ _ _ _ => F9
  rename IntsAre _ _ => I9
  refine tape_join F9 N9 ?_ ?_
  · k_steps
    all_goals rename News _ _ _ _ => N7
    · exact ⟨_, _, _, _, _, _, _, rfl, rfl, by k_asm, drop1 N7, (by intro p hp; rw [List.mem_singleton.mp hp]; dsimp only; omega), by assumption, by assumption, by rw [List.length_take]; omega⟩
    · exact ⟨_, _, _, _, _, _, _, rfl, rfl, by k_asm, drop1 (drop1 N7), (by intro p hp; rw [List.mem_singleton.mp hp]; dsimp only; omega), .cons _ _ .nil, by decide, by decide⟩
  · clear N9 F9
    rintro v s' ⟨m₁, ce, cv, cns, k, h', tk', rfl, rfl, F9, N9, lt9, hcv, hl, hl2⟩
    try k_fold
    k_steps
    unfold Halt
    rename News _ _ _ _ => N9
    have N8 := tape_open N9
    obtain ⟨ta, hta⟩ : ∃ ta, ta = ledB N8 := ⟨_, rfl⟩
    dsimp only [ledB] at hta
    subst hta
    clear N9
    rename _ ∧ _ => l9
    have l9a := l9.1
    have l9b := l9.2
    clear lt9
    have hcR0 : (ce, PySem.W.listOf cv.toArray k).fst ≠ ta := Nat.ne_of_lt l9a
    k_dflt (refine ListComp_G (by k_asm) (by with_unfolding_all rfl) (by decide) (by rfl) (by decide) (by rfl) ?_)
    k_steps
    rename News _ _ _ _ => N9
    rename IsRange _ _ _ _ _ _ _ _ => R9
    refine ⟨_, _, _, _, by k_asm, N9, trivial, iter_range rfl R9 (by omega), fun g9 => ?_⟩
    refine comp_inv (fun i' ys nw => ∃ (j : Nat) (tj : Tok) (P : List Int), nw = _ :: (_, tapeO ce j tj 0) :: (ce, PySem.W.listOf cv.toArray k) :: [] ∧ IntsAre ys P ∧ P.length = i' ∧ (∀ p ∈ P, p ∈ [1, 2, 40, 4294967295]) ∧ j = 0 + 1 + i') ⟨0 + 1, _, [], rfl, .nil, rfl, (fun c hc => by cases hc), rfl⟩ ?_ ?_
    · rintro i' ys nw v I oI C oC D m₂ h tk E' hi' ⟨j, tj, P, rfl, hys, hPl, hP, hj⟩ ⟨u, rfl⟩ hC hm F7 N7 off ne
      have hj9 : j ≤ 1000 := by omega
      have offs := off
      simp only [LCg.Off3] at offs
      obtain ⟨⟨o1, o2, o3⟩, ⟨o4, o5, o6⟩, ⟨o7, o8, o9⟩, offR⟩ := offs
      clear N9 R9
      try k_fold
      k_steps
      rename News _ _ _ _ => N8
      refine comp_end (by k_asm) N8 (fun p hp => .tail _ hp) off trivial ⟨j + 1, _, P ++ [_], rfl, intsAre_snoc hys, by rw [List.length_append, hPl]; rfl, fun c' hc' => ?_, by omega⟩
      rcases List.mem_append.mp hc' with q | q
      · exact hP _ q
      · rw [List.mem_singleton.mp q]; exact menu_mem (by assumption)
    · rintro ys nw ⟨j, tj, P, rfl, hys, hPl, hP, hj⟩
      clear N9 R9
      have hyl : ys.length = P.length := hys.length
      have hj9 : j ≤ 6 := by omega
      clear hj
      k_steps
      unfold Halt
      rename News _ _ _ _ => N9
      rename Fr _ _ _ _ => F9
      try dsimp only at N9
      rename _ ∈ words6 => hwd
      rename _ ∧ _ ∧ _ ∧ _ => l9
      obtain ⟨l9c, l9d, l9e, l9f⟩ := l9
      refine part_join (ce := ce) F9 N9 ?_ ?_
      · k_steps
        all_goals rename News _ _ _ _ => N8
        · refine ⟨none, _, _, _, _, _, rfl, by k_asm, pick5 N8, ?_, Nat.ne_of_lt l9b, .head _, .tail _ (.head _), .inl ⟨rfl, rfl⟩, .inl rfl, by omega⟩
          intro p hp
          simp only [List.mem_cons, List.not_mem_nil, or_false] at hp
          rcases hp with rfl | rfl
          · exact hcR0
          · exact Nat.ne_of_gt l9e
        · have hm3 := @menu3_le _ (menu3_mem (by assumption))
          refine ⟨some (_, _), _, _, _, _, _, rfl, by k_asm, pick7 N8, ?_, Nat.ne_of_lt l9b, .head _, .tail _ (.head _), .inr ⟨_, _, _, _, _, _, rfl, rfl, .tail _ (.tail _ (.head _)), hm3.1, hm3.2, by omega, by omega⟩, .inr ⟨_, _, rfl, menu3_mem (by assumption), by omega, by omega⟩, by omega⟩
          intro p hp
          simp only [List.mem_cons, List.not_mem_nil, or_false] at hp
          rcases hp with rfl | rfl | rfl
          · exact hcR0
          · exact Nat.ne_of_gt l9e
          · refine Nat.ne_of_gt ?_
            dsimp only
            omega
      · clear N9 F9
        rintro pt s' ⟨part, R, j9, tj9, h9, tk9, rfl, F9, N9, hR, hc0, hceR, htpR, hPB, hpart, hj⟩
        try k_fold
        k_steps
        unfold Halt
        rename News _ _ _ _ => N9
        rename Fr _ _ _ _ => F9
        k_dflt (refine ListComp_G (by k_asm) (by with_unfolding_all rfl) (by decide) (by rfl) (by decide) (by rfl) ?_)
        k_steps
        rename News _ _ _ _ => N9
        rename IsRange _ _ _ _ _ _ _ _ => R9
        refine ⟨_, _, _, _, by k_asm, N9, trivial, iter_rangeI rfl R9 (by omega) (by omega), fun g9 => ?_⟩
        refine comp_inv (fun i' ys nw => ∃ (j : Nat) (tj : Tok) (czs : List (List Nat)), nw = (_, _) :: (ta, tapeO ce j tj 0) :: R ∧ StrsAre ys (czs.map fun cz => ⟨cz.toArray⟩) ∧ czs.length = i' ∧ NamesMade czs ∧ j ≤ j9 + 1 + 6 * i') ⟨j9 + 1, _, [], rfl, .nil, rfl, (fun c hc => by cases hc), by omega⟩ ?_ ?_
        · rintro i' ys7 nw v I oI C oC D m₂ h tk E' hi' ⟨j7, tj7, czs, rfl, hys7, hczl, hcz, hj7⟩ ⟨u, rfl⟩ hC hm F7 N7 off ne
          have hj8 : j7 ≤ 900 := by omega
          have offs := off
          simp only [LCg.Off3] at offs
          obtain ⟨⟨o1, o2, o3⟩, ⟨o4, o5, o6⟩, offR⟩ := offs
          clear N9 R9
          try k_fold
          k_steps
          rename News _ _ _ _ => N8
          rename ∀ c ∈ _, c ∈ signsL => hcs9
          refine comp_end (by k_asm) N8 (fun p hp => hp) off trivial ⟨_, _, czs ++ [_], rfl, by rw [List.map_append]; exact strsAre_snoc hys7, by rw [List.length_append, hczl]; rfl, fun c' hc' => ?_, by omega⟩
          rcases List.mem_append.mp hc' with q | q
          · exact hcz _ q
          · rw [List.mem_singleton.mp q]; exact ⟨hcs9, by assumption⟩
        · rintro ys7 nw ⟨j7, tj7, czs, rfl, hys7, hczl, hcz, hj7⟩
          have hczl4 : czs.length ≤ 4 := by omega
          have hysl := strsAre_length hys7
          rw [List.length_map] at hysl
          clear N9 R9
          k_steps
          unfold Halt
          rename News _ _ _ _ => N9
          rename Fr _ _ _ _ => F9
          have N8 := pickS N9
          have hP5 : P.length ≤ 5 := by omega
          clear N9 hR hc0 hceR hcv hl hl2 l9 l9a l9b l9c l9d l9e l9f hcR0 hyl hj9 hj hj7
          try dsimp only at N8
          rename Str => wd9
          have hnum := num_len hP
          have hwl := words6_len wd9 hwd
          refine asg_join F9 N8 (Str.ofString "text") (textS P wd9) ?_ ?_
          · k_steps
            unfold Halt
            k_dflt (refine ListComp_G (by k_asm) (by with_unfolding_all rfl) (by decide) (by rfl) (by decide) (by rfl) ?_)
            k_steps
            rename News _ _ _ _ => N9
            refine ⟨_, _, _, _, by k_asm, N9, .tail _ (.tail _ (.tail _ htpR)), iter_tupleK rfl (by rw [sizeLine_eq, hys.length]; omega) N9 (.tail _ (.tail _ (.tail _ htpR))), fun g9 => ?_⟩
            refine comp_inv (fun i ys nw => nw = _ ∧ StrsAre ys ((P.map numS).take i)) ⟨rfl, .nil⟩ ?_ ?_
            · rintro i ys nw v I oI C oC D m₂ h tk E' hi ⟨rfl, hys2⟩ hv hC hm F7 N7 off ne
              obtain ⟨n, u, hn, rfl⟩ := intsAre_atL hys hv
              obtain ⟨hn0, hn1⟩ := menu_le (hP n (List.mem_of_getElem? hn))
              try k_fold
              k_steps
              refine comp_end (by k_asm) N7 (fun p hp => hp) off (.tail _ (.tail _ (.tail _ htpR))) ⟨rfl, ?_⟩
              rw [List.take_add_one, show (P.map numS)[i]? = some (numS n) by simp [hn]]
              exact strsAre_snoc hys2
            · rintro ys2 nw ⟨rfl, hys2⟩
              rw [show (P.map numS).take ys.length = P.map numS from List.take_of_length_le (by rw [List.length_map, hys.length]; exact Nat.le_refl _)] at hys2
              have hyl := strsAre_length hys2
              rw [List.length_map] at hyl
              clear N9
              have hall : ∀ x ∈ P.map numS ++ [wd9], x.length ≤ 20 := by
                intro x hx
                rcases List.mem_append.mp hx with hx | hx
                · exact hnum x hx
                · rw [List.mem_singleton.mp hx]; exact hwl
              have hall0 : ∀ x ∈ P.map numS ++ [], x.length ≤ 20 := by rw [List.append_nil]; exact hnum
              have hok0 := join_okN hall0 (by decide) (by simp; omega)
              have hok1 := join_okN hall (by decide) (by simp; omega)
              by_cases hw0 : wd9 = Str.ofString ""
              · have hne9 : (wd9 != Str.ofString "") = false := by simp [hw0]
                have etx : textS P wd9 = Txt.join (Str.ofString ".") (P.map numS ++ []) := by unfold textS wordsS; rw [if_pos hw0]
                k_steps
                unfold Halt
                rename News _ _ _ _ => N7
                rw [etx]
                exact ⟨rfl, _, _, _, rfl, by k_asm, fun p hp => N7 p (.tail _ (.tail _ (.tail _ hp)))⟩
              · have hne9 : (wd9 != Str.ofString "") = true := by simp [hw0]
                have etx : textS P wd9 = Txt.join (Str.ofString ".") (P.map numS ++ [wd9]) := by unfold textS wordsS; rw [if_neg hw0]
                k_steps
                unfold Halt
                rename News _ _ _ _ => N7
                rw [etx]
                exact ⟨rfl, _, _, _, rfl, by k_asm, fun p hp => N7 p (.tail _ (.tail _ (.tail _ hp)))⟩
          · clear F9 N8
            intro tt h9 tk9 F9 N9
            try k_fold
            k_steps
            unfold Halt
            rename News _ _ _ _ => N9
            rename Fr _ _ _ _ => F9
            clear hnum
            refine if_join (P := P) (wd := wd9) (czs := czs) F9 N9 ?_ ?_
            · k_steps
              all_goals unfold Halt
              all_goals rename News _ _ _ _ => N7
              all_goals rename Fr _ _ _ _ => F7
              · rename _ = true => hsl9
                have hw2 := slice_words wd9 hwd
                rw [hsl9] at hw2
                clear hsl9
                k_dflt (refine Assign_ListComp_G (by k_asm) (by rfl) (by with_unfolding_all rfl) (by with_unfolding_all rfl) (by decide) (by rfl) (by decide) (by rfl) (by rfl) (by rfl) ?_)
                k_steps
                rename News _ _ _ _ => N9
                refine ⟨_, _, _, _, by k_asm, N9, .tail _ (.tail _ (.head _)), iter_tupleK rfl (by rw [sizeLine_eq]; omega) N9 (.tail _ (.tail _ (.head _))), fun g9 => ?_⟩
                refine comp_inv (fun i ys nw => nw = _ ∧ CarriedAll ys ((czs.map shownD).take i)) ⟨rfl, .nil⟩ ?_ ?_
                · rintro i ys2 nw v I oI C oC D m₂ h tk E' hi ⟨rfl, hys2⟩ hv hC hm F8 N8 off ne
                  obtain ⟨z, u, hz, rfl⟩ := strsAre_atL hys7 hv
                  rw [List.getElem?_map] at hz
                  obtain ⟨cz, hcz8, rfl⟩ := Option.map_eq_some_iff.mp hz
                  have hq1 : (⟨cz.toArray⟩ : Str).cps.toList = cz := rfl
                  have hq4 := hcz cz (List.mem_of_getElem? hcz8)
                  have hq2 : cz.length ≤ 100 := Nat.le_trans hq4.2 (by decide)
                  have hq3 := hq4.1
                  clear N9
                  try k_fold
                  k_steps
                  all_goals rename News _ _ _ _ => N7
                  · rename ¬ _ = [] => hb9
                    refine comp_end (by k_asm) N7 (fun p hp => hp) off (.tail _ (.tail _ (.head _))) ⟨rfl, ?_⟩
                    rw [List.take_add_one, show (czs.map shownD)[i]? = some .none by rw [List.getElem?_map, hcz8, Option.map_some, shownD, if_neg hb9]]
                    exact carried_snoc hys2 .none
                  · rename (_ : List Str) = [] => hb9
                    refine comp_end (by k_asm) N7 (fun p hp => hp) off (.tail _ (.tail _ (.head _))) ⟨rfl, ?_⟩
                    rw [List.take_add_one, show (czs.map shownD)[i]? = some (.str ⟨(shownC cz).toArray⟩) by rw [List.getElem?_map, hcz8, Option.map_some, shownD, if_pos hb9]]
                    exact carried_snoc hys2 (.str _ _)
                · rintro ys2 nw ⟨rfl, hys2⟩
                  rw [show (czs.map shownD).take ys7.length = czs.map shownD from List.take_of_length_le (by rw [List.length_map]; omega)] at hys2
                  clear N9
                  by_cases hgood : ∀ cz ∈ czs, (cz.filter (fun c => !goodN c)).map sgn = []
                  · have hany := any_none_false hgood
                    have hsts : StrsAre ys2 (czs.map fun cz => ⟨(shownC cz).toArray⟩) := by
                      have q := hys2
                      rw [shownD_good hgood] at q
                      exact carried_strs q
                    have hshl : ∀ x ∈ czs.map (fun cz => (⟨(shownC cz).toArray⟩ : Str)), x.length ≤ 10 := by
                      intro x hx
                      obtain ⟨cz, hc, rfl⟩ := List.mem_map.mp hx
                      have h1 := shown_len cz
                      have h2 := (hcz cz hc).2
                      show (shownC cz).toArray.size ≤ 10
                      rw [List.size_toArray]
                      omega
                    have hok2 := join_okN hshl (by decide) (by simp; omega)
                    have hjl2 : (Txt.join (Str.ofString " ") (czs.map (fun cz => (⟨(shownC cz).toArray⟩ : Str)))).length ≤ 100 := Nat.le_trans (join_len hshl) (by
                      rw [show (Str.ofString " ").length = 1 from by decide]; simp; omega)
                    have htl := textS_len hP hP5 hwd
                    k_steps
                    unfold Halt
                    rename News _ _ _ _ => N6
                    rename Fr _ _ _ _ => F6
                    rw [full_fields hw2.symm] at F6
                    exact .inl ⟨rfl, _, _, _, _, rfl, fr_shown1 F6, (fun p hp => N6 p (.tail _ hp)), fun _ cz hc c hcc => goodN_iff.mp (all_good (hgood cz hc) c hcc)⟩
                  · have hany := any_none_true hgood
                    k_steps
                    rename News _ _ _ _ => N6
                    rename Fr _ _ _ _ => F6
                    have hbx := bad_ex hgood
                    have hpth := partB_handed hPB
                    have hnums : ∀ p ∈ P, 0 ≤ p ∧ p < 10 ^ 10 := fun p hp => ⟨by have := menu_le (hP p hp); omega, (menu_le (hP p hp)).2⟩
                    have hnl : ∀ cz ∈ czs, cz.length ≤ 100 := fun cz hc => by have := (hcz cz hc).2; omega
                    have hw3 : (words2.any (· == wd9)) = true := hw2.symm
                    have hm0 := N6 _ (.head _)
                    refine wpAny_Try_except ?_
                    k_steps
                    unfold Halt
                    rename SlotNews _ _ => nn9
                    rename Heap.UpToSlots _ _ => up9
                    rename Heap.Ns _ _ _ => ns9
                    rename Flown _ _ _ _ => fl9
                    refine caught71 (by rfl) (by rfl) fl9 (by assumption) (fun h' Q E st u hq => ?_) (fun h' st u => ?_)
                    · have F5 := (show Fr _ _ h' _ from ⟨u.ns ns9, st, F6.above⟩)
                      exact nameX_K F5 (by k_asm) (by k_asm) (by k_is) hq
                    · have F5 := (show Fr _ _ h' _ from ⟨u.ns ns9, st, F6.above⟩)
                      k_steps
                      exact Or.inr ⟨rfl, _, _, _, rfl, F5⟩
              · rename _ = false => hsl9
                have hw2 := slice_words wd9 hwd
                rw [hsl9] at hw2
                rw [full_plain (czs := czs) hw2.symm] at F7
                exact .inl ⟨rfl, _, _, _, _, rfl, fr_shown0 F7, N7, fun q => by rw [← hw2] at q; cases q⟩
            · clear F9 N9
              intro fl s' hmid
              rcases hmid with ⟨rfl, tt9, sv9, h10, tk10, rfl, F9, N9, hgd⟩ | ⟨rfl, h10, tk10, m10, rfl, F9⟩
              · try k_fold
                have hbl := body_len hP hP5 hwd hcz hczl4
                have hfl : (fullS P wd9 czs).length ≤ 300 := by
                  show Array.size _ ≤ _
                  rw [← Array.length_toList]
                  exact hbl
                k_steps
                unfold Halt
                refine asg_join F9 N9 (Str.ofString "whole") (secS P wd9 czs part false) ?_ ?_
                · rcases hPB with ⟨rfl, rfl⟩ | ⟨a9, b9, pp9, ta9, tb9, ka9, rfl, rfl, hm9, ha90, ha91, hb90, hb91⟩
                  · k_steps
                    unfold Halt
                    rename News _ _ _ _ => N7
                    rw [← whole_none]
                    exact ⟨rfl, _, _, _, rfl, by k_asm, N7⟩
                  · k_steps
                    unfold Halt
                    rename News _ _ _ _ => N7
                    rw [← whole_some]
                    exact ⟨rfl, _, _, _, rfl, by k_asm, N7⟩
                · clear F9 N9
                  intro t9 h11 tk11 F9 N9
                  try k_fold
                  k_steps
                  unfold Halt
                  refine asg_join F9 N9 (Str.ofString "answer") (secS P wd9 czs part true) ?_ ?_
                  · rcases hPB with ⟨rfl, rfl⟩ | ⟨a9, b9, pp9, ta9, tb9, ka9, rfl, rfl, hm9, ha90, ha91, hb90, hb91⟩
                    · k_steps
                      unfold Halt
                      rename News _ _ _ _ => N7
                      rw [← whole_none (ans := true)]
                      exact ⟨rfl, _, _, _, rfl, by k_asm, N7⟩
                    · k_steps
                      unfold Halt
                      rename News _ _ _ _ => N7
                      rw [← answer_some]
                      exact ⟨rfl, _, _, _, rfl, by k_asm, N7⟩
                  · clear F9 N9
                    intro t10 h12 tk12 F9 N9
                    try k_fold
                    k_steps
                    unfold Halt
                    rename News _ _ _ _ => N9
                    rename Fr _ _ _ _ => F9
                    clear hbl hfl
                    have hok := sec_ok hP hP5 hwd hcz hczl4 hgd
                    have hne1 : (secS P wd9 czs part false != secS P wd9 czs part false) = false := by simp
                    have hne2 : (secS P wd9 czs part true != secS P wd9 czs part true) = false := by simp
                    refine or_join (C := True) F9 N9 ?_ ?_
                    · k_steps
                      unfold Halt
                      rename News _ _ _ _ => N7
                      exact .inl ⟨rfl, _, _, rfl, by k_asm, N7, trivial⟩
                    · clear F9 N9
                      rintro fl s' (⟨rfl, h13, tk13, rfl, F9, N9, -⟩ | ⟨rfl, h13, tk13, m13, rfl, F9⟩)
                      · try k_fold
                        k_steps
                        unfold Halt
                        clear hne1 hne2 hok
                        refine or_join (C := (wd9 = Str.ofString "MIME" → P ≠ [])) F9 N9 ?_ ?_
                        · k_steps
                          · rename News _ _ _ _ => N7
                            exact Or.inr ⟨rfl, _, _, _, rfl, by k_asm⟩
                          · unfold Halt
                            rename News _ _ _ _ => N7
                            rename ¬ P = [] => hp9
                            exact .inl ⟨rfl, _, _, rfl, by k_asm, (fun p hp => N7 p (.tail _ hp)), fun _ => hp9⟩
                          · unfold Halt
                            rename News _ _ _ _ => N7
                            rename _ = false => hp9
                            exact .inl ⟨rfl, _, _, rfl, by k_asm, N7, fun q => by rw [q] at hp9; exact absurd hp9 (by decide)⟩
                        · clear F9 N9
                          rintro fl s' (⟨rfl, h14, tk14, rfl, F9, N9, hm⟩ | ⟨rfl, h14, tk14, m14, rfl, F9⟩)
                          · try k_fold
                            have hcz0 : czs ≠ [] := by
                              intro q
                              rw [q, List.length_nil] at hczl
                              omega
                            have hpm : PartMade part := hpart
                            have hpth := partB_handed hPB
                            k_steps
                            all_goals unfold Halt
                            all_goals rename News _ _ _ _ => N7
                            all_goals rename PartV _ _ _ => hv9
                            all_goals rename IntsAre _ P => hi9
                            all_goals rename StrsAre _ _ => hn9
                            · rename (_ == Str.ofString "HEADER.") = true => hsl9
                              have hw2 := slice_words wd9 hwd
                              rw [hsl9] at hw2
                              rw [if_pos hw2.symm] at hn9
                              refine eq_secs (part := part) (News.isTup N7 (.tail _ (.head _))) (News.isTup N7 (.tail _ (.tail _ (.tail _ (.tail _ (.tail _ (.head _))))))) hi9 (News.isTup N7 (.tail _ (.tail _ (.tail _ (.tail _ (.head _)))))) hn9 (partH_of_V N7 (fun p hp => .tail _ (.tail _ (.tail _ (.tail _ (.tail _ (.tail _ (List.mem_append_left _ hp))))))) hv9)
                                (News.isTup N7 (.head _)) (News.isTup N7 (.tail _ (.tail _ (.tail _ (.tail _ (.tail _ (.tail _ (List.mem_append_right _ (.tail _ (.tail _ (.tail _ htpR)))))))))) ) hys (News.isTup N7 (.tail _ (.tail _ (.tail _ (.tail _ (.tail _ (.tail _ (List.mem_append_right _ (.tail _ (.tail _ (.head _)))))))))) ) hys7 (partH_of_B N7 (fun p hp => .tail _ (.tail _ (.tail _ (.tail _ (.tail _ (.tail _ (List.mem_append_right _ (.tail _ (.tail _ (.tail _ hp)))))))))) hPB)
                                (words6_can wd9 hwd) (fun y hy => by obtain ⟨cz, hc, rfl⟩ := List.mem_map.mp hy; exact strOf_signs (hcz cz hc).1) (by ktr_units) ?_
                              k_steps
                              all_goals (try k_data)
                            · rename (_ == Str.ofString "HEADER.") = false => hsl9
                              have hw2 := slice_words wd9 hwd
                              rw [hsl9] at hw2
                              rw [if_neg (by rw [← hw2]; decide)] at hn9
                              refine eq_secs (part := part) (pv' := ys) (nv' := []) (News.isTup N7 (.tail _ (.tail _ (.head _)))) (News.isTup N7 (.tail _ (.tail _ (.tail _ (.tail _ (.tail _ (.tail _ (.head _)))))))) hi9 (News.isTup N7 (.tail _ (.tail _ (.tail _ (.tail _ (.tail _ (.head _))))))) hn9 (partH_of_V N7 (fun p hp => .tail _ (.tail _ (.tail _ (.tail _ (.tail _ (.tail _ (.tail _ (List.mem_append_left _ hp)))))))) hv9)
                                (News.isTup N7 (.head _)) (News.isTup N7 (.tail _ (.tail _ (.tail _ (.tail _ (.tail _ (.tail _ (.tail _ (List.mem_append_right _ (.tail _ (.tail _ (.tail _ htpR)))))))))))) hys (News.isTup N7 (.tail _ (.head _))) .nil (partH_of_B N7 (fun p hp => .tail _ (.tail _ (.tail _ (.tail _ (.tail _ (.tail _ (.tail _ (List.mem_append_right _ (.tail _ (.tail _ (.tail _ hp))))))))))) hPB)
                                (words6_can wd9 hwd) (fun y hy => by cases hy) (by ktr_units) ?_
                              k_steps
                              all_goals (try k_data)
                          · dsimp only
                            k_steps
                            all_goals (try k_data)
                      · dsimp only
                        k_steps
                        all_goals (try k_data)
              · dsimp only
                k_steps
                all_goals (try k_data)
  )
end Mine
theorem PySem.Challenge.cw_nz0297_01_holds : PySem.Challenge.rw_nz0297_01.Holds :=
  Mine.law_ends
