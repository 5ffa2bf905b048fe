import PyProof.Rows.All
import Wide.All
import OpenK.AllK
import Wide.FinOn
import Lean
import PySem.Challenge.RW_on0104_01
open PySem PySem.W PySem.Calls PyProof.Rows
set_option Elab.async false
set_option maxRecDepth 100000
set_option maxHeartbeats 8000000
set_option compiler.extract_closed false
namespace Mine
/-- the law's view: what its text binds and no line changes -/
def view9 : Program := view PySem.Challenge.rw_on0104_01.row.prog [0, 2, 3, 5, 6, 7, 8, 9, 10, 11, 12, 13, 14, 15, 17, 19, 20, 21]
theorem left_boot {p q : Program} {loose : List Str} {Xt : Shared → Bool} {α : Type} {Yf : Shared → α} {Ya : World → α} {N : Nat} {g0 : Bool}
    (hb : ∀ w : World, (fencedOpening treeTable p w N).map (fun s => (s.heap, s.gens, s.drawn, s.toks)) = some (boot_heap w.params, Array.mk [], boot_drawn, boot_toks))
    (h : ∀ (w : World) (os : OsState), (topFrom treeTable p w N ⟨boot_heap w.params, Array.mk [], boot_drawn, boot_toks, os⟩).map (fun s => (openSeen q loose (importedModules p.main.body) Xt g0 s, Yf s)) = some (openGood q loose, Ya w)) :
    LeftO p q loose Xt Yf Ya N g0 := fun w => by
  obtain ⟨s, hs, hv⟩ := Option.map_eq_some_iff.mp (hb w)
  unfold openEnds
  rw [hs]
  obtain ⟨h1, h2, h3, h4, h5⟩ := s
  simp only [Prod.mk.injEq] at hv
  obtain ⟨rfl, rfl, rfl, rfl⟩ := hv
  exact h w h5
theorem boot9 : ∀ w : World, (fencedOpening treeTable PySem.Challenge.rw_on0104_01.row.prog w 2902).map (fun s => (s.heap, s.gens, s.drawn, s.toks)) = some (boot_heap w.params, Array.mk [], boot_drawn, boot_toks) :=
  boot_open (by kernel_rfl) rfl (fun s => by kernel_rfl)
theorem ws9 : PySem.Challenge.rw_on0104_01.wellSaid = true := by kernel_rfl
local macro_rules | `(tactic| o_law) => `(tactic| (refine holds_law ws9 fun said => ?_))
local macro_rules | `(tactic| o_head $H) => `(tactic| (
  refine holds_open (q := Mine.view9) (loose := [Str.ofString "GateloomError"]) (Xt := fun s => xlAt Mine.view9 [] s && recOk (RowW.records (OpenRow.toRowW PySem.Challenge.rw_on0104_01.row)) s) (XP := XL Mine.view9 []) (Yf := Hook.obs $H) (Ya := Hook.val $H) (YP := Hook.says $H) (N := 2902) ?hl (Hook.of $H) (Hook.keeps $H)
    (fun s e => xl_of s (Bool.and_eq_true_iff.mp e).1) XL.keeps (by rfl) (by rfl) (by rfl) (fun s e => recFacts_of (Bool.and_eq_true_iff.mp e).2) (by rfl) (by assumption) (by decide +kernel) ⟨rfl, rfl, rfl, rfl, rfl, by decide +kernel⟩ ?hw ?hc
  case hl => exact left_boot boot9 (fun w os => by kernel_rfl)))
open_top hd for PySem.Challenge.rw_on0104_01
noncomputable section


/-- the ground: what every heap of the call keeps -/
structure Gd (w : World) (mean : ExcName → Option Value) (mg mb : Str → Option Value) (h : Heap) : Prop where
  X : (Mine.hd.heap_1 w.params).In h
  T : Top Mine.view9 (looseW Mine.view9 [Str.ofString "GateloomError"]) mean mg mb h
theorem Gd.keeps {w mean mg mb} {h h' : Heap} (G : Gd w mean mg mb h) (k : h.StaysIn h') : Gd w mean mg mb h' := ⟨G.X.keeps k, G.T.keeps k⟩

/-- at a heap: the base stands, the listed objects stand and are not of the base -/
def At (h₀ h : Heap) (led : List (Addr × Obj)) : Prop := h₀.StaysIn h ∧ ∀ p ∈ led, h.get? p.1 = some p.2 ∧ h₀.get? p.1 = none
theorem At.of {h₀ h : Heap} {L : Addr} {m : Str → Option Value} {news led : List (Addr × Obj)} (F : Fr h₀ L h m) (N : News h₀ L h news) (hs : ∀ p ∈ led, p ∈ news) : At h₀ h led :=
  ⟨F.keep, fun p hp => ⟨(N p (hs p hp)).1, (N p (hs p hp)).2.2⟩⟩
theorem At.nil {h₀ h : Heap} {L : Addr} {m : Str → Option Value} (F : Fr h₀ L h m) : At h₀ h [] := ⟨F.keep, fun _ hp => nomatch hp⟩

def KeepBut (as : List Addr) (h h' : Heap) : Prop := ∀ b o, b ∉ as → h.get? b = some o → h'.get? b = some o
theorem keepBut_of {g h h' : Heap} {L : Addr} {m : Str → Option Value} {as : List Addr} (old : ∀ b o, h.get? b = some o → b ∉ as → g.get? b = some o) (F : Fr g L h' m) : KeepBut as h h' := fun b o hb e => F.keep b o (old b o e hb)
theorem KeepBut.list {as : List Addr} {h h' : Heap} (k : KeepBut as h h') {a : Addr} {vs : Array Value} (x : h.IsList a vs) (ha : a ∉ as) : h'.IsList a vs := x.at fun o e => k a o ha e
theorem KeepBut.tup {as : List Addr} {h h' : Heap} (k : KeepBut as h h') {a : Addr} {vs : Array Value} (x : IsTup h a vs) (ha : a ∉ as) : IsTup h' a vs := by
  obtain ⟨o, ho, r⟩ := x
  exact ⟨o, k a o ha ho, r⟩
theorem Fr.after {g h h' : Heap} {L : Addr} {m : Str → Option Value} {as : List Addr} (F : Fr g L h m) (k : KeepBut as h h') (hL : L ∉ as) (hg : ∀ a ∈ as, g.get? a = none) : Fr g L h' m :=
  ⟨F.ns.at' fun o e => k _ o hL e, fun b o e => k b o (fun q => by rw [hg b q] at e; cases e) (F.keep b o e), F.above⟩
theorem News.after {g h h' : Heap} {L : Addr} {news : List (Addr × Obj)} {as : List Addr} (N : News g L h news) (k : KeepBut as h h') (ha : ∀ p ∈ news, p.1 ∉ as) : News g L h' news :=
  fun p hp => ⟨k _ _ (ha p hp) (N p hp).1, (N p hp).2⟩
theorem after_pure {g h h' : Heap} {L : Addr} {m : Str → Option Value} {news : List (Addr × Obj)} (F : Fr g L h m) (N : News g L h news) (k : KeepBut [] h h') : Fr g L h' m ∧ News g L h' news :=
  ⟨Fr.after F k (by simp) (by simp), News.after N k (by simp)⟩
theorem after_upd {g h h' : Heap} {L d : Addr} {m : Str → Option Value} {o o' : Obj} {news news' : List (Addr × Obj)} (F : Fr g L h m) (N : News g L h news) (U : Upd d o o' news news') (k : KeepBut [d] h h') (e : h'.get? d = some o') :
    Fr g L h' m ∧ News g L h' news' := by
  obtain ⟨pre, post, rfl, rfl, a, b⟩ := U.split
  have D := N (d, o) (by simp)
  refine ⟨Fr.after F k (by simp; exact fun q => D.2.1 q.symm) (by simp; exact D.2.2), fun p hp => ?_⟩
  rcases List.mem_append.mp hp with q | q
  · have P := N p (List.mem_append_left _ q); exact ⟨k _ _ (by simp; exact a p q) P.1, P.2⟩
  · rcases List.mem_cons.mp q with rfl | q
    · exact ⟨e, D.2⟩
    · have P := N p (List.mem_append_right _ (.tail _ q)); exact ⟨k _ _ (by simp; exact b p q) P.1, P.2⟩

theorem callD {w : World} {A : Around} {s : Shared} {h₀ : Heap} {led : List (Addr × Obj)} {mean mg mb}
    {R : Result → Shared → Prop} {name qual : Str} {params : Arguments} {body : List Stmt} {scope : Scope} {dV kV doc pm cdv ct oc : Value} {an od : Option Addr} {osl : Array (Option Value)} {f : Addr} {args : Args} {binds : List (Str × Value)}
    (G : Gd w mean mg mb h₀) (H : At h₀ s.heap led)
    (ho : (Mine.hd.heap_1 w.params).lookup f = some ⟨oc, od, .func (fnOf name qual params body scope dV kV doc pm an cdv ct), osl⟩) (hcd : codeIn (Mine.hd.heap_1 w.params) cdv qual = true) (hroom : A.depth < recursionLimit)
    (hbind : BindsTo s (fnOf name qual params body scope dV kV doc pm an cdv ct) args binds) (hloc : ∀ y ∈ binds, scope.names.lookup y.1 = some .local)
    (h : ∀ (dd9 uu9 : Nat) fr9, dd9 = A.depth + 1 → uu9 = A.units + 3 → ∀ g L' h₁, Fr g L' h₁ (fun y => binds.reverse.lookup y) → News g L' h₁ led → Gd w mean mg mb g → h₀.StaysIn g → (∀ b o, s.heap.get? b = some o → b ∉ led.map (·.1) → g.get? b = some o) → (∀ p ∈ led, p.1 < L') →
      (∀ b o, g.get? b = some o → s.heap.get? b = some o) →
      wpAny (model PySem.Challenge.rw_on0104_01.row.prog w) { handled := A.handled, depth := dd9, frames := fr9, guards := A.guards, units := uu9 } (execs body (envOf qual scope L' f cdv))
        (fun fl s' => R (.ok (.ret (match fl with | .ret v => v | _ => .none))) s') (fun _ _ => False)
        { s with heap := h₁, toks := s.toks + binds.length })
    (hco : scope.isCoroutine = false := by rfl) (hgen : scope.isGenerator = false := by rfl) (hk : scope.kind = .function := by rfl)
    (hcell : ∀ x ∈ scope.names, x.2 ≠ .cell := by decide) : codeAny (model PySem.Challenge.rw_on0104_01.row.prog w) A (.call (.ref f) args) R s := by
  have st : h₀.StaysIn (hideAll s.heap (led.map (·.1))) := fun b o e => hideAll_get _ (H.1 b o e) fun q => by
    obtain ⟨p, hp, rfl⟩ := List.mem_map.mp q
    rw [(H.2 p hp).2] at e; cases e
  refine codeAny_call_def (fd := fnOf name qual params body scope dV kV doc pm an cdv ct) (body := body) (binds := binds) hroom (H.1 _ _ (G.X _ _ ho)) rfl (G.T.nolimit.keeps H.1) (codeRec_of (G.X.keeps H.1) hcd) rfl hbind hcell hloc (fun h₁ hns hk₁ => ?_) hco hgen hk
  refine wpAny_mono (h _ _ (A.deeper (envOf qual scope s.heap.objs.size f cdv)).frames rfl rfl (hideAll s.heap (led.map (·.1))) s.heap.objs.size h₁ ⟨hns, fun b o e => hk₁ b o (of_hideAll _ e), Nat.le_of_eq (hideAll_size _ _)⟩
    (fun p hp => ⟨hk₁ _ _ (H.2 p hp).1, Nat.ne_of_lt (Heap.lt_size (H.2 p hp).1), hideAll_none _ (List.mem_map_of_mem hp)⟩) (G.keeps st) st (fun b o e n => hideAll_get _ e n) (fun p hp => Heap.lt_size (H.2 p hp).1) (fun b o e => of_hideAll _ e)) (fun _ _ x => x) fun _ _ x => x.elim

def StList (row : Addr) (at_ : Int) (t : Tok) (n : Nat) : Obj := listOf #[.ref row, .int at_ t] n

/-- the kinds of cells -/
inductive Kind where
  | buf | not | and | or | xor | mux | nand | nor | xnor | lut | cell
deriving DecidableEq
def Kind.str : Kind → Str
  | .buf => Str.ofString "buf" | .not => Str.ofString "not" | .and => Str.ofString "and" | .or => Str.ofString "or" | .xor => Str.ofString "xor" | .mux => Str.ofString "mux"
  | .nand => Str.ofString "nand" | .nor => Str.ofString "nor" | .xnor => Str.ofString "xnor" | .lut => Str.ofString "lut" | .cell => Str.ofString "cell"
theorem kfX (P : Params) : Mine.hd.heap_1 P = Mine.hd.heap_1 P ∧ PySem.Challenge.rw_on0104_01 = PySem.Challenge.rw_on0104_01 := by
  k_fill
  exact ⟨rfl, rfl⟩
local macro_rules | `(tactic| units_room) => `(tactic| (have hcL9 := cLine_is; (try simp only [cLine] at *); omega))
local macro_rules | `(tactic| k_room) => `(tactic| ((simp only [recursionLimit]); omega))
local macro_rules | `(tactic| walk_at "GO") => `(tactic| ((try (show wpAny _ _ _ _ _ _; k_fold)); repeat' (first | (k_unfold; (try dsimp only)) | (walk1 <;> (try dsimp only)) | (dsimp only; walk1) | fail "no step")))
local macro_rules | `(tactic| walk_at "ENTER") => `(tactic| ((case k6 => k_is); (case k7 => k_is); (case k8 => first | exact Nat.lt_of_lt_of_le (Nat.lt_of_lt_of_le (by assumption) (by decide : 500 ≤ recursionLimit)) (Nat.le_refl _) | (simp only [recursionLimit]; omega)); (case k9 => exact BindsTo.of_eq rfl); (case c5 => decide); (case kB => exact locs rfl); (case c2 => exact rfl); (case c3 => exact rfl); (case c4 => exact rfl)))
section
theorem pow7_ne (n : Nat) : (7 : Int) ^ n ≠ 0 := by
  have : (0 : Int) < 7 ^ n := Int.pow_pos (by decide)
  omega
theorem pow7_log2 {n : Nat} (h : n ≤ 1000) : ((7 : Int) ^ n).natAbs.log2 < 9000 := by
  rw [Int.natAbs_pow]
  have h1 : (7 : Int).natAbs ^ n < 2 ^ (3 * n + 1) := by
    have : (7 : Nat) ^ n ≤ 8 ^ n := Nat.pow_le_pow_left (by decide) n
    have h8 : (8 : Nat) ^ n = 2 ^ (3 * n) := by rw [show (8 : Nat) = 2 ^ 3 from rfl, ← Nat.pow_mul]
    have h9 : (2 : Nat) ^ (3 * n + 1) = 2 * 2 ^ (3 * n) := by rw [Nat.pow_succ]; omega
    have hp : 0 < (2 : Nat) ^ (3 * n) := Nat.pow_pos (by decide)
    show 7 ^ n < _
    omega
  have h0 : (7 : Int).natAbs ^ n ≠ 0 := by
    have : 0 < (7 : Nat) ^ n := Nat.pow_pos (by decide)
    show 7 ^ n ≠ 0
    omega
  have := (Nat.log2_lt h0).mpr h1
  omega
theorem fdiv_small {a b : Int} (ha : 0 ≤ a) (hb : 0 < b) : 0 ≤ a.fdiv b ∧ a.fdiv b ≤ a := by
  rw [Int.fdiv_eq_ediv_of_nonneg _ (Int.le_of_lt hb)]
  exact ⟨Int.ediv_nonneg ha (Int.le_of_lt hb), Int.ediv_le_self _ ha⟩

local macro_rules | `(tactic| walk_at "binaryOp Pow int int") => `(tactic| refine pow_int_small (by omega) (by omega) (by decide) ?_)
local macro_rules | `(tactic| walk_at "binaryOp FloorDiv int int") => `(tactic| refine floordiv_int (pow7_ne _) ?_ (Or.inl (PyProof.noPylong_of_log2 (pow7_log2 (by omega)))))

theorem take_spec {w : World} {A : Around} {s : Shared} {h₀ : Heap} {mean mg mb} {st row : Addr} {vs : List Value} {ns : List Int} {at_ most : Int} {t tm : Tok} {n : Nat} {R : Result → Shared → Prop}
    (G : Gd w mean mg mb h₀) (H : At h₀ s.heap [(st, StList row at_ t n)]) (hroom : A.depth < 900) (hh : A.handled = none) (hu : A.units < 2000)
    (hrow : s.heap.IsList row vs.toArray) (hne : row ≠ st) (hi : IntsAre vs ns) (hlen : ns.length ≤ 63) (h0 : 0 ≤ at_) (h1 : at_ < 1000) (hm : 0 < most)
    (k : ∀ v t₁ t₂ n' h' tk, 0 ≤ v → v < most → h'.get? st = some (StList row (at_ + 1) t₂ n') → KeepBut [st] s.heap h' → R (.ok (.ret (.int v t₁))) { s with heap := h', toks := tk }) :
    codeAny (model PySem.Challenge.rw_on0104_01.row.prog w) A (.call (.ref 199) ⟨[.ref st, .int most tm], []⟩) R s := by
  obtain ⟨hdl, dd, fr, gs, uu⟩ := A
  simp only at hh hroom hu
  subst hh
  refine' callD G H ?k6 ?k7 ?k8 ?k9 ?kB ?_ ?c2 ?c3 ?c4 ?c5
  walk_at "ENTER"
  intro dd9 uu9 fr9 hdd9 huu9 g L' h₁ F' N' G' st' old lt' back
  show wpAny _ { handled := none, depth := dd9, frames := fr9, guards := gs, units := uu9 } _ _ _ _
  simp only at hdd9 huu9
  have X' : (Mine.hd.heap_1 w.params).In g := G'.X
  have T' := G'.T
  have hr : g.IsList row vs.toArray := hrow.at fun o e => old _ _ e (by simp; exact hne)
  have k' : ∀ v t₁ t₂ n' h' tk L m, 0 ≤ v → v < most → Fr g L h' m → News g L h' [(st, StList row (at_ + 1) t₂ n')] → R (.ok (.ret (.int v t₁))) { s with heap := h', toks := tk } :=
    fun v t₁ t₂ n' h' tk L m a b F N => k v t₁ t₂ n' h' tk a b (N.get (.head _)) (keepBut_of old F)
  clear hrow old st' H G k back
  simp only [StList] at *
  have hpos : ¬ ns = [] → 0 < ns.length := fun h => List.length_pos_iff.mpr h
  by_cases hz : ns = []
  all_goals (try have hps := hpos hz)
  all_goals (try have hfd := fdiv_small (a := at_) (b := (ns.length : Int)) h0 (by omega))
  all_goals walk_at "GO"
  · try dsimp only
    exact k' 0 _ _ _ _ _ _ _ (Int.le_refl _) hm (by assumption) (kst_newsOf (by assumption) (by k_allIn))
  · try dsimp only
    exact k' _ _ _ _ _ _ _ _ (fmod_lo _ hm) (fmod_hi _ hm) (by assumption) (kst_newsOf (by assumption) (by k_allIn))
end
section
theorem is_state_spec {w : World} {A : Around} {s : Shared} {h₀ : Heap} {mean mg mb} {kd : Kind} {t : Tok} {R : Result → Shared → Prop}
    (G : Gd w mean mg mb h₀) (H : At h₀ s.heap []) (hroom : A.depth < 900) (hh : A.handled = none) (hu : A.units < 2000)
    (k : ∀ h' tk, KeepBut [] s.heap h' → R (.ok (.ret (.bool false))) { s with heap := h', toks := tk }) :
    codeAny (model PySem.Challenge.rw_on0104_01.row.prog w) A (.call (.ref 61) ⟨[.str kd.str t], []⟩) R s := by
  obtain ⟨hdl, dd, fr, gs, uu⟩ := A
  simp only at hh hroom hu
  subst hh
  have hx1 : (kd.str == Str.ofString "flop") = false := by cases kd <;> decide
  have hx2 : (kd.str == Str.ofString "latch") = false := by cases kd <;> decide
  refine' callD G H ?k6 ?k7 ?k8 ?k9 ?kB ?_ ?c2 ?c3 ?c4 ?c5
  walk_at "ENTER"
  intro dd9 uu9 fr9 hdd9 huu9 g L' h₁ F' N' G' st' old lt' back
  show wpAny _ { handled := none, depth := dd9, frames := fr9, guards := gs, units := uu9 } _ _ _ _
  simp only at hdd9 huu9
  have X' : (Mine.hd.heap_1 w.params).In g := G'.X
  have T' := G'.T
  have k' : ∀ h' tk L m, Fr g L h' m → R (.ok (.ret (.bool false))) { s with heap := h', toks := tk } := fun h' tk L m F => k h' tk (keepBut_of old F)
  clear st' H G back lt' old k
  generalize hk : kd.str = x at *
  walk_at "GO"
  try dsimp only
  rw [hx2]
  exact k' _ _ _ _ (by assumption)
end
section
def rowNum : List Int → Int
  | [] => 0
  | b :: r => b + 2 * rowNum r
theorem row_fold : ∀ bs : List Int, bs.length ≤ 3 → (∀ b ∈ bs, b = 0 ∨ b = 1) →
    rowNum bs = (List.foldl (fun (σ : Int × Unit) (k : Int) => if (bs.getD k.toNat 0 != 0) = true then (σ.fst + 1 * 2 ^ k.toNat, ()) else (σ.fst, ())) (0, ()) (rangeInts 0 1 ((bs.length : Int) - 0).toNat)).fst
  | [], _, _ => by decide
  | [a], _, h => by
    have ha := h a (by simp)
    rcases ha with rfl | rfl <;> decide
  | [a, b], _, h => by
    have ha := h a (by simp)
    have hb := h b (by simp)
    rcases ha with rfl | rfl <;> rcases hb with rfl | rfl <;> decide
  | [a, b, c], _, h => by
    have ha := h a (by simp)
    have hb := h b (by simp)
    have hc := h c (by simp)
    rcases ha with rfl | rfl <;> rcases hb with rfl | rfl <;> rcases hc with rfl | rfl <;> decide
  | _ :: _ :: _ :: _ :: _, h, _ => by simp at h
theorem row_spec {w : World} {A : Around} {s : Shared} {h₀ : Heap} {mean mg mb} {bl : Addr} {vs : List Value} {bs : List Int} {R : Result → Shared → Prop}
    (G : Gd w mean mg mb h₀) (H : At h₀ s.heap []) (hroom : A.depth < 900) (hh : A.handled = none) (hu : A.units < 2000)
    (hb : s.heap.IsList bl vs.toArray) (hi : IntsAre vs bs) (hlen : bs.length ≤ 3) (h01 : ∀ b ∈ bs, b = 0 ∨ b = 1)
    (k : ∀ t h' tk, KeepBut [] s.heap h' → R (.ok (.ret (.int (rowNum bs) t))) { s with heap := h', toks := tk }) :
    codeAny (model PySem.Challenge.rw_on0104_01.row.prog w) A (.call (.ref 173) ⟨[.ref bl], []⟩) R s := by
  obtain ⟨hdl, dd, fr, gs, uu⟩ := A
  simp only at hh hroom hu
  subst hh
  refine' callD G H ?k6 ?k7 ?k8 ?k9 ?kB ?_ ?c2 ?c3 ?c4 ?c5
  walk_at "ENTER"
  intro dd9 uu9 fr9 hdd9 huu9 g L' h₁ F' N' G' st' old lt' back
  show wpAny _ { handled := none, depth := dd9, frames := fr9, guards := gs, units := uu9 } _ _ _ _
  simp only at hdd9 huu9
  have X' : (Mine.hd.heap_1 w.params).In g := G'.X
  have T' := G'.T
  have hr : g.IsList bl vs.toArray := hb.at fun o e => old _ _ e (by simp)
  have k' : ∀ v t h' tk L m, rowNum bs = v → Fr g L h' m → R (.ok (.ret (.int v t))) { s with heap := h', toks := tk } :=
    fun v t h' tk L m e F => e ▸ k t h' tk (keepBut_of old F)
  clear hb old st' H G k back lt'
  walk_at "GO"
  try dsimp only
  exact k' _ _ _ _ _ _ (row_fold bs hlen h01) (by assumption)
end
section
def gateVal (k : Kind) (l : List Int) : Int := match k with
  | .buf => l.getD 0 0
  | .not => 1 - l.getD 0 0
  | .and => if l.getD 0 0 = 1 ∧ l.getD 1 0 = 1 then 1 else 0
  | .or => if l.getD 0 0 = 1 ∨ l.getD 1 0 = 1 then 1 else 0
  | .xor => if l.getD 0 0 = l.getD 1 0 then 0 else 1
  | .nand => if l.getD 0 0 = 1 ∧ l.getD 1 0 = 1 then 0 else 1
  | .nor => if l.getD 0 0 = 1 ∨ l.getD 1 0 = 1 then 0 else 1
  | .xnor => if l.getD 0 0 = l.getD 1 0 then 1 else 0
  | .mux => if l.getD 0 0 = 1 then l.getD 2 0 else l.getD 1 0
  | .lut => 0
  | .cell => 0
def gateArity : Kind → Nat → Prop
  | .buf, n => n = 1
  | .not, n => n = 1
  | .mux, n => n = 3
  | .lut, _ => False
  | .cell, _ => False
  | _, n => n = 2
theorem len1 {l : List Int} (h : l.length = 1) : ∃ a, l = [a] := by
  match l, h with
  | [a], _ => exact ⟨a, rfl⟩
theorem len2 {l : List Int} (h : l.length = 2) : ∃ a b, l = [a, b] := by
  match l, h with
  | [a, b], _ => exact ⟨a, b, rfl⟩
theorem len3 {l : List Int} (h : l.length = 3) : ∃ a b c, l = [a, b, c] := by
  match l, h with
  | [a, b, c], _ => exact ⟨a, b, c, rfl⟩
theorem gate_spec {w : World} {A : Around} {s : Shared} {h₀ : Heap} {mean mg mb} {bl : Addr} {kd : Kind} {vs : List Value} {bs : List Int} {tkd : Tok} {R : Result → Shared → Prop}
    (G : Gd w mean mg mb h₀) (H : At h₀ s.heap []) (hroom : A.depth < 900) (hh : A.handled = none) (hu : A.units < 2000)
    (hb : s.heap.IsList bl vs.toArray) (hi : IntsAre vs bs) (har : gateArity kd bs.length) (h01 : ∀ b ∈ bs, b = 0 ∨ b = 1)
    (k : ∀ t h' tk, KeepBut [] s.heap h' → R (.ok (.ret (.int (gateVal kd bs) t))) { s with heap := h', toks := tk }) :
    codeAny (model PySem.Challenge.rw_on0104_01.row.prog w) A (.call (.ref 180) ⟨[.str kd.str tkd, .ref bl], []⟩) R s := by
  obtain ⟨hdl, dd, fr, gs, uu⟩ := A
  simp only at hh hroom hu
  subst hh
  refine' callD G H ?k6 ?k7 ?k8 ?k9 ?kB ?_ ?c2 ?c3 ?c4 ?c5
  walk_at "ENTER"
  intro dd9 uu9 fr9 hdd9 huu9 g L' h₁ F' N' G' st' old lt' back
  show wpAny _ { handled := none, depth := dd9, frames := fr9, guards := gs, units := uu9 } _ _ _ _
  simp only at hdd9 huu9
  have X' : (Mine.hd.heap_1 w.params).In g := G'.X
  have T' := G'.T
  have hr : g.IsList bl vs.toArray := hb.at fun o e => old _ _ e (by simp)
  have k' : ∀ v t h' tk L m, gateVal kd bs = v → Fr g L h' m → R (.ok (.ret (.int v t))) { s with heap := h', toks := tk } :=
    fun v t h' tk L m e F => e ▸ k t h' tk (keepBut_of old F)
  clear hb old st' H G k back lt'
  have hlen3 : bs.length ≤ 3 := by cases kd <;> simp only [gateArity] at har <;> omega
  cases kd <;> simp only [gateArity] at har <;> simp only [Kind.str] at *
  all_goals (try contradiction)
  all_goals (first
    | (obtain ⟨a, rfl⟩ := len1 har; have ha := h01 a (by simp))
    | (obtain ⟨a, b, rfl⟩ := len2 har; have ha := h01 a (by simp); have hb := h01 b (by simp))
    | (obtain ⟨a, b, c, rfl⟩ := len3 har; have ha := h01 a (by simp); have hb := h01 b (by simp); have hc := h01 c (by simp)))
  all_goals (clear h01 har hlen3)
  all_goals walk_at "GO"
  all_goals try dsimp only
  all_goals (refine k' _ _ _ _ _ _ ?_ (by assumption))
  all_goals (clear k')
  all_goals (first
    | (rcases ha with rfl | rfl <;> rcases hb with rfl | rfl <;> rcases hc with rfl | rfl <;> first | decide | (simp_all; done))
    | (rcases ha with rfl | rfl <;> rcases hb with rfl | rfl <;> first | decide | (simp_all; done))
    | (rcases ha with rfl | rfl <;> first | decide | (simp_all; done)))
end
section
theorem callDC {w : World} {A : Around} {s : Shared} {h₀ : Heap} {led : List (Addr × Obj)} {mean mg mb}
    {R : Result → Shared → Prop} {name qual : Str} {params : Arguments} {body : List Stmt} {scope : Scope} {dV kV doc pm cdv ct oc : Value} {an od : Option Addr} {osl : Array (Option Value)} {f : Addr} {args : Args} {binds : List (Str × Value)}
    (G : Gd w mean mg mb h₀) (H : At h₀ s.heap led)
    (ho : (Mine.hd.heap_1 w.params).lookup f = some ⟨oc, od, .func (fnOf name qual params body scope dV kV doc pm an cdv ct), osl⟩) (hcd : codeIn (Mine.hd.heap_1 w.params) cdv qual = true) (hroom : A.depth < recursionLimit)
    (hbind : BindsTo s (fnOf name qual params body scope dV kV doc pm an cdv ct) args binds)
    (hkind : (binds.all fun y => scope.names.lookup y.1 == some .local || scope.names.lookup y.1 == some .cell) = true)
    (hnd : ((cellsFrom 0 scope.names []).map (·.1)).Nodup)
    (h : ∀ (dd9 uu9 : Nat) fr9, dd9 = A.depth + 1 → uu9 = A.units + 3 → ∀ g L' h₁ tk cells, Fr g L' h₁ (bindL (envOfC qual scope L' f cdv).kindOf binds fun _ => none) → News g L' h₁ (cells ++ led) →
      CellsAre (bindC (envOfC qual scope L' f cdv).kindOf binds fun _ => none) (cellsFrom (L' + 1) scope.names []) cells → Gd w mean mg mb g → h₀.StaysIn g → (∀ b o, s.heap.get? b = some o → b ∉ led.map (·.1) → g.get? b = some o) → (∀ p ∈ led, p.1 < L') →
      (∀ b o, g.get? b = some o → s.heap.get? b = some o) →
      wpAny (model PySem.Challenge.rw_on0104_01.row.prog w) { handled := A.handled, depth := dd9, frames := fr9, guards := A.guards, units := uu9 } (execs body (envOfC qual scope L' f cdv))
        (fun fl s' => R (.ok (.ret (match fl with | .ret v => v | _ => .none))) s') (fun _ _ => False)
        { s with heap := h₁, toks := tk })
    (hco : scope.isCoroutine = false := by rfl) (hgen : scope.isGenerator = false := by rfl) (hk : scope.kind = .function := by rfl) :
    codeAny (model PySem.Challenge.rw_on0104_01.row.prog w) A (.call (.ref f) args) R s := by
  have st : h₀.StaysIn (hideAll s.heap (led.map (·.1))) := fun b o e => hideAll_get _ (H.1 b o e) fun q => by
    obtain ⟨p, hp, rfl⟩ := List.mem_map.mp q
    rw [(H.2 p hp).2] at e; cases e
  refine codeAny_call_function hroom (H.1 _ _ (G.X _ _ ho)) rfl hco hgen rfl (codeRec_of (G.X.keeps H.1) hcd) (hbind _ _ _ _ ?_)
  refine wpAny_newFunctionEnv_cells hk (kindsX hkind _) fun env' he s' x => ?_
  subst he
  refine ⟨(G.T.nolimit.keeps H.1).keeps x.toInCall.keep, codeAny_func ?_⟩
  obtain ⟨h₁, tk, rfl, _⟩ := x.done
  have hk₁ := x.toInCall.keep
  obtain ⟨cells, NC, Y⟩ := Cl.news (h₀ := s.heap) (Nat.le_refl _) fun n c hm => ⟨x.cell n c (lookup_of_mem_nodup (cellsFrom_names scope.names 0 (s.heap.objs.size + 1) [] [] rfl ▸ hnd) hm), x.above n c hm⟩
  refine wpAny_mono (h _ _ (A.deeper (envOfC qual scope s.heap.objs.size f cdv)).frames rfl rfl (hideAll s.heap (led.map (·.1))) s.heap.objs.size h₁ tk cells ⟨x.toInCall.ns, fun b o e => hk₁ b o (of_hideAll _ e), Nat.le_of_eq (hideAll_size _ _)⟩ (fun p hp => ?_) Y (G.keeps st) st (fun b o e n => hideAll_get _ e n) (fun p hp => Heap.lt_size (H.2 p hp).1) (fun b o e => of_hideAll _ e)) (fun _ _ x => x) fun _ _ x => x.elim
  rcases List.mem_append.mp hp with hp | hp
  · refine ⟨(NC p hp).1, (NC p hp).2.1, ?_⟩
    cases q : (hideAll s.heap (led.map (·.1))).get? p.1 with
    | none => rfl
    | some o => have := of_hideAll _ q; rw [(NC p hp).2.2] at this; cases this
  · exact ⟨hk₁ _ _ (H.2 p hp).1, Nat.ne_of_lt (Heap.lt_size (H.2 p hp).1), hideAll_none _ (List.mem_map_of_mem hp)⟩

section
variable {prog : Program} {w : World} {A : Around} {E : Value → Shared → Prop} {s : Shared} {h₀ : Heap} {L : Addr} {m : Str → Option Value} {env : Env}
theorem comp_rest {elt : Expr} {x : Str} {scope : Scope} {cl : List (Str × Addr)} {S : List (Addr × Obj) → Prop} {P : Nat → Value → Prop} {Fin : List Value → List (Addr × Obj) → Prop} {n : Nat} {news₀ : List (Addr × Obj)}
    (J : Nat → List Value → List (Addr × Obj) → Prop) (h0 : J 0 [] news₀)
    (turn : ∀ i v I oI C oC D m₂ ys news h tk (E' : Value → Shared → Prop), i < n → P i v → J i ys news → LCg.NsObj oC m₂ → m₂ x = some v → Fr h₀ L h m → News h₀ L h ((I, oI) :: (C, oC) :: (D, LCg.lst ys) :: news) → LCg.Off3 I C D news → ((@Ne Nat I C) ∧ (@Ne Nat I D) ∧ (@Ne Nat C D)) →
      wpAny (model prog w) A (eval elt (compEnvC scope cl C env)) (LCg.CompEnd h₀ L m { s with heap := h, toks := tk } I oI C oC D (LCg.lst ys) S (fun y news' => J (i + 1) (ys ++ [y]) news')) E' { s with heap := h, toks := tk })
    (fin : ∀ ys news, J n ys news → Fin ys news) : LCg.CompRest prog w A h₀ L m env elt x scope cl s S P Fin n 0 [] news₀ := by
  have key : ∀ (j i : Nat) (ys : List Value) news, i + j = n → J i ys news → LCg.CompRest prog w A h₀ L m env elt x scope cl s S P Fin j i ys news := by
    intro j
    induction j with
    | zero =>
      intro i ys news hi hy
      have e : i = n := by omega
      subst e
      exact LCg.CompRest.zero (fin ys news hy)
    | succ j ih =>
      intro i ys news hi hy
      refine LCg.CompRest.succ ?_
      intro v I oI C oC D m₂ h tk E' hv hC hx F N off ne
      refine wpAny_mono (turn i v I oI C oC D m₂ ys news h tk E' (by omega) hv hy hC hx F N off ne) (fun y s₂ hq => ?_) fun _ _ e => e
      obtain ⟨h', tk', nw, e, F', N', off', hS, hJ⟩ := hq
      exact ⟨h', tk', nw, e, F', N', off', hS, ih (i + 1) _ nw (by omega) hJ⟩
  exact key n 0 [] news₀ (by omega) h0

theorem comp_rest_ro {elt : Expr} {x : Str} {scope : Scope} {cl : List (Str × Addr)} {S : List (Addr × Obj) → Prop} {P : Nat → Value → Prop} {Fin : List Value → List (Addr × Obj) → Prop} {n : Nat} {news₀ : List (Addr × Obj)}
    (J : Nat → List Value → Prop) (h0 : J 0 [])
    (turn : ∀ i v I oI C oC D m₂ ys h tk (E' : Value → Shared → Prop), i < n → P i v → J i ys → LCg.NsObj oC m₂ → m₂ x = some v → Fr h₀ L h m → News h₀ L h ((I, oI) :: (C, oC) :: (D, LCg.lst ys) :: news₀) → LCg.Off3 I C D news₀ → ((@Ne Nat I C) ∧ (@Ne Nat I D) ∧ (@Ne Nat C D)) →
      wpAny (model prog w) A (eval elt (compEnvC scope cl C env)) (LCg.CompEnd h₀ L m { s with heap := h, toks := tk } I oI C oC D (LCg.lst ys) S (fun y news' => news' = news₀ ∧ J (i + 1) (ys ++ [y]))) E' { s with heap := h, toks := tk })
    (fin : ∀ ys, J n ys → Fin ys news₀) : LCg.CompRest prog w A h₀ L m env elt x scope cl s S P Fin n 0 [] news₀ :=
  comp_rest (fun i ys news => news = news₀ ∧ J i ys) ⟨rfl, h0⟩ (fun i v I oI C oC D m₂ ys news h tk E' hi hP ⟨hn, hJ⟩ hC hx F N off ne => by subst hn; exact turn i v I oI C oC D m₂ ys h tk E' hi hP hJ hC hx F N off ne) (fun ys news ⟨hn, hJ⟩ => by subst hn; exact fin ys hJ)
/-- the end of a turn that changes nothing of the ledger -/
theorem comp_end_ro {s₁ : Shared} {I C D : Addr} {oI oC oD : Obj} {S : List (Addr × Obj) → Prop} {news₀ : List (Addr × Obj)} {J : Value → Prop} {y : Value} {h' : Heap} {tk : Nat}
    (F : Fr h₀ L h' m) (N : News h₀ L h' ((I, oI) :: (C, oC) :: (D, oD) :: news₀)) (off : LCg.Off3 I C D news₀) (hS : S news₀) (hJ : J y) :
    LCg.CompEnd h₀ L m s₁ I oI C oC D oD S (fun y news' => news' = news₀ ∧ J y) y { s₁ with heap := h', toks := tk } := ⟨h', tk, news₀, rfl, F, N, off, hS, rfl, hJ⟩
theorem tup_st {ax I : Addr} {its : Array Value} (ht : IsTup h₀ ax its) : ∀ i (h h' : Heap) (o : Obj) (nw : List (Addr × Obj)), (h.IsTupleIter I ax i ∧ h.IsTuple ax its) → h.get? I = some o → h'.get? I = some o → (∀ b o, h₀.get? b = some o → h'.get? b = some o) → News h₀ L h' nw → True → (h'.IsTupleIter I ax i ∧ h'.IsTuple ax its) :=
  fun i h h' o nw st e e' k _ _ => ⟨by obtain ⟨o', q, r⟩ := st.1; rw [e] at q; cases q; exact ⟨o, e', r⟩, by obtain ⟨o', q, r⟩ := ht; exact ⟨o', k _ _ q, r⟩⟩

def CompTup (prog : Program) (w : World) (A : Around) (h₀ : Heap) (L : Addr) (m : Str → Option Value) (env : Env) (elt : Expr) (x : Str) (scope : Scope) (cl : List (Str × Addr)) (y : Str) (Q : Flow → Shared → Prop) (xv : Value) (s₁ : Shared) : Prop :=
  ∃ ax its news, xv = .ref ax ∧ Fr h₀ L s₁.heap m ∧ News h₀ L s₁.heap news ∧ IsTup h₀ ax its ∧ its.size ≤ sizeLine ∧
      ∀ s₂ : Shared, (∃ h, s₂ = { s₁ with heap := h }) → LCg.CompRest prog w A h₀ L m env elt x scope cl s₂ (fun _ => True) (fun i v => its[i]? = some v) (LCg.FinA h₀ L m s₂ y Q) its.size 0 [] news
theorem CompTup.intro {elt : Expr} {x y : Str} {scope : Scope} {cl : List (Str × Addr)} {Q : Flow → Shared → Prop} {s₁ : Shared} {ax : Addr} {its : Array Value} {news : List (Addr × Obj)} (F : Fr h₀ L s₁.heap m) (N : News h₀ L s₁.heap news) (ht : IsTup h₀ ax its) (hsz : its.size ≤ sizeLine)
    (h : ∀ g, LCg.CompRest prog w A h₀ L m env elt x scope cl { s₁ with heap := g } (fun _ => True) (fun i v => its[i]? = some v) (LCg.FinA h₀ L m { s₁ with heap := g } y Q) its.size 0 [] news) : CompTup prog w A h₀ L m env elt x scope cl y Q (.ref ax) s₁ :=
  ⟨ax, its, news, rfl, F, N, ht, hsz, fun _ ⟨g, e⟩ => e ▸ h g⟩

/-- a name filled by a comprehension over a tuple of the base -/
theorem assign_comp_tup {elt iter : Expr} {x y : Str} {px py : Pos} {scope : Scope} {cl : List (Str × Addr)} {pos spos : Pos} {Q : Flow → Shared → Prop} (F₀ : Fr h₀ L s.heap m) (hLe : env.locals = L)
    (hsw : swapsWith (.ListComp elt [⟨.Name x px, iter, [], 0⟩] scope pos) (some (.Name y py)) spos.line env = pure true)
    (hclos : closureFor scope env = pure cl) (hcell : ∀ z ∈ scope.names, z.2 ≠ .cell) (hkind : scope.kind = .function)
    (hnames : ∀ z ∈ scope.names, z.2 = .local → scope.names.lookup z.1 = some .local) (hx : scope.names.lookup x = some .local)
    (hy : env.kindOf y = some .local) (hp : (env.scope.kind == .class || (env.scope.kind == .module && env.locals != env.globals)) = false)
    (hh : A.handled = none)
    (h : wpAny (model prog w) A (eval iter env) (CompTup prog w A h₀ L m env elt x scope cl y Q) E s)
    (hs : ∀ x, foldedSetIterable iter env x = pure x := by intro _; rfl) :
    wpAny (model prog w) A (exec (.Assign [.Name y py] (.ListComp elt [⟨.Name x px, iter, [], 0⟩] scope pos) spos) env) Q E s := by
  subst hLe
  rw [exec_Assign_Name_used _ _ _ _ hsw]
  refine wpAny_bind (wpAny_standAt (wpAny_bind ?_))
  show wpAny _ A (do let _ ← comprehension (.ListComp elt [⟨.Name x px, iter, [], 0⟩] scope pos) scope env _ (newList []) false (eval iter env) (some (assign (.Name y py) env))) _ _ s
  refine wpAny_bind (wpAny_mono (wpAny_comprehension_free (use := some (assign (.Name y py) env)) (Q := fun _ s' => Q .next s') rfl hs hclos hkind hnames
    (wpAny_mono h (fun xv s₁ h₁ => ?_) fun _ _ e => e)) (fun _ s' hq => wpAny_pure (wpAny_pure hq)) fun _ _ e => e)
  obtain ⟨ax, its, news, rfl, F, N, ht, hsz, R⟩ := h₁
  have hl : s₁.heap.IsTuple ax its := by obtain ⟨o, q, r⟩ := ht; exact ⟨o, F.keep _ _ q, r⟩
  have hlt : ax < s₁.heap.objs.size := by obtain ⟨_, e, _⟩ := hl; exact Heap.lt_size e
  refine wpAny_pyIter_tuple hl ?_
  have up : ∀ b o, s₁.heap.get? b = some o → (s₁.heap.push { cls := .type "tuple_iterator", data := .fields #[.ref ax, .int 0 0] }).get? b = some o := fun b o e => Heap.get?_push_of_some _ e
  refine LCg.block_U (Walks.tuple hh s₁.heap.objs.size ax (Nat.ne_of_lt hlt) its) hsz (fun i h st => by obtain ⟨o, e, _⟩ := st.1; exact ⟨o, e⟩) (tup_st ht) hcell hkind hx ⟨⟨_, Heap.get?_push_size _ rfl, rfl, rfl⟩, hl.at fun o e => up _ o e⟩ (fun b hb => ?_)
    (F.keeps up) (N.grown up) (Nat.ne_of_lt F.ns.lt) (next_is_new F) (fun p hp => Nat.ne_of_lt (Heap.lt_size (N p hp).1)) trivial (R _ ⟨_, rfl⟩) ?_
  · show b < (s₁.heap.push _).objs.size
    rw [Heap.size_push]
    rcases List.mem_cons.mp hb with rfl | hb
    · exact Nat.lt_succ_self _
    · rw [List.mem_singleton.mp hb]; exact Nat.lt_succ_of_lt hlt
  · intro D C h' tk m' ys news' F' N' o1 hn hC₀ hD₀ hCL hDL hCD offC fin
    show wpAny _ A (assign (.Name y py) env (.ref D)) _ _ _
    refine wpAny_assign_Name (wpAny_storeName_local hy F'.ns (fun h₂ hn₂ hs₂ => ?_) hp)
    have hL₀ : h₀.get? env.locals = none := Heap.get?_none_of_le F'.above
    have F₂ : Fr h₀ env.locals h₂ (fun z => if z = y then some (.ref D) else m z) := ⟨hn₂, fun b o e => hs₂.extBut b o (fun q => by rw [q, hL₀] at e; cases e) (F'.keep b o e), F'.above⟩
    refine ⟨m', hn.sameBut hs₂ hCL, fun h'' hs'' => fin D h'' _ (F₂.change hs'' hCL hC₀) (fun p hp => ?_) o1⟩
    have z : h₂.get? p.1 = some p.2 := hs₂.extBut _ _ (N' p hp).2.1 (N' p hp).1
    refine ⟨hs''.extBut _ _ ?_ z, (N' p hp).2⟩
    rcases List.mem_cons.mp hp with rfl | hp
    · exact Ne.symm hCD
    · exact offC p hp

theorem item_dict {value slice : PySem.Expr} {d : Addr} {kvs : List (Int × Value)} {k : Int} {t : Tok} {v : Value} {Q : Value → Shared → Prop} (hD : s.heap.DictOf (intKind prog w) d kvs) (hl : valueAt kvs k = some v) (h : Q v { s with toks := s.toks + 1 })
    (hs : subscripted slice false (.ref d) (.int k t) = operate [.ref d, .int k t] (getItem (.ref d) (.int k t)) := by with_unfolding_all rfl) :
    wpAny (model prog w) A (subscriptTail value slice (.ref d) (.int k t)) Q E s :=
  tail_any hD.typeIs slot_dict_getitem.lookup (wpAny_getItem_of (intKind_is _ _ _ _) hD.mapOf hl h) hs
theorem item_list_any {value slice : PySem.Expr} {l : Addr} {vs : List Value} {k : Int} {t : Tok} {v : Value} {Q : Value → Shared → Prop} (hL : s.heap.IsList l vs.toArray) (h0 : 0 ≤ k) (h1 : k < 2 ^ 63) (hx : vs[k.toNat]? = some v) (h : Q v s)
    (hs : subscripted slice false (.ref l) (.int k t) = operate [.ref l, .int k t] (getItem (.ref l) (.int k t)) := by with_unfolding_all rfl) :
    wpAny (model prog w) A (subscriptTail value slice (.ref l) (.int k t)) Q E s :=
  tail_any hL.typeIs slot_list_getitem.lookup (wpAny_getItem_list hL h0 h1 (by simpa using hx) h) hs
end
theorem dictOf_keep {prog : Program} {w : World} {h h' : Heap} {d : Addr} {kvs : List (Int × Value)} (x : h.DictOf (intKind prog w) d kvs) (k : ∀ o, h.get? d = some o → h'.get? d = some o) : h'.DictOf (intKind prog w) d kvs := by
  obtain ⟨o, ho, r⟩ := Heap.dictOf_iff.mp x
  exact Heap.dictOf_iff.mpr ⟨o, k o ho, r⟩
theorem vat_hit {K : Type} [DecidableEq K] {k k' : K} {v : Value} {r : List (K × Value)} (h : k' = k) : valueAt ((k', v) :: r) k = some v := by
  subst h; simp [valueAt]
theorem vat_miss {K : Type} [DecidableEq K] {k k' : K} {v v' : Value} {r : List (K × Value)} (h : k' ≠ k) (h2 : valueAt r k = some v) : valueAt ((k', v') :: r) k = some v := by
  unfold valueAt at h2 ⊢
  rw [List.find?_cons_of_neg (by simpa using h)]
  exact h2
end
section
def cellArity : Kind → Nat → Prop
  | .lut, n => 1 ≤ n ∧ n ≤ 3
  | .cell, n => 1 ≤ n ∧ n ≤ 3
  | k, n => gateArity k n
def cellVal (k : Kind) (tb : Int) (bs : List Int) : Int := match k with
  | .lut => (tb.fdiv (2 ^ (rowNum bs).toNat)).fmod 2
  | .cell => (tb.fdiv (2 ^ (rowNum bs).toNat)).fmod 2
  | k => gateVal k bs
/-- how the param of a cell lies in the heap -/
def ParamAt (h : Heap) (k : Kind) (tb : Int) (p : Value) : Prop := match k with
  | .lut => ∃ t, p = .int tb t
  | .cell => ∃ a s t u, p = .ref a ∧ IsTup h a #[.str s t, .int tb u]
  | _ => p = .none
theorem rowNum_bound : ∀ bs : List Int, bs.length ≤ 3 → (∀ b ∈ bs, b = 0 ∨ b = 1) → 0 ≤ rowNum bs ∧ rowNum bs ≤ 7
  | [], _, _ => by decide
  | [a], _, h => by
    have ha := h a (by simp)
    simp only [rowNum]; omega
  | [a, b], _, h => by
    have ha := h a (by simp)
    have hb := h b (by simp)
    simp only [rowNum]; omega
  | [a, b, c], _, h => by
    have ha := h a (by simp)
    have hb := h b (by simp)
    have hc := h c (by simp)
    simp only [rowNum]; omega
  | _ :: _ :: _ :: _ :: _, h, _ => by simp at h
local macro_rules | `(tactic| walk_at "call ref") => `(tactic| ((with_reducible show wpAny _ _ (call (Value.ref 173) _ _) _ _ _); refine wpAny_call (row_spec (by assumption) (At.nil (by assumption)) (by dsimp only; omega) rfl (by dsimp only; omega) (Heap.IsList.at (by assumption) (fun o e => Fr.keep (by assumption) _ o e)) (by assumption) (by assumption) (by assumption) ?_); intro t₁ h₁ tk₁ kb₁; obtain ⟨F', N'⟩ := after_pure (by assumption) (by assumption) kb₁; (try dsimp only)))
local macro_rules | `(tactic| walk_at "call ref") => `(tactic| ((with_reducible show wpAny _ _ (call (Value.ref 180) _ _) _ _ _); refine wpAny_call (gate_spec (by assumption) (At.nil (by assumption)) (by dsimp only; omega) rfl (by dsimp only; omega) (Heap.IsList.at (by assumption) (fun o e => Fr.keep (by assumption) _ o e)) (by assumption) (by assumption) (by assumption) ?_); intro t₁ h₁ tk₁ kb₁; obtain ⟨F', N'⟩ := after_pure (by assumption) (by assumption) kb₁; (try dsimp only)))
theorem bit_one (x : Int) : Builtin.bitAnd x 1 = x.fmod 2 := by rw [bitAnd_m1, Int.fmod_eq_emod_of_nonneg _ (by decide)]
theorem cellv_spec {w : World} {A : Around} {s : Shared} {h₀ : Heap} {mean mg mb} {bl : Addr} {kd : Kind} {tb : Int} {pv : Value} {vs : List Value} {bs : List Int} {tkd : Tok} {R : Result → Shared → Prop}
    (G : Gd w mean mg mb h₀) (H : At h₀ s.heap []) (hroom : A.depth < 800) (hh : A.handled = none) (hu : A.units < 1900)
    (hb : s.heap.IsList bl vs.toArray) (hi : IntsAre vs bs) (har : cellArity kd bs.length) (h01 : ∀ b ∈ bs, b = 0 ∨ b = 1) (htb : 0 ≤ tb) (hp : ParamAt s.heap kd tb pv)
    (k : ∀ t h' tk, KeepBut [] s.heap h' → R (.ok (.ret (.int (cellVal kd tb bs) t))) { s with heap := h', toks := tk }) :
    codeAny (model PySem.Challenge.rw_on0104_01.row.prog w) A (.call (.ref 187) ⟨[.str kd.str tkd, pv, .ref bl], []⟩) R s := by
  obtain ⟨hdl, dd, fr, gs, uu⟩ := A
  simp only at hh hroom hu
  subst hh
  refine' callD G H ?k6 ?k7 ?k8 ?k9 ?kB ?_ ?c2 ?c3 ?c4 ?c5
  walk_at "ENTER"
  intro dd9 uu9 fr9 hdd9 huu9 g L' h₁ F' N' G' st' old lt' back
  show wpAny _ { handled := none, depth := dd9, frames := fr9, guards := gs, units := uu9 } _ _ _ _
  simp only at hdd9 huu9
  have X' : (Mine.hd.heap_1 w.params).In g := G'.X
  have T' := G'.T
  have hr : g.IsList bl vs.toArray := hb.at fun o e => old _ _ e (by simp)
  have k' : ∀ v t h' tk L m, cellVal kd tb bs = v → Fr g L h' m → R (.ok (.ret (.int v t))) { s with heap := h', toks := tk } :=
    fun v t h' tk L m e F => e ▸ k t h' tk (keepBut_of old F)
  have hp' : ParamAt g kd tb pv := by
    cases kd <;> simp only [ParamAt] at hp ⊢ <;> try exact hp
    obtain ⟨a, s, t, u, e, o, ho, r⟩ := hp
    exact ⟨a, s, t, u, e, o, old _ _ ho (by simp), r⟩
  clear hb old st' H G k back lt' hp
  have hlen3 : bs.length ≤ 3 := by cases kd <;> simp only [cellArity, gateArity] at har <;> omega
  have hrb := rowNum_bound bs hlen3 h01
  by_cases hl : kd = .lut
  · subst hl
    obtain ⟨tp, rfl⟩ := hp'
    simp only [Kind.str] at *
    walk_at "GO"
    try dsimp only
    exact k' _ _ _ _ _ _ (by simp only [cellVal]; rw [bit_one]) (by assumption)
  by_cases hc : kd = .cell
  · subst hc
    obtain ⟨pa, ps, pt, pu, rfl, htup⟩ := hp'
    simp only [Kind.str] at *
    walk_at "GO"
    try dsimp only
    exact k' _ _ _ _ _ _ (by simp only [cellVal]; rw [bit_one]) (by assumption)
  have har' : gateArity kd bs.length := by cases kd <;> simp_all [cellArity]
  have hx1 : (kd.str == Str.ofString "lut") = false := by cases kd <;> first | decide | contradiction
  have hx2 : (kd.str == Str.ofString "cell") = false := by cases kd <;> first | decide | contradiction
  walk_at "GO"
  try dsimp only
  exact k' _ _ _ _ _ _ (by cases kd <;> first | rfl | contradiction) (by assumption)
end
section
def IsNoneOr (k : Kind) (tb : Int) (p : Value) : Prop := match k with
  | .lut => ∃ t, p = .int tb t
  | .cell => ∃ t, p = .int tb t
  | _ => p = .none
local macro_rules | `(tactic| walk_at "exec Assign cons ListComp") => `(tactic| (k_dflt (refine assign_comp_tup (by k_asm) (by rfl) (by with_unfolding_all rfl) (by with_unfolding_all rfl) (by decide) (by rfl) (by decide) (by rfl) (by rfl) (by rfl) rfl ?_)))
local macro_rules | `(tactic| walk_at "subscriptTail Name Name ref int") => `(tactic| (k_dflt (refine item_dict (by assumption) (by assumption) ?_)))
local macro_rules | `(tactic| walk_at "VALUEAT") => `(tactic| first | (with_reducible exact vat_hit rfl) | (refine vat_miss (by decide +kernel) ?_; walk_at "VALUEAT"))
local macro_rules | `(tactic| walk_at "KdnMade") => `(tactic| (k_dflt (refine' kdn_made_str ?F ?N ?U ?d ?k ?n ?_; (case F => k_asm); (case N => k_asm); (case U => k_updF); (case d => k_asm); (case k => rfl); (case n => exact of_decide_eq_true (by kernel_rfl!)); intro h' o' F' N' hd'); (try dsimp only at N'); (simp only [strPairs] at hd')))
local macro_rules | `(tactic| walk_at "subscriptTail") => `(tactic| ((with_reducible show wpAny _ _ (subscriptTail _ _ (Value.ref _) (Value.str _ _)) _ _ _); k_dflt (refine' kda_item (knd := PySem.strKind _ _) ?N ?m ?d (strKind_is _ _ _ _) ?l ?_; (case N => k_asm); (case m => k_mem); (case d => k_asm); (case l => walk_at "VALUEAT"))))
theorem pow2_ne (n : Nat) : (2 : Int) ^ n ≠ 0 := by
  have : (0 : Int) < 2 ^ n := Int.pow_pos (by decide)
  omega
theorem pow2_log2 {n : Nat} (h : n ≤ 1000) : ((2 : Int) ^ n).natAbs.log2 < 9000 := by
  rw [Int.natAbs_pow]
  show (2 ^ n).log2 < 9000
  rw [Nat.log2_two_pow]; omega
local macro_rules | `(tactic| walk_at "binaryOp Pow int int") => `(tactic| (k_dflt (refine pow_int_small (by first | omega | (simp; omega) | (simp; done)) (by first | omega | (simp; omega) | (simp; done)) (by decide) ?_)))
local macro_rules | `(tactic| walk_at "binaryOp FloorDiv int int") => `(tactic| (k_dflt (refine floordiv_int (pow2_ne _) ?_ (Or.inl (PyProof.noPylong_of_log2 (pow2_log2 (by first | omega | (simp; omega) | (simp; done))))))))
theorem kd_split (kd : Kind) : kd = .mux ∨ (kd = .buf ∨ kd = .not) ∨ (kd = .and ∨ kd = .or ∨ kd = .xor ∨ kd = .nand ∨ kd = .nor ∨ kd = .xnor) ∨ (kd = .lut ∨ kd = .cell) := by cases kd <;> simp
theorem lens {n : Nat} (h : 1 ≤ n ∧ n ≤ 3) : n = 1 ∨ n = 2 ∨ n = 3 := by omega
theorem ints1 {ys : List Value} {a : Int} (h : IntsAre ys [a]) : ∃ t, ys = [.int a t] := by
  cases h with | cons _ t h => cases h; exact ⟨_, rfl⟩
theorem ints2 {ys : List Value} {a b : Int} (h : IntsAre ys [a, b]) : ∃ t u, ys = [.int a t, .int b u] := by
  cases h with | cons _ t h => cases h with | cons _ u h => cases h; exact ⟨_, _, rfl⟩
theorem ints3 {ys : List Value} {a b c : Int} (h : IntsAre ys [a, b, c]) : ∃ t u v, ys = [.int a t, .int b u, .int c v] := by
  cases h with | cons _ t h => cases h with | cons _ u h => cases h with | cons _ v h => cases h; exact ⟨_, _, _, rfl⟩
theorem out_spec {w : World} {A : Around} {s : Shared} {h₀ : Heap} {mean mg mb} {ct ia du : Addr} {kd : Kind} {tb : Int} {tv : Value} {ivs : List Value} {ins : List Int} {val : Int → Int} {kvs : List (Int × Value)} {tkd : Tok} {R : Result → Shared → Prop}
    (G : Gd w mean mg mb h₀) (H : At h₀ s.heap []) (hroom : A.depth < 800) (hh : A.handled = none) (hu : A.units < 1900)
    (hc : IsTup s.heap ct #[.str kd.str tkd, .ref ia, tv]) (ht : IsTup s.heap ia ivs.toArray) (hi : IntsAre ivs ins) (hD : s.heap.DictOf (intKind PySem.Challenge.rw_on0104_01.row.prog w) du kvs)
    (hv : ∀ n ∈ ins, ∃ t, valueAt kvs n = some (.int (val n) t)) (har : cellArity kd ins.length) (h01 : ∀ n ∈ ins, val n = 0 ∨ val n = 1) (htb : 0 ≤ tb) (hp : IsNoneOr kd tb tv)
    (k : ∀ t h' tk, KeepBut [] s.heap h' → R (.ok (.ret (.int (cellVal kd tb (ins.map val)) t))) { s with heap := h', toks := tk }) :
    codeAny (model PySem.Challenge.rw_on0104_01.row.prog w) A (.call (.ref 204) ⟨[.ref ct, .ref du], []⟩) R s := by
  obtain ⟨hdl, dd, fr, gs, uu⟩ := A
  simp only at hh hroom hu
  subst hh
  refine' callDC G H ?k6 ?k7 ?k8 ?k9 ?kB ?kD ?_ ?c2 ?c3 ?c4
  case k6 => k_is
  case k7 => k_is
  case k8 => simp only [recursionLimit]; omega
  case k9 => exact BindsTo.of_eq rfl
  case kD => decide +kernel
  case kB => exact rfl
  case c2 => exact rfl
  case c3 => exact rfl
  case c4 => exact rfl
  intro dd9 uu9 fr9 hdd9 huu9 g L' h₁ tk₁ cells F' N' Y' G' st' old lt' back
  k_cells Y'
  simp only [List.cons_append, List.nil_append] at N'
  show wpAny _ { handled := none, depth := dd9, frames := fr9, guards := gs, units := uu9 } _ _ _ _
  simp only at hdd9 huu9
  have X' : (Mine.hd.heap_1 w.params).In g := G'.X
  have T' := G'.T
  have hc' : IsTup g ct #[.str kd.str tkd, .ref ia, tv] := by obtain ⟨o, ho, r⟩ := hc; exact ⟨o, old _ _ ho (by simp), r⟩
  have ht' : IsTup g ia ivs.toArray := by obtain ⟨o, ho, r⟩ := ht; exact ⟨o, old _ _ ho (by simp), r⟩
  have hD' : g.DictOf (intKind PySem.Challenge.rw_on0104_01.row.prog w) du kvs := dictOf_keep hD fun o e => old _ _ e (by simp)
  have k' : ∀ v t h' tk L m, cellVal kd tb (ins.map val) = v → Fr g L h' m → R (.ok (.ret (.int v t))) { s with heap := h', toks := tk } :=
    fun v t h' tk L m e F => e ▸ k t h' tk (keepBut_of old F)
  clear hc ht hD old st' H G k back lt'
  have hlen3 : ins.length ≤ 3 := by cases kd <;> simp only [cellArity, gateArity] at har <;> omega
  have hlen1 : 1 ≤ ins.length := by cases kd <;> simp only [cellArity, gateArity] at har <;> omega
  walk_at "GO"
  refine CompTup.intro (by assumption) (by assumption) ht' (by rw [sizeLine_eq]; simp only [List.size_toArray, hi.length]; omega) ?_
  intro g'
  refine comp_rest_ro (fun i ys => IntsAre ys ((ins.take i).map val)) .nil ?_ ?_
  · intro i v I oI C oC D m₂ ys h tk E' hin hP hJ hC hx F N off ne
    have hil : i < ins.length := by rw [← hi.length]; simpa using hin
    obtain ⟨t, hit⟩ := hi.get i ins[i] (by simp [hil])
    have hve : v = .int ins[i] t := by
      have hP' : ivs[i]? = some v := by simpa using hP
      rw [hit] at hP'; exact (Option.some.inj hP').symm
    subst hve
    obtain ⟨tv', hval⟩ := hv ins[i] (List.getElem_mem hil)
    have hDn : h.DictOf (intKind PySem.Challenge.rw_on0104_01.row.prog w) du kvs := dictOf_keep hD' fun o e => F.keep _ _ e
    walk_at "GO"
    refine comp_end_ro (by assumption) (by assumption) off trivial ?_
    rw [List.take_add_one, List.getElem?_eq_getElem hil]
    rw [List.map_append]; exact IntsAre.append hJ (.cons _ _ .nil)
  · intro ys hys
    rw [List.take_of_length_le (by simp [hi.length])] at hys
    intro D h tk F N o1
    have h01' : ∀ b ∈ ins.map val, b = 0 ∨ b = 1 := fun b hb => by
      obtain ⟨n, hn, rfl⟩ := List.mem_map.mp hb
      exact h01 n hn
    have hlen3' : (ins.map val).length ≤ 3 := by simpa using hlen3
    have hrb := rowNum_bound _ hlen3' h01'
    have har' : cellArity kd (ins.map val).length := by simpa using har
    clear hi hv har h01 ht' hD' hc' hlen3 hlen1 hlen3'
    generalize ins.map val = bs at *
    clear ivs ins val kvs
    rcases kd_split kd with rfl | hk | hk | hk
    · have hp1 : tv = .none := hp
      subst hp1
      obtain ⟨a, b, c, rfl⟩ := len3 har'
      obtain ⟨ta, tb', tc, rfl⟩ := ints3 hys
      have ha := h01' a (by simp)
      have hb := h01' b (by simp)
      have hc := h01' c (by simp)
      clear h01' har' hp hrb
      simp only [Kind.str] at *
      walk_at "GO"
      all_goals (refine k' _ _ _ _ _ _ ?_ (by assumption))
      all_goals (clear k')
      all_goals (rcases ha with rfl | rfl <;> rcases hb with rfl | rfl <;> rcases hc with rfl | rfl <;> first | rfl | decide | (simp_all; done))
    · have hp1 : tv = .none := by rcases hk with rfl | rfl <;> exact hp
      have hl1 : bs.length = 1 := by rcases hk with rfl | rfl <;> exact har'
      have hm1 : (kd.str == Str.ofString "mux") = false := by rcases hk with rfl | rfl <;> decide
      subst hp1
      obtain ⟨a, rfl⟩ := len1 hl1
      obtain ⟨ta, rfl⟩ := ints1 hys
      have ha := h01' a (by simp)
      clear h01' har' hl1 hp hrb
      walk_at "GO"
      rcases hk with rfl | rfl
      all_goals (simp only [Kind.str])
      all_goals walk_at "GO"
      all_goals (try dsimp only)
      all_goals (refine k' _ _ _ _ _ _ ?_ (by assumption))
      all_goals (clear k')
      all_goals (rcases ha with rfl | rfl <;> first | rfl | decide | (simp_all; done))
    · have hp1 : tv = .none := by rcases hk with rfl | rfl | rfl | rfl | rfl | rfl <;> exact hp
      have hl1 : bs.length = 2 := by rcases hk with rfl | rfl | rfl | rfl | rfl | rfl <;> exact har'
      have hm1 : (kd.str == Str.ofString "mux") = false := by rcases hk with rfl | rfl | rfl | rfl | rfl | rfl <;> decide
      subst hp1
      obtain ⟨a, b, rfl⟩ := len2 hl1
      obtain ⟨ta, tb', rfl⟩ := ints2 hys
      have ha := h01' a (by simp)
      have hb := h01' b (by simp)
      clear h01' har' hl1 hp hrb
      walk_at "GO"
      rcases hk with rfl | rfl | rfl | rfl | rfl | rfl
      all_goals (simp only [Kind.str])
      all_goals walk_at "GO"
      all_goals (try dsimp only)
      all_goals (refine k' _ _ _ _ _ _ ?_ (by assumption))
      all_goals (clear k')
      all_goals (rcases ha with rfl | rfl <;> rcases hb with rfl | rfl <;> first | rfl | decide | (simp_all; done))
    · have hp1 : ∃ tvt, tv = .int tb tvt := by rcases hk with rfl | rfl <;> exact hp
      have hl1 : 1 ≤ bs.length ∧ bs.length ≤ 3 := by rcases hk with rfl | rfl <;> exact har'
      have hm1 : (kd.str == Str.ofString "mux") = false := by rcases hk with rfl | rfl <;> decide
      have hcv : cellVal kd tb bs = (tb.fdiv (2 ^ (rowNum bs).toNat)).fmod 2 := by rcases hk with rfl | rfl <;> rfl
      obtain ⟨tvt, rfl⟩ := hp1
      rw [hcv] at k'
      clear hcv hp har' hk
      rcases lens hl1 with hl1 | hl1 | hl1
      · obtain ⟨a, rfl⟩ := len1 hl1
        obtain ⟨ta, rfl⟩ := ints1 hys
        have ha := h01' a (by simp)
        clear h01' hl1
        walk_at "GO"
        all_goals (try dsimp only)
        all_goals (refine k' _ _ _ _ _ _ ?_ (by assumption))
        all_goals (clear k' hrb)
        all_goals (rcases ha with rfl | rfl <;> first | rfl | decide | (simp_all; done))
      · obtain ⟨a, b, rfl⟩ := len2 hl1
        obtain ⟨ta, tb', rfl⟩ := ints2 hys
        have ha := h01' a (by simp)
        have hb := h01' b (by simp)
        clear h01' hl1
        walk_at "GO"
        all_goals (try dsimp only)
        all_goals (refine k' _ _ _ _ _ _ ?_ (by assumption))
        all_goals (clear k' hrb)
        all_goals (rcases ha with rfl | rfl <;> rcases hb with rfl | rfl <;> first | rfl | decide | (simp_all; done))
      · obtain ⟨a, b, c, rfl⟩ := len3 hl1
        obtain ⟨ta, tb', tc, rfl⟩ := ints3 hys
        have ha := h01' a (by simp)
        have hb := h01' b (by simp)
        have hc := h01' c (by simp)
        clear h01' hl1
        walk_at "GO"
        all_goals (try dsimp only)
        all_goals (refine k' _ _ _ _ _ _ ?_ (by assumption))
        all_goals (clear k' hrb)
        all_goals (rcases ha with rfl | rfl <;> rcases hb with rfl | rfl <;> rcases hc with rfl | rfl <;> first | rfl | decide | (simp_all; done))
end
section
structure CellD where
  kind : Kind
  out : Int
  ins : List Int
  tb : Int
/-- how the param of a cell lies, over a word for «a tuple stands at» -/
def ParamP (T : Addr → Array Value → Prop) (k : Kind) (tb : Int) (p : Value) : Prop := match k with
  | .lut => ∃ t, p = .int tb t
  | .cell => ∃ a s t u, p = .ref a ∧ T a #[.str s t, .int tb u]
  | _ => p = .none
theorem ParamP.at {h : Heap} {k : Kind} {tb : Int} {p : Value} (x : ParamP (IsTup h) k tb p) : ParamAt h k tb p := by
  cases k <;> exact x
theorem ParamP.mono {T T' : Addr → Array Value → Prop} {k : Kind} {tb : Int} {p : Value} (x : ParamP T k tb p) (m : ∀ a its, T a its → T' a its) : ParamP T' k tb p := by
  cases k <;> simp only [ParamP] at x ⊢ <;> try exact x
  obtain ⟨a, s, t, u, e, ht⟩ := x
  exact ⟨a, s, t, u, e, m _ _ ht⟩
/-- a cell's tuple, as the netlist holds it -/
def CellP (T : Addr → Array Value → Prop) (v : Value) (c : CellD) : Prop :=
  ∃ a t1 t2 ia p ivs, v = .ref a ∧ T a #[.str c.kind.str t1, .int c.out t2, .ref ia, p] ∧ T ia ivs.toArray ∧ IntsAre ivs c.ins ∧ ParamP T c.kind c.tb p
theorem CellP.mono {T T' : Addr → Array Value → Prop} {v : Value} {c : CellD} (x : CellP T v c) (m : ∀ a its, T a its → T' a its) : CellP T' v c := by
  obtain ⟨a, t1, t2, ia, p, ivs, e, ht, hi, hn, hp⟩ := x
  exact ⟨a, t1, t2, ia, p, ivs, e, m _ _ ht, m _ _ hi, hn, hp.mono m⟩
def CellsP (T : Addr → Array Value → Prop) (vs : List Value) (cs : List CellD) : Prop := vs.length = cs.length ∧ ∀ (i : Nat) (c : CellD), cs[i]? = some c → ∃ v, vs[i]? = some v ∧ CellP T v c
theorem CellsP.mono {T T' : Addr → Array Value → Prop} {vs : List Value} {cs : List CellD} (x : CellsP T vs cs) (m : ∀ a its, T a its → T' a its) : CellsP T' vs cs :=
  ⟨x.1, fun i c e => let ⟨v, hv, hc⟩ := x.2 i c e; ⟨v, hv, hc.mono m⟩⟩
theorem CellsP.snoc {T : Addr → Array Value → Prop} {vs : List Value} {cs : List CellD} {v : Value} {c : CellD} (x : CellsP T vs cs) (h : CellP T v c) : CellsP T (vs ++ [v]) (cs ++ [c]) := by
  refine ⟨by simp [x.1], fun i c' e => ?_⟩
  by_cases hi : i < cs.length
  · rw [List.getElem?_append_left hi] at e
    obtain ⟨v', hv, hc⟩ := x.2 i c' e
    exact ⟨v', by rw [List.getElem?_append_left (by rw [x.1]; exact hi)]; exact hv, hc⟩
  · rw [List.getElem?_append_right (by omega)] at e
    have hz : i - cs.length = 0 := by
      cases q : i - cs.length with
      | zero => rfl
      | succ n => rw [q] at e; simp at e
    rw [hz] at e
    simp at e
    subst e
    exact ⟨v, by rw [List.getElem?_append_right (by rw [x.1]; omega), x.1, hz]; rfl, h⟩
abbrev CellAt (h : Heap) (v : Value) (c : CellD) : Prop := CellP (IsTup h) v c
abbrev CellsAt (h : Heap) (vs : List Value) (cs : List CellD) : Prop := CellsP (IsTup h) vs cs
theorem tup_upto {h h' : Heap} {a : Addr} {its : Array Value} (x : IsTup h a its) (k : ∀ b o, h.get? b = some o → o.cls = .type "tuple" → h'.get? b = some o) : IsTup h' a its := by
  obtain ⟨o, ho, hc, r⟩ := x
  exact ⟨o, k _ _ ho hc, hc, r⟩
theorem cellsAt_keeps {h h' : Heap} {vs : List Value} {cs : List CellD} (x : CellsAt h vs cs) (k : ∀ b o, h.get? b = some o → o.cls = .type "tuple" → h'.get? b = some o) : CellsAt h' vs cs := x.mono fun _ _ t => tup_upto t k
theorem param_keep {h h' : Heap} {k : Kind} {tb : Int} {p : Value} (x : ParamP (IsTup h) k tb p) (st : ∀ b o, h.get? b = some o → h'.get? b = some o) : ParamAt h' k tb p := (x.mono fun _ _ t => t.keeps st).at
/-- the attributes of the netlist -/
abbrev nlEs (P : Params) (k1 k2 k3 k4 k5 : Tok) (nm : Value) (cnt : Int) (ct : Tok) (inp outp cel : Addr) : List DictEntry :=
  [⟨PyData.keyHash P (Str.ofString "name"), .str (Str.ofString "name") k1, nm⟩, ⟨PyData.keyHash P (Str.ofString "count"), .str (Str.ofString "count") k2, .int cnt ct⟩,
   ⟨PyData.keyHash P (Str.ofString "inputs"), .str (Str.ofString "inputs") k3, .ref inp⟩, ⟨PyData.keyHash P (Str.ofString "outputs"), .str (Str.ofString "outputs") k4, .ref outp⟩,
   ⟨PyData.keyHash P (Str.ofString "cells"), .str (Str.ofString "cells") k5, .ref cel⟩]
def evalStep (cs : List CellD) (vals : List Int) (i : Int) : List Int := match cs[i.toNat]? with
  | some c => vals.set c.out.toNat (cellVal c.kind c.tb (c.ins.map fun n => vals.getD n.toNat 0))
  | none => vals

theorem call_stop {M : Model} {A : Around} {c : Code} {R : Result → Shared → Prop} {s : Shared} (h : id (codeAny M A c R s)) : codeAny M A c R s := h
def Stop (p : Prop) : Prop := p
section
variable {prog : Program} {w : World} {A : Around} {E : Value → Shared → Prop} {s : Shared} {env : Env} {h₀ : Heap} {x : Str} {body : List Stmt} {Q : Flow → Shared → Prop}
theorem For_stop {m : Str → Option Value} {px pos : Pos} {iter : Expr} (_F : Fr h₀ env.locals s.heap m) (hx : env.kindOf x = some .local)
    (hp : (env.scope.kind == .class || (env.scope.kind == .module && env.locals != env.globals)) = false)
    (h : wpAny (model prog w) A (eval iter env) (fun xv s₁ => Stop (wpAny (model prog w) A (pyIter xv) (fun it s₂ => LoopAtV prog w A h₀ env x body Q (fun _ _ => False) it s₂) (fun _ _ => False) s₁)) (fun _ _ => False) s)
    (hs : ∀ x, foldedSetIterable iter env x = pure x := by intro _; rfl) :
    wpAny (model prog w) A (exec (.For (.Name x px) iter body [] pos) env) Q (fun _ _ => False) s := For_invVF _F hx hp h hs PassesOwn.never
end
end
section
section
variable {prog : Program} {w : World} {A : Around} {E : Value → Shared → Prop} {s : Shared} {env : Env} {h₀ : Heap} {x : Str} {body : List Stmt} {Q : Flow → Shared → Prop}
def InvEndX (h₀ : Heap) (L : Addr) (J : (Str → Option Value) → List (Addr × Obj) → Prop) (I : Addr) (oI : Obj) (s₁ s₂ : Shared) : Prop :=
  ∃ h' tk m' news' nx, s₂ = { s₁ with heap := h', toks := tk } ∧ Fr h₀ L h' m' ∧ News h₀ L h' news' ∧ (∀ p ∈ nx, p ∈ news') ∧ (I, oI) ∈ news' ∧ (∀ p ∈ nx, p.1 ≠ I) ∧ J m' nx
def InvPostX (h₀ : Heap) (L : Addr) (J : (Str → Option Value) → List (Addr × Obj) → Prop) (I : Addr) (oI : Obj) (s₁ : Shared) (Q : Flow → Shared → Prop) (f : Flow) (s₂ : Shared) : Prop :=
  match f with
  | .ret v => Q (.ret v) s₂
  | .brk => Q .next s₂
  | _ => InvEndX h₀ L J I oI s₁ s₂
theorem InvEndX.intro {L : Addr} {J : (Str → Option Value) → List (Addr × Obj) → Prop} {m' : Str → Option Value} {news' nx : List (Addr × Obj)} {I : Addr} {oI : Obj} {s₁ : Shared} {h' : Heap} {tk : Nat} (F : Fr h₀ L h' m') (N : News h₀ L h' news')
    (hj : J m' nx) (hn : ∀ p ∈ nx, p ∈ news') (hI : (I, oI) ∈ news') (ho : ∀ p ∈ nx, p.1 ≠ I) : InvEndX h₀ L J I oI s₁ { s₁ with heap := h', toks := tk } := ⟨h', tk, m', news', nx, rfl, F, N, hn, hI, ho, hj⟩

theorem loop_X {I : Addr} {fp : List Addr} {n : Nat} {P : Nat → Value → Prop} {St : Nat → Heap → Prop} {m₀ : Str → Option Value} {news : List (Addr × Obj)} (J : Nat → (Str → Option Value) → List (Addr × Obj) → Prop)
    (W : Walks prog w A I fp [I] n P St) (hLf : env.locals ∉ fp) (hI₀ : h₀.get? I = none) (hIo : ∀ i h, St i h → ∃ o, h.get? I = some o)
    (hfp : ∀ b ∈ fp, b = I ∨ (∃ o, h₀.get? b = some o) ∨ ∃ lo, ∀ j m nx, J j m nx → (b, lo) ∈ nx)
    (hst : St 0 s.heap) (F : Fr h₀ env.locals s.heap m₀) (N : News h₀ env.locals s.heap news) (hnI : ∀ p ∈ news, p.1 ≠ I) (hj : J 0 m₀ news)
    (turn : ∀ i v m₁ news₁ h tk I oI, i < n → P i v → J i m₁ news₁ → (∀ p ∈ news₁, p.1 ≠ I) → Fr h₀ env.locals h (fun y => if y = x then some v else m₁ y) → News h₀ env.locals h (news₁ ++ [(I, oI)]) →
      wpAny (model prog w) A (execs body env) (InvPostX h₀ env.locals (J (i + 1)) I oI { s with heap := h, toks := tk } Q) E { s with heap := h, toks := tk })
    (done : ∀ m₁ news₁ h tk, J n m₁ news₁ → Fr h₀ env.locals h m₁ → News h₀ env.locals h news₁ → Q .next { s with heap := h, toks := tk }) :
    LoopAtV prog w A h₀ env x body Q E (.ref I) s := by
  refine ⟨I, fp, [I], n, P, St, m₀, news, J, rfl, W, hLf, fun b hb => by rw [List.mem_singleton.mp hb]; exact hI₀, fun p hp hq => hnI p hp (List.mem_singleton.mp hq), hst, F, N, hj, ?_, ?_⟩
  · rintro i v m₁ news₁ s₁ own ⟨hh', tk', rfl⟩ hin hP hJ hoff hown hget hall hst₁ F₁ N₁
    obtain ⟨oI, heI⟩ := hIo _ _ hst₁
    have hIfp : I ∈ fp := W.sub I (.head _)
    have hIown : (I, oI) ∈ own := hall I hIfp hI₀ _ heI
    have hn1 : ∀ p ∈ news₁, p.1 ≠ I := fun p hp q => hoff p hp (List.mem_singleton.mpr q)
    refine wpAny_mono (turn i v m₁ news₁ hh' tk' I oI hin hP hJ hn1 F₁ fun p hp => ?_) (fun f s₂ p => ?_) fun _ _ e => e
    · rcases List.mem_append.mp hp with q | q
      · exact N₁ p (List.mem_append_right _ q)
      · rw [List.mem_singleton.mp q]; exact N₁ _ (List.mem_append_left _ hIown)
    · have fin : InvEndX h₀ env.locals (J (i + 1)) I oI { s with heap := hh', toks := tk' } s₂ → LoopStepU h₀ env.locals [I] own (J (i + 1)) { s with heap := hh', toks := tk' } .next s₂ := by
        rintro ⟨h', tk, m', news', nx, e, F', N', hn, hI', ho, hm⟩
        refine ⟨rfl, h', tk, m', nx, e, F', fun q hq => ?_, fun p hp hq => ho p hp (List.mem_singleton.mp hq), hm⟩
        rcases List.mem_append.mp hq with hq | hq
        · rcases hfp q.1 (hown q hq) with e1 | ⟨o, e1⟩ | ⟨lo, e1⟩
          · have e2 := hget q hq
            rw [e1] at e2
            have e3 : q = (I, oI) := by
              obtain ⟨q1, q2⟩ := q
              simp only at e1 e2
              subst e1
              rw [heI] at e2
              rw [Option.some.inj e2]
            rw [e3]
            exact N' _ hI'
          · have := (N₁ q (List.mem_append_left _ hq)).2.2
            rw [e1] at this; cases this
          · have e2 := hget q hq
            have e3 := (N₁ _ (List.mem_append_right _ (e1 _ _ _ hJ))).1
            have e4 : q = (q.1, lo) := by
              obtain ⟨q1, q2⟩ := q
              simp only at e2 e3 ⊢
              rw [e2] at e3
              rw [Option.some.inj e3]
            rw [e4]
            exact N' _ (hn _ (e1 _ _ _ hm))
        · exact N' q (hn q hq)
      cases f with
      | ret v => exact .ret p
      | brk => exact .brk p
      | next => exact .next (fin p)
      | cont => exact .cont (fin p)
  · rintro h' tk m' news' F' N' _ hJ
    exact done m' news' h' tk hJ F' N'

/-- a turn over range(n) -/
theorem iter_range_X {r : Addr} {b₀ : Int} {t₀ u₀ v₀ : Tok} {n : Nat} {m₀ : Str → Option Value} {news : List (Addr × Obj)} (J : Nat → (Str → Option Value) → List (Addr × Obj) → Prop)
    (hh : A.handled = none) (hr : IsRange s.heap r 0 b₀ 1 t₀ u₀ v₀) (hn : b₀ = (n : Int)) (hn2 : n < 1000000) (F : Fr h₀ env.locals s.heap m₀) (N : News h₀ env.locals s.heap news) (hj : J 0 m₀ news)
    (turn : ∀ (i : Nat) t m₁ news₁ h tk I oI, i < n → J i m₁ news₁ → (∀ p ∈ news₁, p.1 ≠ I) → Fr h₀ env.locals h (fun y => if y = x then some (.int (i : Int) t) else m₁ y) → News h₀ env.locals h (news₁ ++ [(I, oI)]) →
      wpAny (model prog w) A (execs body env) (InvPostX h₀ env.locals (J (i + 1)) I oI { s with heap := h, toks := tk } Q) E { s with heap := h, toks := tk })
    (done : ∀ m₁ news₁ h tk, J n m₁ news₁ → Fr h₀ env.locals h m₁ → News h₀ env.locals h news₁ → Q .next { s with heap := h, toks := tk }) :
    wpAny (model prog w) A (pyIter (.ref r)) (fun it s₂ => LoopAtV prog w A h₀ env x body Q E it s₂) E s := by
  subst hn
  have hsm : Builtin.Range.small 0 (n : Int) 1 = true := small_one (by omega) (by omega) (by omega) (by omega)
  have hsz : Builtin.Range.rangeSize 0 (n : Int) 1 = (n : Int) := by
    have := rangeSize_nat 0 (n : Int)
    rw [this]; omega
  refine wpAny_pyIter_range hr hsm ?_
  have W : Walks prog w A s.heap.objs.size [s.heap.objs.size] [s.heap.objs.size] n (fun i v => i < n ∧ ∃ t, v = .int (0 + i * 1) t)
      (fun i h => IsRangeIter h s.heap.objs.size (0 + (i : Nat) * 1) ((n : Int) - (i : Nat)) 1) := (Walks.range hh _ 0 1 n).bound
  refine loop_X J W (fun hm => absurd F.ns.lt ((List.mem_singleton.mp hm) ▸ Nat.lt_irrefl _)) (next_is_new F) (fun i h st => ⟨_, st⟩) (fun b hb => .inl (List.mem_singleton.mp hb))
    (by show IsRangeIter _ _ _ _ _; rw [hsz]; simpa using Heap.get?_push_size _ rfl) (F.push _) (fun p hp => ⟨Heap.get?_push_of_some _ (N p hp).1, (N p hp).2⟩) (fun p hp => Nat.ne_of_lt (Heap.lt_size (N p hp).1)) hj ?_ done
  rintro i v m₁ news₁ h tk I oI hi ⟨_, t, rfl⟩ hJ hnI F₁ N₁
  have e1 : (0 : Int) + (i : Int) * 1 = (i : Int) := by omega
  rw [e1] at F₁
  exact turn i t m₁ news₁ h tk I oI hi hJ hnI F₁ N₁

/-- a turn over a tuple of the base -/
theorem iter_tup_X {ax : Addr} {its : Array Value} {m₀ : Str → Option Value} {news : List (Addr × Obj)} (J : Nat → (Str → Option Value) → List (Addr × Obj) → Prop)
    (hh : A.handled = none) (ht : IsTup h₀ ax its) (F : Fr h₀ env.locals s.heap m₀) (N : News h₀ env.locals s.heap news) (hj : J 0 m₀ news)
    (turn : ∀ (i : Nat) v m₁ news₁ h tk I oI, i < its.size → its[i]? = some v → J i m₁ news₁ → (∀ p ∈ news₁, p.1 ≠ I) → Fr h₀ env.locals h (fun y => if y = x then some v else m₁ y) → News h₀ env.locals h (news₁ ++ [(I, oI)]) →
      wpAny (model prog w) A (execs body env) (InvPostX h₀ env.locals (J (i + 1)) I oI { s with heap := h, toks := tk } Q) E { s with heap := h, toks := tk })
    (done : ∀ m₁ news₁ h tk, J its.size m₁ news₁ → Fr h₀ env.locals h m₁ → News h₀ env.locals h news₁ → Q .next { s with heap := h, toks := tk }) :
    wpAny (model prog w) A (pyIter (.ref ax)) (fun it s₂ => LoopAtV prog w A h₀ env x body Q E it s₂) E s := by
  obtain ⟨o, ho, hc⟩ := ht
  have hl : s.heap.IsTuple ax its := ⟨o, F.keep _ _ ho, hc⟩
  have hlt : ax < h₀.objs.size := Heap.lt_size ho
  have hne : ax ≠ s.heap.objs.size := Nat.ne_of_lt (Nat.lt_trans (Nat.lt_of_lt_of_le hlt F.above) F.ns.lt)
  refine wpAny_pyIter_tuple hl ?_
  refine loop_X J (Walks.tuple hh s.heap.objs.size ax hne its) (fun hm => ?_) (next_is_new F) (fun i h st => by obtain ⟨o, e, _⟩ := st.1; exact ⟨o, e⟩) (fun b hb => ?_)
    ⟨⟨_, Heap.get?_push_size _ rfl, rfl, rfl⟩, hl.at fun o e => Heap.get?_push_of_some _ e⟩ (F.push _) (fun p hp => ⟨Heap.get?_push_of_some _ (N p hp).1, (N p hp).2⟩) (fun p hp => Nat.ne_of_lt (Heap.lt_size (N p hp).1)) hj turn done
  · rcases List.mem_cons.mp hm with e | hm
    · exact absurd F.ns.lt (e ▸ Nat.lt_irrefl _)
    · exact absurd (Nat.lt_of_lt_of_le hlt F.above) ((List.mem_singleton.mp hm) ▸ Nat.lt_irrefl _)
  · rcases List.mem_cons.mp hb with e | hb
    · exact .inl e
    · rw [List.mem_singleton.mp hb]; exact .inr (.inl ⟨_, ho⟩)

/-- a turn over a list that stands in the ledger and is not changed -/
theorem iter_list_X {l : Addr} {lo : Obj} {its : Array Value} {m₀ : Str → Option Value} {news : List (Addr × Obj)} (J : Nat → (Str → Option Value) → List (Addr × Obj) → Prop)
    (hh : A.handled = none) (hlo : lo.cls = .type "list" ∧ ∃ n, lo.data = .seq its n) (hl : ∀ j m nx, J j m nx → (l, lo) ∈ nx) (F : Fr h₀ env.locals s.heap m₀) (N : News h₀ env.locals s.heap news) (hj : J 0 m₀ news)
    (turn : ∀ (i : Nat) v m₁ news₁ h tk I oI, i < its.size → its[i]? = some v → J i m₁ news₁ → (∀ p ∈ news₁, p.1 ≠ I) → Fr h₀ env.locals h (fun y => if y = x then some v else m₁ y) → News h₀ env.locals h (news₁ ++ [(I, oI)]) →
      wpAny (model prog w) A (execs body env) (InvPostX h₀ env.locals (J (i + 1)) I oI { s with heap := h, toks := tk } Q) E { s with heap := h, toks := tk })
    (done : ∀ m₁ news₁ h tk, J its.size m₁ news₁ → Fr h₀ env.locals h m₁ → News h₀ env.locals h news₁ → Q .next { s with heap := h, toks := tk }) :
    wpAny (model prog w) A (pyIter (.ref l)) (fun it s₂ => LoopAtV prog w A h₀ env x body Q E it s₂) E s := by
  have hm := hl _ _ _ hj
  have D := N _ hm
  have hls : s.heap.IsList l its := ⟨lo, D.1, hlo⟩
  have hlt : l < s.heap.objs.size := Heap.lt_size D.1
  have hne : l ≠ s.heap.objs.size := Nat.ne_of_lt hlt
  refine wpAny_pyIter_list hls ?_
  refine loop_X J (Walks.list hh s.heap.objs.size l hne its) (fun hm => ?_) (next_is_new F) (fun i h st => by obtain ⟨o, e, _⟩ := st.1; exact ⟨o, e⟩) (fun b hb => ?_)
    ⟨⟨_, Heap.get?_push_size _ rfl, rfl, rfl⟩, hls.at fun o e => Heap.get?_push_of_some _ e⟩ (F.push _) (fun p hp => ⟨Heap.get?_push_of_some _ (N p hp).1, (N p hp).2⟩) (fun p hp => Nat.ne_of_lt (Heap.lt_size (N p hp).1)) hj turn done
  · rcases List.mem_cons.mp hm with e | hm
    · exact absurd F.ns.lt (e ▸ Nat.lt_irrefl _)
    · exact D.2.1 (List.mem_singleton.mp hm).symm
  · rcases List.mem_cons.mp hb with e | hb
    · exact .inl e
    · rw [List.mem_singleton.mp hb]; exact .inr (.inr ⟨lo, hl⟩)

/-- a turn over a list of the base -/
theorem iter_listB_X {l : Addr} {its : Array Value} {m₀ : Str → Option Value} {news : List (Addr × Obj)} (J : Nat → (Str → Option Value) → List (Addr × Obj) → Prop)
    (hh : A.handled = none) (hl : h₀.IsList l its) (F : Fr h₀ env.locals s.heap m₀) (N : News h₀ env.locals s.heap news) (hj : J 0 m₀ news)
    (turn : ∀ (i : Nat) v m₁ news₁ h tk I oI, i < its.size → its[i]? = some v → J i m₁ news₁ → (∀ p ∈ news₁, p.1 ≠ I) → Fr h₀ env.locals h (fun y => if y = x then some v else m₁ y) → News h₀ env.locals h (news₁ ++ [(I, oI)]) →
      wpAny (model prog w) A (execs body env) (InvPostX h₀ env.locals (J (i + 1)) I oI { s with heap := h, toks := tk } Q) E { s with heap := h, toks := tk })
    (done : ∀ m₁ news₁ h tk, J its.size m₁ news₁ → Fr h₀ env.locals h m₁ → News h₀ env.locals h news₁ → Q .next { s with heap := h, toks := tk }) :
    wpAny (model prog w) A (pyIter (.ref l)) (fun it s₂ => LoopAtV prog w A h₀ env x body Q E it s₂) E s := by
  obtain ⟨o, ho, hc⟩ := hl
  have hls : s.heap.IsList l its := ⟨o, F.keep _ _ ho, hc⟩
  have hlt : l < h₀.objs.size := Heap.lt_size ho
  have hne : l ≠ s.heap.objs.size := Nat.ne_of_lt (Nat.lt_trans (Nat.lt_of_lt_of_le hlt F.above) F.ns.lt)
  refine wpAny_pyIter_list hls ?_
  refine loop_X J (Walks.list hh s.heap.objs.size l hne its) (fun hm => ?_) (next_is_new F) (fun i h st => by obtain ⟨o, e, _⟩ := st.1; exact ⟨o, e⟩) (fun b hb => ?_)
    ⟨⟨_, Heap.get?_push_size _ rfl, rfl, rfl⟩, hls.at fun o e => Heap.get?_push_of_some _ e⟩ (F.push _) (fun p hp => ⟨Heap.get?_push_of_some _ (N p hp).1, (N p hp).2⟩) (fun p hp => Nat.ne_of_lt (Heap.lt_size (N p hp).1)) hj turn done
  · rcases List.mem_cons.mp hm with e | hm
    · exact absurd F.ns.lt (e ▸ Nat.lt_irrefl _)
    · exact absurd (Nat.lt_of_lt_of_le hlt F.above) ((List.mem_singleton.mp hm) ▸ Nat.lt_irrefl _)
  · rcases List.mem_cons.mp hb with e | hb
    · exact .inl e
    · rw [List.mem_singleton.mp hb]; exact .inr (.inl ⟨_, ho⟩)
end
local macro_rules | `(tactic| walk_at "InvPostX") => `(tactic| (dsimp only [InvPostX]))
theorem len_list_any {prog : Program} {w : World} {A : Around} {E : Value → Shared → Prop} {s : Shared} {l : Addr} {vs : List Value} {Q : Value → Shared → Prop} (hl : s.heap.IsList l vs.toArray) (hfit : vs.length < 2 ^ 62)
    (h : Q (.int (vs.length : Nat) (s.toks + 1)) { s with toks := s.toks + 1 + 1 }) : wpAny (model prog w) A (call (.builtin "len") [.ref l]) Q E s := by
  have e : vs.toArray.size = vs.length := by simp
  refine Calls.call_len_list hl (by omega) ?_
  rw [e]
  exact h
/-- the frame of a turn, with what the body does not store as it stood -/
theorem fr_keep {h₀ h : Heap} {L : Addr} {x : Str} {v : Value} {m₀ m₁ : Str → Option Value} {stored : List Str} (hm : ∀ z, stored.contains z = false → m₁ z = m₀ z)
    (F : Fr h₀ L h (fun y => if y = x then some v else m₁ y)) : Fr h₀ L h (fun y => if y = x then some v else if stored.contains y then m₁ y else m₀ y) := by
  have e : (fun y => if y = x then some v else if stored.contains y then m₁ y else m₀ y) = fun y => if y = x then some v else m₁ y := by
    funext y
    by_cases h1 : y = x
    · simp [h1]
    · simp only [if_neg h1]
      cases h2 : stored.contains y with
      | true => simp
      | false => simp only [Bool.false_eq_true, if_false]; exact (hm y h2).symm
  rw [e]; exact F
theorem fr_keep0 {h₀ h : Heap} {L : Addr} {m₀ m₁ : Str → Option Value} {stored : List Str} (hm : ∀ z, stored.contains z = false → m₁ z = m₀ z)
    (F : Fr h₀ L h m₁) : Fr h₀ L h (fun y => if stored.contains y then m₁ y else m₀ y) := by
  have e : (fun y => if stored.contains y then m₁ y else m₀ y) = m₁ := by
    funext y
    cases h2 : stored.contains y with
    | true => simp
    | false => simp only [Bool.false_eq_true, if_false]; exact (hm y h2).symm
  rw [e]; exact F
theorem contains_ne {l : List Str} {a z : Str} (hz : l.contains z = false) (ha : a ∈ l) : z ≠ a := fun e => by
  subst e
  rw [List.contains_iff_mem.mpr ha] at hz
  cases hz
theorem contains_if {l : List Str} {z : Str} (hz : l.contains z = false) : ¬ (l.contains z = true) := fun e => by
  rw [hz] at e; cases e
theorem contains_sub {l l' : List Str} {z : Str} (hz : l.contains z = false) (hs : ∀ x ∈ l', x ∈ l) : ¬ (l'.contains z = true) := fun e => by
  rw [List.contains_iff_mem.mpr (hs z (List.contains_iff_mem.mp e))] at hz; cases hz
theorem ite_no {c : Prop} {inst : Decidable c} {a b x : Option Value} (h : ¬ c) (k : b = x) : @ite _ c inst a b = x := (if_neg h).trans k
def KeepM (stored : List Str) (m₀ m : Str → Option Value) : Prop := ∀ z, stored.contains z = false → m z = m₀ z
section
variable {prog : Program} {w : World} {A : Around} {E : Value → Shared → Prop} {s : Shared} {env : Env} {h₀ : Heap} {x : Str} {body : List Stmt} {Q : Flow → Shared → Prop}
theorem iter_range_S {r : Addr} {b₀ : Int} {t₀ u₀ v₀ : Tok} {n : Nat} {m₀ : Str → Option Value} {news : List (Addr × Obj)} (stored : List Str) (J : Nat → (Str → Option Value) → List (Addr × Obj) → Prop)
    (hh : A.handled = none) (hr : IsRange s.heap r 0 b₀ 1 t₀ u₀ v₀) (hn : b₀ = (n : Int)) (hn2 : n < 1000000) (F : Fr h₀ env.locals s.heap m₀) (N : News h₀ env.locals s.heap news) (hj : J 0 m₀ news)
    (turn : ∀ (i : Nat) t m₁ news₁ h tk I oI, i < n → J i m₁ news₁ → (∀ p ∈ news₁, p.1 ≠ I) → Fr h₀ env.locals h (fun y => if y = x then some (.int (i : Int) t) else if stored.contains y then m₁ y else m₀ y) → News h₀ env.locals h (news₁ ++ [(I, oI)]) →
      wpAny (model prog w) A (execs body env) (InvPostX h₀ env.locals (fun m nx => J (i + 1) m nx ∧ KeepM stored m₀ m) I oI { s with heap := h, toks := tk } Q) E { s with heap := h, toks := tk })
    (done : ∀ m₁ news₁ h tk, J n m₁ news₁ → Fr h₀ env.locals h (fun y => if stored.contains y then m₁ y else m₀ y) → News h₀ env.locals h news₁ → Q .next { s with heap := h, toks := tk }) :
    wpAny (model prog w) A (pyIter (.ref r)) (fun it s₂ => LoopAtV prog w A h₀ env x body Q E it s₂) E s :=
  iter_range_X (fun i m nx => J i m nx ∧ KeepM stored m₀ m) hh hr hn hn2 F N ⟨hj, fun _ _ => rfl⟩
    (fun i t m₁ news₁ h tk I oI hi hJ hnI F N => turn i t m₁ news₁ h tk I oI hi hJ.1 hnI (fr_keep hJ.2 F) N)
    (fun m₁ news₁ h tk hJ F N => done m₁ news₁ h tk hJ.1 (fr_keep0 hJ.2 F) N)
theorem iter_tup_S {ax : Addr} {its : Array Value} {m₀ : Str → Option Value} {news : List (Addr × Obj)} (stored : List Str) (J : Nat → (Str → Option Value) → List (Addr × Obj) → Prop)
    (hh : A.handled = none) (ht : IsTup h₀ ax its) (F : Fr h₀ env.locals s.heap m₀) (N : News h₀ env.locals s.heap news) (hj : J 0 m₀ news)
    (turn : ∀ (i : Nat) v m₁ news₁ h tk I oI, i < its.size → its[i]? = some v → J i m₁ news₁ → (∀ p ∈ news₁, p.1 ≠ I) → Fr h₀ env.locals h (fun y => if y = x then some v else if stored.contains y then m₁ y else m₀ y) → News h₀ env.locals h (news₁ ++ [(I, oI)]) →
      wpAny (model prog w) A (execs body env) (InvPostX h₀ env.locals (fun m nx => J (i + 1) m nx ∧ KeepM stored m₀ m) I oI { s with heap := h, toks := tk } Q) E { s with heap := h, toks := tk })
    (done : ∀ m₁ news₁ h tk, J its.size m₁ news₁ → Fr h₀ env.locals h (fun y => if stored.contains y then m₁ y else m₀ y) → News h₀ env.locals h news₁ → Q .next { s with heap := h, toks := tk }) :
    wpAny (model prog w) A (pyIter (.ref ax)) (fun it s₂ => LoopAtV prog w A h₀ env x body Q E it s₂) E s :=
  iter_tup_X (fun i m nx => J i m nx ∧ KeepM stored m₀ m) hh ht F N ⟨hj, fun _ _ => rfl⟩
    (fun i v m₁ news₁ h tk I oI hi hv hJ hnI F N => turn i v m₁ news₁ h tk I oI hi hv hJ.1 hnI (fr_keep hJ.2 F) N)
    (fun m₁ news₁ h tk hJ F N => done m₁ news₁ h tk hJ.1 (fr_keep0 hJ.2 F) N)
theorem iter_list_S {l : Addr} {lo : Obj} {its : Array Value} {m₀ : Str → Option Value} {news : List (Addr × Obj)} (stored : List Str) (J : Nat → (Str → Option Value) → List (Addr × Obj) → Prop)
    (hh : A.handled = none) (hlo : lo.cls = .type "list" ∧ ∃ n, lo.data = .seq its n) (hl : ∀ j m nx, J j m nx → (l, lo) ∈ nx) (F : Fr h₀ env.locals s.heap m₀) (N : News h₀ env.locals s.heap news) (hj : J 0 m₀ news)
    (turn : ∀ (i : Nat) v m₁ news₁ h tk I oI, i < its.size → its[i]? = some v → J i m₁ news₁ → (∀ p ∈ news₁, p.1 ≠ I) → Fr h₀ env.locals h (fun y => if y = x then some v else if stored.contains y then m₁ y else m₀ y) → News h₀ env.locals h (news₁ ++ [(I, oI)]) →
      wpAny (model prog w) A (execs body env) (InvPostX h₀ env.locals (fun m nx => J (i + 1) m nx ∧ KeepM stored m₀ m) I oI { s with heap := h, toks := tk } Q) E { s with heap := h, toks := tk })
    (done : ∀ m₁ news₁ h tk, J its.size m₁ news₁ → Fr h₀ env.locals h (fun y => if stored.contains y then m₁ y else m₀ y) → News h₀ env.locals h news₁ → Q .next { s with heap := h, toks := tk }) :
    wpAny (model prog w) A (pyIter (.ref l)) (fun it s₂ => LoopAtV prog w A h₀ env x body Q E it s₂) E s :=
  iter_list_X (fun i m nx => J i m nx ∧ KeepM stored m₀ m) hh hlo (fun j m nx h => hl j m nx h.1) F N ⟨hj, fun _ _ => rfl⟩
    (fun i v m₁ news₁ h tk I oI hi hv hJ hnI F N => turn i v m₁ news₁ h tk I oI hi hv hJ.1 hnI (fr_keep hJ.2 F) N)
    (fun m₁ news₁ h tk hJ F N => done m₁ news₁ h tk hJ.1 (fr_keep0 hJ.2 F) N)
theorem iter_listB_S {l : Addr} {its : Array Value} {m₀ : Str → Option Value} {news : List (Addr × Obj)} (stored : List Str) (J : Nat → (Str → Option Value) → List (Addr × Obj) → Prop)
    (hh : A.handled = none) (hl : h₀.IsList l its) (F : Fr h₀ env.locals s.heap m₀) (N : News h₀ env.locals s.heap news) (hj : J 0 m₀ news)
    (turn : ∀ (i : Nat) v m₁ news₁ h tk I oI, i < its.size → its[i]? = some v → J i m₁ news₁ → (∀ p ∈ news₁, p.1 ≠ I) → Fr h₀ env.locals h (fun y => if y = x then some v else if stored.contains y then m₁ y else m₀ y) → News h₀ env.locals h (news₁ ++ [(I, oI)]) →
      wpAny (model prog w) A (execs body env) (InvPostX h₀ env.locals (fun m nx => J (i + 1) m nx ∧ KeepM stored m₀ m) I oI { s with heap := h, toks := tk } Q) E { s with heap := h, toks := tk })
    (done : ∀ m₁ news₁ h tk, J its.size m₁ news₁ → Fr h₀ env.locals h (fun y => if stored.contains y then m₁ y else m₀ y) → News h₀ env.locals h news₁ → Q .next { s with heap := h, toks := tk }) :
    wpAny (model prog w) A (pyIter (.ref l)) (fun it s₂ => LoopAtV prog w A h₀ env x body Q E it s₂) E s :=
  iter_listB_X (fun i m nx => J i m nx ∧ KeepM stored m₀ m) hh hl F N ⟨hj, fun _ _ => rfl⟩
    (fun i v m₁ news₁ h tk I oI hi hv hJ hnI F N => turn i v m₁ news₁ h tk I oI hi hv hJ.1 hnI (fr_keep hJ.2 F) N)
    (fun m₁ news₁ h tk hJ F N => done m₁ news₁ h tk hJ.1 (fr_keep0 hJ.2 F) N)
end
section
variable {prog : Program} {w : World} {A : Around} {E : Value → Shared → Prop} {s : Shared} {env : Env} {h₀ : Heap} {target : Expr} {body : List Stmt} {Q : Flow → Shared → Prop}
theorem For_stopT {m : Str → Option Value} {pos : Pos} {iter : Expr} (_F : Fr h₀ env.locals s.heap m)
    (h : wpAny (model prog w) A (eval iter env) (fun xv s₁ => Stop (wpAny (model prog w) A (pyIter xv) (fun it s₂ => TurnsAt prog w A h₀ env target body Q (fun _ _ => False) it s₂) (fun _ _ => False) s₁)) (fun _ _ => False) s)
    (hs : ∀ x, foldedSetIterable iter env x = pure x := by intro _; rfl) :
    wpAny (model prog w) A (exec (.For target iter body [] pos) env) Q (fun _ _ => False) s := For_turns _F h hs PassesOwn.never
theorem turns_listB {l : Addr} {its : Array Value} {m₀ : Str → Option Value} {news : List (Addr × Obj)} (J : Nat → (Str → Option Value) → List (Addr × Obj) → Prop)
    (hh : A.handled = none) (hl : h₀.IsList l its) (F : Fr h₀ env.locals s.heap m₀) (N : News h₀ env.locals s.heap news) (hj : J 0 m₀ news)
    (turn : ∀ (i : Nat) v m₁ news₁ h tk I oI, i < its.size → its[i]? = some v → J i m₁ news₁ → (∀ p ∈ news₁, p.1 ≠ I) → Fr h₀ env.locals h m₁ → News h₀ env.locals h (news₁ ++ [(I, oI)]) →
      wpAny (model prog w) A (assign target env v) (fun _ s₃ => wpAny (model prog w) A (execs body env) (InvPostX h₀ env.locals (J (i + 1)) I oI { s with heap := h, toks := tk } Q) E s₃) E { s with heap := h, toks := tk })
    (done : ∀ m₁ news₁ h tk, J its.size m₁ news₁ → Fr h₀ env.locals h m₁ → News h₀ env.locals h news₁ → Q .next { s with heap := h, toks := tk }) :
    wpAny (model prog w) A (pyIter (.ref l)) (fun it s₂ => TurnsAt prog w A h₀ env target body Q E it s₂) E s := by
  obtain ⟨o, ho, hc⟩ := hl
  have hls : s.heap.IsList l its := ⟨o, F.keep _ _ ho, hc⟩
  have hlt : l < h₀.objs.size := Heap.lt_size ho
  have hne : l ≠ s.heap.objs.size := Nat.ne_of_lt (Nat.lt_trans (Nat.lt_of_lt_of_le hlt F.above) F.ns.lt)
  refine wpAny_pyIter_list hls ?_
  refine ⟨s.heap.objs.size, _, _, its.size, _, _, _, m₀, news, J, rfl, KTurns.ofWalks (Walks.list hh s.heap.objs.size l hne its) (fun i v s Q E st q => letGo_listiter st.1 q), ?_, fun b hb => by rw [List.mem_singleton.mp hb]; exact next_is_new F, fun p hp hq => absurd (Heap.lt_size (N p hp).1) ((List.mem_singleton.mp hq) ▸ Nat.lt_irrefl _),
    ⟨⟨_, Heap.get?_push_size _ rfl, rfl, rfl⟩, hls.at fun o e => Heap.get?_push_of_some _ e⟩, F.push _, (fun p hp => ⟨Heap.get?_push_of_some _ (N p hp).1, (N p hp).2⟩), hj, ?_, ?_⟩
  · intro hm
    rcases List.mem_cons.mp hm with e | hm
    · exact absurd F.ns.lt (e ▸ Nat.lt_irrefl _)
    · exact absurd (Nat.lt_of_lt_of_le hlt F.above) ((List.mem_singleton.mp hm) ▸ Nat.lt_irrefl _)
  · intro i v m₁ news₁ hh' tk' own hin hP hJ hoff hown hget hall hst₁ F₁ N₁
    obtain ⟨⟨oI, heI, _⟩, _⟩ := id hst₁
    have hIown : (s.heap.objs.size, oI) ∈ own := hall _ (.head _) (next_is_new F) _ heI
    have hn1 : ∀ p ∈ news₁, p.1 ≠ s.heap.objs.size := fun p hp q => hoff p hp (List.mem_singleton.mpr q)
    refine wpAny_mono (turn i v m₁ news₁ hh' tk' s.heap.objs.size oI hin hP hJ hn1 F₁ fun p hp => ?_) (fun _ s₃ hb => wpAny_mono hb (fun f s₂ p => ?_) fun _ _ e => e) fun _ _ e => e
    · rcases List.mem_append.mp hp with q | q
      · exact N₁ p (List.mem_append_right _ q)
      · rw [List.mem_singleton.mp q]; exact N₁ _ (List.mem_append_left _ hIown)
    · have fin : InvEndX h₀ env.locals (J (i + 1)) s.heap.objs.size oI { s with heap := hh', toks := tk' } s₂ → LoopStepU h₀ env.locals [s.heap.objs.size] own (J (i + 1)) { s with heap := hh', toks := tk' } .next s₂ := by
        rintro ⟨h', tk, m', news', nx, e, F', N', hn, hI', ho', hm⟩
        refine ⟨rfl, h', tk, m', nx, e, F', fun q hq => ?_, fun p hp hq => ho' p hp (List.mem_singleton.mp hq), hm⟩
        rcases List.mem_append.mp hq with hq | hq
        · rcases List.mem_cons.mp (hown q hq) with e1 | e1
          · have e2 := hget q hq
            have e3 : q = (s.heap.objs.size, oI) := by
              obtain ⟨q1, q2⟩ := q
              simp only at e1 e2
              subst e1
              rw [heI] at e2
              rw [Option.some.inj e2]
            rw [e3]
            exact N' _ hI'
          · have := (N₁ q (List.mem_append_left _ hq)).2.2
            rw [List.mem_singleton.mp e1, ho] at this; cases this
        · exact N' q (hn q hq)
      cases f with
      | ret v => exact .ret p
      | brk => exact .brk p
      | next => exact .next (fin p)
      | cont => exact .cont (fin p)
  · rintro h' tk m' news' F' N' _ hJ
    exact done m' news' h' tk hJ F' N'
theorem turns_listB_S {l : Addr} {its : Array Value} {m₀ : Str → Option Value} {news : List (Addr × Obj)} (stored : List Str) (J : Nat → (Str → Option Value) → List (Addr × Obj) → Prop)
    (hh : A.handled = none) (hl : h₀.IsList l its) (F : Fr h₀ env.locals s.heap m₀) (N : News h₀ env.locals s.heap news) (hj : J 0 m₀ news)
    (turn : ∀ (i : Nat) v m₁ news₁ h tk I oI, i < its.size → its[i]? = some v → J i m₁ news₁ → (∀ p ∈ news₁, p.1 ≠ I) → Fr h₀ env.locals h (fun y => if stored.contains y then m₁ y else m₀ y) → News h₀ env.locals h (news₁ ++ [(I, oI)]) →
      wpAny (model prog w) A (assign target env v) (fun _ s₃ => wpAny (model prog w) A (execs body env) (InvPostX h₀ env.locals (fun m nx => J (i + 1) m nx ∧ KeepM stored m₀ m) I oI { s with heap := h, toks := tk } Q) E s₃) E { s with heap := h, toks := tk })
    (done : ∀ m₁ news₁ h tk, J its.size m₁ news₁ → Fr h₀ env.locals h (fun y => if stored.contains y then m₁ y else m₀ y) → News h₀ env.locals h news₁ → Q .next { s with heap := h, toks := tk }) :
    wpAny (model prog w) A (pyIter (.ref l)) (fun it s₂ => TurnsAt prog w A h₀ env target body Q E it s₂) E s :=
  turns_listB (fun i m nx => J i m nx ∧ KeepM stored m₀ m) hh hl F N ⟨hj, fun _ _ => rfl⟩
    (fun i v m₁ news₁ h tk I oI hi hv hJ hnI F N => turn i v m₁ news₁ h tk I oI hi hv hJ.1 hnI (fr_keep0 hJ.2 F) N)
    (fun m₁ news₁ h tk hJ F N => done m₁ news₁ h tk hJ.1 (fr_keep0 hJ.2 F) N)
end
end
section
local macro_rules | `(tactic| walk_at "exec For Name Name cons nil") => `(tactic| (k_dflt (refine For_stop (by k_asm) (by rfl) (by rfl) ?_)))
local macro_rules | `(tactic| walk_at "exec For Name Call cons nil") => `(tactic| (k_dflt (refine For_stop (by k_asm) (by rfl) (by rfl) ?_)))
local macro_rules | `(tactic| walk_at "exec For Name Subscript cons nil") => `(tactic| (k_dflt (refine For_stop (by k_asm) (by rfl) (by rfl) ?_)))
local macro_rules | `(tactic| walk_at "InvPostX") => `(tactic| (dsimp only [InvPostX]))
local macro_rules | `(tactic| walk_at "subscriptTail") => `(tactic| ((with_reducible show wpAny _ _ (subscriptTail _ _ (Value.ref _) (Value.int _ _)) _ _ _); k_dflt (first
  | (refine item_list_any (Heap.IsList.at (by assumption) (fun o e => Fr.keep (by assumption) _ o e)) (by assumption) (by omega) (by assumption) ?_)
  | (refine item_list_any ⟨_, News.get (by assumption) (by k_mem), rfl, _, rfl⟩ (by assumption) (by omega) (by assumption) ?_)
  | (refine item_dict (by assumption) (by assumption) ?_))))
local macro_rules | `(tactic| walk_at "call ref") => `(tactic| ((with_reducible show wpAny _ _ (call (Value.ref 61) [Value.str (Kind.str _) _] _) _ _ _); refine wpAny_call (is_state_spec (by assumption) (At.nil (by assumption)) (by dsimp only; omega) rfl (by dsimp only; omega) ?_); intro h₁ tk₁ kb₁; obtain ⟨F', N'⟩ := after_pure (by assumption) (by assumption) kb₁; (try dsimp only)))
local macro_rules | `(tactic| walk_at "call builtin:len") => `(tactic| ((with_reducible show wpAny _ _ (call (Value.builtin "len") [Value.ref _]) _ _ _); k_dflt (first
  | (refine len_list_any (Heap.IsList.at (by assumption) (fun o e => Fr.keep (by assumption) _ o e)) (by omega) ?_)
  | (refine len_list_any ⟨_, News.get (by assumption) (by k_mem), rfl, _, rfl⟩ (by omega) ?_))))
local macro_rules | `(tactic| walk_at "KEEPS") => `(tactic| (repeat (refine ite_no (by first | exact contains_ne (by assumption) (by k_mem) | exact contains_if (by assumption) | exact contains_sub (by assumption) (by walk_at "SUBS") | fail) ?_)))
local macro_rules | `(tactic| walk_at "KEEPM") => `(tactic| (intro z h3; walk_at "KEEPS"; first | exact rfl | (refine Eq.symm ?_; walk_at "KEEPS"; exact rfl)))
local macro_rules | `(tactic| walk_at "SUBS") => `(tactic| ((repeat' (first | exact List.forall_mem_nil _ | (refine List.forall_mem_cons.mpr ⟨by k_mem, ?_⟩))); done))
local macro_rules | `(tactic| walk_at "NXI") => `(tactic| (repeat' (first | exact List.forall_mem_nil _ | (refine List.forall_mem_cons.mpr ⟨by first | assumption | k_ne, ?_⟩))))
local macro_rules | `(tactic| walk_at "setItem ref int") => `(tactic| (k_dflt (refine' kda_set (knd := PySem.intKind _ _) ?F ?N ?U ?d (intKind_is _ _ _ _) ?z ?_; (case F => k_asm); (case N => k_asm); (case U => k_updF); (case d => k_asm); (case z => (rw [sizeLine_eq]; omega))); intro h' o' F' N' hd'; (try dsimp only at N')))
local macro_rules | `(tactic| walk_at "call builtin:list.append") => `(tactic| ((with_reducible show wpAny _ _ (call (Value.builtin _) [Value.ref _, _]) _ _ _); k_dflt (refine' append_K ?k1 ?k2 ?k3 ?_ ?z; (case k1 => k_asm); (case k2 => k_asm); (case k3 => k_upd); (case z => (rw [sizeLine_eq]; (try simp only [List.size_toArray]); first | omega | exact Nat.zero_le _)); k_whole); intro h' F' N'))
section
local macro_rules | `(tactic| walk_at "exec Assign cons ListComp") => `(tactic| (k_dflt (refine assign_comp_tup (by k_asm) (by rfl) (by with_unfolding_all rfl) (by with_unfolding_all rfl) (by decide) (by rfl) (by decide) (by rfl) (by rfl) (by rfl) rfl ?_)))
local macro_rules | `(tactic| walk_at "call ref") => `(tactic| ((with_reducible show wpAny _ _ (call (Value.ref 187) _ _) _ _ _); k_dflt (refine wpAny_call (call_stop ?_))))
theorem ite01 {p : Prop} [Decidable p] {x y : Int} (hx : x = 0 ∨ x = 1) (hy : y = 0 ∨ y = 1) : (if p then x else y) = 0 ∨ (if p then x else y) = 1 := by split <;> assumption
theorem sub01 {x : Int} (h : x = 0 ∨ x = 1) : 1 - x = 0 ∨ 1 - x = 1 := by omega
theorem getD01 {bs : List Int} (h01 : ∀ b ∈ bs, b = 0 ∨ b = 1) (i : Nat) : bs.getD i 0 = 0 ∨ bs.getD i 0 = 1 := by
  rw [List.getD_eq_getElem?_getD]
  cases e : bs[i]? with
  | none => exact .inl rfl
  | some b => exact h01 b (List.mem_of_getElem? e)
theorem gateVal_01 {k : Kind} {bs : List Int} (_h : gateArity k bs.length) (h01 : ∀ b ∈ bs, b = 0 ∨ b = 1) : gateVal k bs = 0 ∨ gateVal k bs = 1 := by
  have d := getD01 h01
  cases k <;> first | exact d 0 | exact sub01 (d 0) | exact ite01 (.inr rfl) (.inl rfl) | exact ite01 (.inl rfl) (.inr rfl) | exact ite01 (d 2) (d 1) | exact .inl rfl
theorem fmod2_01 (x : Int) : x.fmod 2 = 0 ∨ x.fmod 2 = 1 := by
  have h1 := fmod_lo x (n := 2) (by decide)
  have h2 := fmod_hi x (n := 2) (by decide)
  omega
theorem cellVal_01 {k : Kind} {tb : Int} {bs : List Int} (h : cellArity k bs.length) (h01 : ∀ b ∈ bs, b = 0 ∨ b = 1) : cellVal k tb bs = 0 ∨ cellVal k tb bs = 1 := by
  by_cases h1 : k = .lut
  · subst h1; exact fmod2_01 _
  by_cases h2 : k = .cell
  · subst h2; exact fmod2_01 _
  have e : cellVal k tb bs = gateVal k bs := by cases k <;> first | rfl | contradiction
  rw [e]
  exact gateVal_01 (by cases k <;> first | exact h | contradiction) h01
theorem evalc_spec {w : World} {A : Around} {s : Shared} {h₀ : Heap} {mean mg mb} {nl dx va cel ord inp outp : Addr} {nv nd : Nat} {k1 k2 k3 k4 k5 ct : Tok} {nm : Value} {cnt : Int} {vvs cvs ovs : List Value} {vals order : List Int} {cs : List CellD} {R : Result → Shared → Prop}
    (G : Gd w mean mg mb h₀) (H : At h₀ s.heap [(va, listOf vvs.toArray nv), (nl, instObj 134 dx), (dx, dictOf (nlEs w.params k1 k2 k3 k4 k5 nm cnt ct inp outp cel) nd)]) (hroom : A.depth < 700) (hh : A.handled = none) (hu : A.units < 1800)
    (hne : va ≠ nl ∧ va ≠ dx ∧ nl ≠ dx) (hnv : vvs.length ≤ 100)
    (hvv : IntsAre vvs vals) (hcl : s.heap.IsList cel cvs.toArray) (hcel : cel ≠ va ∧ cel ≠ nl ∧ cel ≠ dx) (hcs : CellsAt s.heap cvs cs) (hol : s.heap.IsList ord ovs.toArray) (hord : ord ≠ va ∧ ord ≠ nl ∧ ord ≠ dx) (hoi : IntsAre ovs order)
    (hin : ∀ i ∈ order, 0 ≤ i ∧ i < cs.length) (hlen : cs.length ≤ 100)
    (har : ∀ c ∈ cs, cellArity c.kind c.ins.length ∧ 0 ≤ c.tb ∧ 0 ≤ c.out ∧ c.out < vals.length ∧ ∀ n ∈ c.ins, 0 ≤ n ∧ n < vals.length)
    (h01 : ∀ v ∈ vals, v = 0 ∨ v = 1)
    (k : ∀ vvs' nv' h' tk, IntsAre vvs' (order.foldl (evalStep cs) vals) → h'.get? va = some (listOf vvs'.toArray nv') → KeepBut [va] s.heap h' → R (.ok (.ret .none)) { s with heap := h', toks := tk }) :
    codeAny (model PySem.Challenge.rw_on0104_01.row.prog w) A (.call (.ref 192) ⟨[.ref nl, .ref ord, .ref va], []⟩) R s := by
  obtain ⟨hdl, dd, fr, gs, uu⟩ := A
  simp only at hh hroom hu
  subst hh
  refine' callDC G H ?k6 ?k7 ?k8 ?k9 ?kB ?kD ?_ ?c2 ?c3 ?c4
  case k6 => k_is
  case k7 => k_is
  case k8 => simp only [recursionLimit]; omega
  case k9 => exact BindsTo.of_eq rfl
  case kD => decide +kernel
  case kB => exact rfl
  case c2 => exact rfl
  case c3 => exact rfl
  case c4 => exact rfl
  intro dd9 uu9 fr9 hdd9 huu9 g L' h₁ tk₁ cells F' N' Y' G' st' old lt' back
  k_cells Y'
  simp only [List.cons_append, List.nil_append] at N'
  show wpAny _ { handled := none, depth := dd9, frames := fr9, guards := gs, units := uu9 } _ _ _ _
  simp only at hdd9 huu9
  have X' : (Mine.hd.heap_1 w.params).In g := G'.X
  have T' := G'.T
  have hcl' : g.IsList cel cvs.toArray := hcl.at fun o e => old _ _ e (by simp; exact hcel)
  have hol' : g.IsList ord ovs.toArray := hol.at fun o e => old _ _ e (by simp; exact hord)
  have hva := (H.2 _ (.head _)).1
  have hnl := (H.2 _ (.tail _ (.head _))).1
  have hdx := (H.2 _ (.tail _ (.tail _ (.head _)))).1
  have hcs' : CellsAt g cvs cs := cellsAt_keeps hcs fun b o e hc => old _ _ e (by
    intro hb
    simp only [List.map_cons, List.map_nil, List.mem_cons, List.not_mem_nil, or_false] at hb
    rcases hb with rfl | rfl | rfl
    · rw [hva] at e; cases e; simp at hc
    · rw [hnl] at e; cases e; simp at hc
    · rw [hdx] at e; cases e; simp at hc)
  have lva : @LT.lt Nat _ va L' := lt' _ (.head _)
  have lnl : @LT.lt Nat _ nl L' := lt' _ (.tail _ (.head _))
  have ldx : @LT.lt Nat _ dx L' := lt' _ (.tail _ (.tail _ (.head _)))
  have hne' : @Ne Nat va nl ∧ @Ne Nat va dx ∧ @Ne Nat nl dx := hne
  have k' : ∀ vvs' nv' h' tk L m news, IntsAre vvs' (order.foldl (evalStep cs) vals) → Fr g L h' m → News g L h' news → (va, listOf vvs'.toArray nv') ∈ news → (nl, instObj 134 dx) ∈ news → (dx, dictOf (nlEs w.params k1 k2 k3 k4 k5 nm cnt ct inp outp cel) nd) ∈ news → R (.ok (.ret .none)) { s with heap := h', toks := tk } :=
    fun vvs' nv' h' tk L m news hi F N m1 m2 m3 => k vvs' nv' h' tk hi (N.get m1) fun b o hb e => by
      by_cases q1 : b = nl
      · subst q1; rw [hnl] at e; cases e; exact N.get m2
      by_cases q2 : b = dx
      · subst q2; rw [hdx] at e; cases e; exact N.get m3
      exact F.keep b o (old b o e (by simp at hb ⊢; exact ⟨hb, q1, q2⟩))
  clear hcl hol hcs H G old st' back k lt' hva hnl hdx
  walk_at "GO"
  unfold Stop
  have hvlen : vals.length = vvs.length := hvv.length.symm
  refine kst_list (σ := List Value × List Int × Nat) (fun c => [(L' + 1, _), (va, listOf c.1.toArray c.2.2), (nl, instObj 134 dx), (dx, dictOf (nlEs w.params k1 k2 k3 k4 k5 nm cnt ct inp outp cel) nd)]) (fun _ => [])
    (fun c => IntsAre c.1 c.2.1 ∧ c.2.1.length = vals.length ∧ ∀ v ∈ c.2.1, v = 0 ∨ v = 1) [Str.ofString "kind", Str.ofString "out", Str.ofString "ins", Str.ofString "param", Str.ofString "bits"] (fun pre c => c.2.1 = pre.foldl (evalStep cs) vals) (vvs, vals, nv)
    rfl hol' hoi (by assumption) (by assumption) ⟨hvv, rfl, h01⟩ (fun _ h => nomatch h) rfl ?_ ?_
  · rintro ⟨us, ws, nu⟩ pre post n t u h tk own hsp hmem hoff ⟨hus, hwl, hw01⟩ hP F N
    try dsimp only at hus hwl hw01 hP N
    simp only [List.cons_append, List.nil_append, List.map_cons, List.map_nil] at N hoff
    obtain ⟨hn0, hn1⟩ := hin n hmem
    have hc? : cs[n.toNat]? = some (cs[n.toNat]'(by omega)) := List.getElem?_eq_getElem (by omega)
    obtain ⟨v, hv, a, t1, t2, ia, p, ivs, rfl, hct, hit, hii, hpp⟩ := hcs'.2 n.toNat _ hc?
    obtain ⟨harC, hart, haro, haro2, harn⟩ := har (cs[n.toNat]'(by omega)) (List.getElem_mem _)
    generalize hcc : cs[n.toNat]'(by omega) = c at *
    have hi3 : c.ins.length ≤ 3 := by cases hk : c.kind <;> rw [hk] at harC <;> simp only [cellArity, gateArity] at harC <;> omega
    walk_at "GO"
    refine CompTup.intro (by assumption) (by assumption) hit (by rw [sizeLine_eq]; simp only [List.size_toArray, hii.length]; omega) ?_
    intro g'
    refine comp_rest_ro (fun i ys => IntsAre ys ((c.ins.take i).map fun n => ws.getD n.toNat 0)) .nil ?_ ?_
    · intro i v I oI C oC D m₂ ys h tk E' hin' hP' hJ hC hx F N off ne
      have hil : i < c.ins.length := by rw [← hii.length]; simpa using hin'
      obtain ⟨ti, hiti⟩ := hii.get i c.ins[i] (by simp [hil])
      have hve : v = .int c.ins[i] ti := by
        have hP'' : ivs[i]? = some v := by simpa using hP'
        rw [hiti] at hP''; exact (Option.some.inj hP'').symm
      subst hve
      obtain ⟨hm0, hm1⟩ := harn c.ins[i] (List.getElem_mem hil)
      obtain ⟨tv, hval⟩ := hus.get (c.ins[i]).toNat (ws.getD (c.ins[i]).toNat 0) (by
        rw [List.getD_eq_getElem?_getD, List.getElem?_eq_getElem (by omega)]; rfl)
      walk_at "GO"
      refine comp_end_ro (by assumption) (by assumption) off trivial ?_
      rw [List.take_add_one, List.getElem?_eq_getElem hil, List.map_append]
      exact IntsAre.append hJ (.cons _ _ .nil)
    · intro ys hys
      rw [List.take_of_length_le (by simp [hii.length])] at hys
      intro D h tk F N o1
      simp only [LCg.Off1, and_true] at o1
      have hb01 : ∀ b ∈ c.ins.map (fun n => ws.getD n.toNat 0), b = 0 ∨ b = 1 := fun b hb => by
        obtain ⟨n', hn', rfl⟩ := List.mem_map.mp hb
        obtain ⟨hm0, hm1⟩ := harn n' hn'
        have hlt : n'.toNat < ws.length := by omega
        refine hw01 _ ?_
        rw [List.getD_eq_getElem?_getD, List.getElem?_eq_getElem hlt]
        exact List.getElem_mem hlt
      walk_at "GO"
      refine cellv_spec G' (At.nil (by assumption)) (by dsimp only; omega) rfl (by dsimp only; omega) ⟨_, News.get (by assumption) (.head _), rfl, _, rfl⟩ hys (by simpa using harC) hb01 hart (param_keep hpp (Fr.keep (by assumption))) ?_
      intro t₂ h₂ tk₂ kb
      obtain ⟨F₂, N₂⟩ := after_pure (by assumption) (by assumption) kb
      try dsimp only
      walk_at "GO"
      refine kst_end (us.set c.out.toNat (.int (cellVal c.kind c.tb (c.ins.map fun n => ws.getD n.toNat 0)) t₂), ws.set c.out.toNat (cellVal c.kind c.tb (c.ins.map fun n => ws.getD n.toNat 0)), nu)
        (by assumption) (by assumption) (by dsimp only; k_allIn) (by intro p hp; k_ownIn) rfl ?_ (fun _ h => nomatch h) ?_ ?_
      · refine ⟨ints_set hus _, by simpa using hwl, fun v hv => ?_⟩
        rcases List.mem_or_eq_of_mem_set hv with q | q
        · exact hw01 v q
        · rw [q]; exact cellVal_01 (by simpa using harC) hb01
      · intro z h1 _ h3
        have h3' := h3
        simp only [List.contains_cons, List.contains_nil, Bool.or_false, Bool.or_eq_false_iff, beq_eq_false_iff_ne, ne_eq] at h3
        obtain ⟨a1, a2, a3, a4, a5⟩ := h3
        simp only [kstB, h3', h1, a1, a2, a3, a4, a5, if_false, Bool.false_eq_true]
      · show _ = List.foldl (evalStep cs) vals (pre ++ [n])
        rw [List.foldl_append, ← hP]
        simp only [List.foldl_cons, List.foldl_nil, evalStep, hc?]
  · rintro ⟨us, ws, nu⟩ u h tk ⟨hus, hwl, hw01⟩ hP F N
    try dsimp only at hus hwl hw01 hP N
    walk_at "GO"
    exact k' us nu _ _ _ _ _ (hP ▸ hus) (by assumption) (by assumption) (by k_mem) (by k_mem) (by k_mem)
end
section
theorem after_new {g h h' : Heap} {L a : Addr} {o : Obj} {m : Str → Option Value} {news : List (Addr × Obj)} (F : Fr g L h m) (N : News g L h news) (k : KeepBut [] h h') (hn : h.get? a = none) (ho : h'.get? a = some o) :
    Fr g L h' m ∧ News g L h' ((a, o) :: news) ∧ ∀ p ∈ news, p.1 ≠ a := by
  obtain ⟨F', N'⟩ := after_pure F N k
  refine ⟨F', fun p hp => ?_, fun p hp q => ?_⟩
  · rcases List.mem_cons.mp hp with rfl | hp
    · refine ⟨ho, fun q => ?_, ?_⟩
      · obtain ⟨oL, _, _, hL, _⟩ := F.ns
        have q' : a = L := q
        rw [q', hL] at hn; cases hn
      · cases e : g.get? a with
        | none => rfl
        | some o' => rw [F.keep _ _ e] at hn; cases hn
    · exact N' p hp
  · rw [← q, (N p hp).1] at hn; cases hn
theorem getD_zero (cs : List CellD) (cvs : List Value) (T : Addr → Array Value → Prop) (h : CellsP T cvs cs) (i : Nat) (hi : i < cs.length) :
    ∃ a t1 t2 ia p ivs, cvs[i]? = some (.ref a) ∧ T a #[.str (cs[i]).kind.str t1, .int (cs[i]).out t2, .ref ia, p] ∧ T ia ivs.toArray ∧ IntsAre ivs (cs[i]).ins ∧ ParamP T (cs[i]).kind (cs[i]).tb p := by
  obtain ⟨v, hv, a, t1, t2, ia, p, ivs, rfl, r⟩ := h.2 i cs[i] (by simp [hi])
  exact ⟨a, t1, t2, ia, p, ivs, hv, r⟩
theorem statec_spec {w : World} {A : Around} {s : Shared} {h₀ : Heap} {mean mg mb} {nl dx cel inp outp : Addr} {nd : Nat} {k1 k2 k3 k4 k5 ct : Tok} {nm : Value} {cnt : Int} {cvs : List Value} {cs : List CellD} {R : Result → Shared → Prop}
    (G : Gd w mean mg mb h₀) (H : At h₀ s.heap [(nl, instObj 134 dx), (dx, dictOf (nlEs w.params k1 k2 k3 k4 k5 nm cnt ct inp outp cel) nd)]) (hroom : A.depth < 700) (hh : A.handled = none) (hu : A.units < 1800)
    (hne : nl ≠ dx) (hcl : s.heap.IsList cel cvs.toArray) (hcel : cel ≠ nl ∧ cel ≠ dx) (hcs : CellsAt s.heap cvs cs) (hlen : cs.length ≤ 100)
    (k : ∀ a n h' tk, s.heap.get? a = none → h'.get? a = some (listOf #[] n) → KeepBut [] s.heap h' → R (.ok (.ret (.ref a))) { s with heap := h', toks := tk }) :
    codeAny (model PySem.Challenge.rw_on0104_01.row.prog w) A (.call (.ref 145) ⟨[.ref nl], []⟩) R s := by
  obtain ⟨hdl, dd, fr, gs, uu⟩ := A
  simp only at hh hroom hu
  subst hh
  refine' callD G H ?k6 ?k7 ?k8 ?k9 ?kB ?_ ?c2 ?c3 ?c4 ?c5
  walk_at "ENTER"
  intro dd9 uu9 fr9 hdd9 huu9 g L' h₁ F' N' G' st' old lt' back
  show wpAny _ { handled := none, depth := dd9, frames := fr9, guards := gs, units := uu9 } _ _ _ _
  simp only at hdd9 huu9
  have X' : (Mine.hd.heap_1 w.params).In g := G'.X
  have T' := G'.T
  have hcl' : g.IsList cel cvs.toArray := hcl.at fun o e => old _ _ e (by simp; exact hcel)
  have hnl := (H.2 _ (.head _)).1
  have hdx := (H.2 _ (.tail _ (.head _))).1
  have hcs' : CellsAt g cvs cs := cellsAt_keeps hcs fun b o e hc => old _ _ e (by
    intro hb
    simp only [List.map_cons, List.map_nil, List.mem_cons, List.not_mem_nil, or_false] at hb
    rcases hb with rfl | rfl
    · rw [hnl] at e; cases e; simp at hc
    · rw [hdx] at e; cases e; simp at hc)
  have lnl : @LT.lt Nat _ nl L' := lt' _ (.head _)
  have ldx : @LT.lt Nat _ dx L' := lt' _ (.tail _ (.head _))
  have hne' : @Ne Nat nl dx := hne
  have hcvl : cvs.length = cs.length := hcs'.1
  have k' : ∀ a n h' tk L m news, Fr g L h' m → News g L h' news → (a, listOf #[] n) ∈ news → (nl, instObj 134 dx) ∈ news → (dx, dictOf (nlEs w.params k1 k2 k3 k4 k5 nm cnt ct inp outp cel) nd) ∈ news → a ≠ nl → a ≠ dx → R (.ok (.ret (.ref a))) { s with heap := h', toks := tk } :=
    fun a n h' tk L m news F N m1 m2 m3 n1 n2 => by
      refine k a n h' tk ?_ (N.get m1) fun b o hb e => ?_
      · cases e : s.heap.get? a with
        | none => rfl
        | some o => have := (N _ m1).2.2; rw [old _ _ e (by simp; exact ⟨n1, n2⟩)] at this; cases this
      · by_cases q1 : b = nl
        · subst q1; rw [hnl] at e; cases e; exact N.get m2
        by_cases q2 : b = dx
        · subst q2; rw [hdx] at e; cases e; exact N.get m3
        exact F.keep b o (old b o e (by simp; exact ⟨q1, q2⟩))
  clear hcl hcs H G old st' back k lt' hnl hdx
  walk_at "GO"
  unfold Stop
  rename_i fo hA l1 hB FA NA hC tkA t₁ u₁ v₁ hr FB NB kB
  refine iter_range_S [Str.ofString "index"] (fun _ m nx => nx = [(fo, listOf #[] 0), (nl, instObj 134 dx), (dx, dictOf (nlEs w.params k1 k2 k3 k4 k5 nm cnt ct inp outp cel) nd)]) rfl hr rfl (by omega) FB NB rfl ?_ ?_
  · rintro i t m₁ news₁ h tk I oI hi hm hnI F N
    subst hm
    rw [hcvl] at hi
    obtain ⟨a, t1, t2, ia, p, ivs, hcv, hct, hit, hii, hpp⟩ := getD_zero cs cvs _ hcs' i hi
    have hI1 := hnI _ (.head _)
    have hI2 := hnI _ (.tail _ (.head _))
    have hI3 := hnI _ (.tail _ (.tail _ (.head _)))
    have hcv' : cvs[((i : Nat) : Int).toNat]? = some (.ref a) := by rw [Int.toNat_natCast]; exact hcv
    simp only [List.cons_append, List.nil_append] at N
    have hi0 : (0 : Int) ≤ (i : Int) := by omega
    walk_at "GO"
    exact InvEndX.intro (by assumption) (by assumption) ⟨rfl, by walk_at "KEEPM"⟩ (by k_allIn) (by k_memK) hnI
  · rintro m₁ news₁ h tk hm F N
    subst hm
    walk_at "GO"
    exact k' fo 0 _ _ _ _ _ (by assumption) (by assumption) (by k_memK) (by k_memK) (by k_memK) (Nat.ne_of_gt l1.1) (Nat.ne_of_gt l1.2)
end
section
section
variable {K : Type} [DecidableEq K]
theorem valueAt_nil (k : K) : valueAt ([] : List (K × Value)) k = none := rfl
theorem valueAt_cons (a : K) (v : Value) (r : List (K × Value)) (k : K) : valueAt ((a, v) :: r) k = if a = k then some v else valueAt r k := by
  unfold valueAt
  by_cases h : a = k
  · rw [List.find?_cons_of_pos (by simpa using h)]; simp [h]
  · rw [List.find?_cons_of_neg (by simpa using h)]; simp [h]
theorem valueAt_snoc (kvs : List (K × Value)) (a : K) (v : Value) (k : K) : valueAt (kvs ++ [(a, v)]) k = match valueAt kvs k with | some u => some u | none => if a = k then some v else none := by
  induction kvs with
  | nil => rw [List.nil_append, valueAt_cons]; rfl
  | cons p r ih =>
    obtain ⟨b, u⟩ := p
    rw [List.cons_append, valueAt_cons, valueAt_cons]
    by_cases h : b = k
    · simp [h]
    · simp only [if_neg h]; exact ih
theorem valueAt_map (kvs : List (K × Value)) (a : K) (v : Value) (k : K) : valueAt (kvs.map fun kv => if kv.1 = a then (kv.1, v) else kv) k = if k = a then (valueAt kvs k).map fun _ => v else valueAt kvs k := by
  induction kvs with
  | nil => simp [valueAt]
  | cons p r ih =>
    obtain ⟨b, u⟩ := p
    rw [List.map_cons]
    by_cases h : b = a
    · simp only [if_pos h]
      rw [valueAt_cons, valueAt_cons]
      by_cases h2 : b = k
      · subst h2; simp [h]
      · simp only [if_neg h2]; exact ih
    · simp only [if_neg h]
      rw [valueAt_cons, valueAt_cons]
      by_cases h2 : b = k
      · subst h2; simp [h]
      · simp only [if_neg h2]; exact ih
theorem any_valueAt (kvs : List (K × Value)) (k : K) : kvs.any (fun kv => kv.1 = k) = (valueAt kvs k).isSome := by
  induction kvs with
  | nil => rfl
  | cons p r ih =>
    obtain ⟨b, u⟩ := p
    rw [List.any_cons, valueAt_cons]
    by_cases h : b = k
    · simp [h]
    · rw [if_neg h, decide_eq_false h, Bool.false_or]; exact ih
theorem valueAt_stored (kvs : List (K × Value)) (a : K) (v : Value) (k : K) : valueAt (stored kvs a v) k = if k = a then some v else valueAt kvs k := by
  unfold stored
  rw [any_valueAt]
  cases h : valueAt kvs a with
  | none =>
    simp only [Option.isSome_none, Bool.false_eq_true, if_false]
    rw [valueAt_snoc]
    by_cases h2 : k = a
    · subst h2; simp [h]
    · cases h3 : valueAt kvs k with
      | none => simp [h2, Ne.symm h2]
      | some u => simp [h2]
  | some u =>
    simp only [Option.isSome_some, if_true]
    rw [valueAt_map]
    by_cases h2 : k = a
    · subst h2; simp [h]
    · simp [h2]
end
def netsOf (c : Nat) : List Int := (List.range c).map fun (i : Nat) => (i : Int) + 2
/-- what the keys of taken are -/
def TakenIs (kvs : List (Int × Value)) (ns : List Int) : Prop := (∀ k, (valueAt kvs k).isSome = true ↔ k = 0 ∨ k = 1 ∨ k ∈ ns) ∧ kvs.length ≤ 2 + ns.length
theorem TakenIs.start (u v : Value) : TakenIs [(0, u), (1, v)] [] := by
  refine ⟨fun k => ?_, by simp⟩
  rw [valueAt_cons, valueAt_cons, valueAt_nil]
  by_cases h0 : (0 : Int) = k
  · simp [h0.symm]
  · by_cases h1 : (1 : Int) = k
    · simp [h1.symm]
    · simp [h0, h1, Ne.symm h0, Ne.symm h1]
theorem TakenIs.fresh {kvs : List (Int × Value)} {ns : List Int} {n : Int} (t : TakenIs kvs ns) (h0 : n ≠ 0) (h1 : n ≠ 1) (h : n ∉ ns) : (valueAt kvs n).isSome = false := by
  cases e : (valueAt kvs n).isSome with
  | false => rfl
  | true => exact absurd ((t.1 n).mp e) (by simp [h0, h1, h])
theorem TakenIs.snoc {kvs : List (Int × Value)} {ns : List Int} {n : Int} {v : Value} (t : TakenIs kvs ns) : TakenIs (stored kvs n v) (ns ++ [n]) := by
  refine ⟨fun k => ?_, ?_⟩
  · rw [valueAt_stored]
    by_cases h : k = n
    · simp [h]
    · rw [if_neg h, t.1 k, List.mem_append, List.mem_singleton]; simp [h]
  · have := stored_length_le kvs n v
    have := t.2
    simp only [List.length_append, List.length_singleton]; omega
theorem netsOf_length (c : Nat) : (netsOf c).length = c := by simp [netsOf]
theorem netsOf_get {c i : Nat} (h : i < c) : (netsOf c)[i]? = some ((i : Int) + 2) := by simp [netsOf, h]
theorem netsOf_take {c i : Nat} (h : i < c) : (netsOf c).take (i + 1) = (netsOf c).take i ++ [(i : Int) + 2] := by
  rw [List.take_add_one, netsOf_get h]; rfl
theorem netsOf_not_mem {c i : Nat} : ((i : Int) + 2) ∉ (netsOf c).take i := by
  intro hm
  obtain ⟨j, hj, e⟩ := List.getElem_of_mem hm
  rw [List.getElem_take] at e
  simp [netsOf] at e hj
  omega
theorem netsOf_mem {c : Nat} {n : Int} : n ∈ netsOf c ↔ 2 ≤ n ∧ n < 2 + c := by
  simp only [netsOf, List.mem_map, List.mem_range]
  constructor
  · rintro ⟨i, hi, rfl⟩; omega
  · rintro ⟨h1, h2⟩; exact ⟨(n - 2).toNat, by omega, by omega⟩

/-- what the driver of a net is, by the first cells -/
def FoundIs (kvs : List (Int × Value)) (cs : List CellD) (i : Nat) : Prop := (∀ j (hj : j < cs.length), j < i → ∃ t, valueAt kvs (cs[j]).out = some (.int (j : Int) t)) ∧ (∀ n, (∀ j (hj : j < cs.length), j < i → (cs[j]).out ≠ n) → valueAt kvs n = none)
theorem FoundIs.start (cs : List CellD) : FoundIs [] cs 0 := ⟨fun _ _ h => absurd h (Nat.not_lt_zero _), fun _ _ => rfl⟩
theorem FoundIs.step {kvs : List (Int × Value)} {cs : List CellD} {i : Nat} {t : Tok} (x : FoundIs kvs cs i) (hi : i < cs.length) (hout : ∀ i j (hi : i < cs.length) (hj : j < cs.length), (cs[i]).out = (cs[j]).out → i = j) :
    FoundIs (stored kvs (cs[i]).out (.int (i : Int) t)) cs (i + 1) := by
  refine ⟨fun j hj hji => ?_, fun n hn => ?_⟩
  · rw [valueAt_stored]
    by_cases e : (cs[j]).out = (cs[i]).out
    · have := hout j i hj hi e
      subst this
      rw [if_pos rfl]; exact ⟨t, rfl⟩
    · rw [if_neg e]
      refine x.1 j hj ?_
      have : j ≠ i := fun q => e (by subst q; rfl)
      omega
  · rw [valueAt_stored, if_neg (fun q => hn i hi (by omega) q.symm)]
    exact x.2 n fun j hj hji => hn j hj (by omega)
theorem outs_take {cs : List CellD} {i : Nat} (hi : i < cs.length) : (cs.take (i + 1)).map (·.out) = (cs.take i).map (·.out) ++ [(cs[i]).out] := by
  rw [List.take_add_one, List.getElem?_eq_getElem hi, List.map_append]; rfl
theorem outs_not_mem {cs : List CellD} {i : Nat} (hi : i < cs.length) (hout : ∀ i j (hi : i < cs.length) (hj : j < cs.length), (cs[i]).out = (cs[j]).out → i = j) : (cs[i]).out ∉ (cs.take i).map (·.out) := by
  intro hm
  obtain ⟨x, hx, e⟩ := List.mem_map.mp hm
  obtain ⟨j, hj, e2⟩ := List.getElem_of_mem hx
  rw [List.getElem_take] at e2
  simp only [List.length_take] at hj
  have := hout j i (by omega) hi (by rw [e2]; exact e)
  omega
end
section
local macro_rules | `(tactic| walk_at "eval Dict") => `(tactic| (k_dflt (refine' kdn_eval (knd := PySem.intKind _ _) ?F ?N ?b ?a ?l ?e ?n ?_; (case F => k_asm); (case N => k_asm); (case b => exact Top.nolimit (by k_asm)); (case a => rfl); (case l => rfl); (case e => exact List.cons_ne_nil _ _); (case n => exact Nat.le_of_ble_eq_true rfl)); intro d' h' o' F' N' l1 lo' hd'; (try k_lt l1)))
local macro_rules | `(tactic| walk_at "KdnMade") => `(tactic| (k_dflt (refine' kdn_made_int ?F ?N ?U ?d ?k ?n ?_; (case F => k_asm); (case N => k_asm); (case U => k_updF); (case d => k_asm); (case k => rfl); (case n => exact of_decide_eq_true (by kernel_rfl!)); intro h' o' F' N' hd'); (try dsimp only at N'); (simp only [intKeyPairs] at hd')))
local macro_rules | `(tactic| walk_at "exec For Tuple Attribute cons nil") => `(tactic| (k_dflt (refine For_stopT (by k_asm) ?_)))
local macro_rules | `(tactic| walk_at "compareOp In int ref") => `(tactic| (k_dflt (refine kda_in (knd := PySem.intKind _ _) (by k_asm) (by k_mem) (by k_asm) (by k_asm) (intKind_is _ _ _ _) false (by assumption) ?_)))
inductive DrA (w : World) (ta : Addr) (rest : List (Addr × Obj)) (l : List Int) (nx : List (Addr × Obj)) : Prop
  | mk (o : Obj) (kvs : List (Int × Value)) (e : nx = (ta, o) :: rest) (hod : o.IsDictOf (intKind PySem.Challenge.rw_on0104_01.row.prog w) kvs) (htk : TakenIs kvs l) : DrA w ta rest l nx
inductive DrC (w : World) (fd ta : Addr) (rest : List (Addr × Obj)) (cs : List CellD) (c i : Nat) (nx : List (Addr × Obj)) : Prop
  | mk (o : Obj) (kvs : List (Int × Value)) (o2 : Obj) (kvs2 : List (Int × Value)) (e : nx = (fd, o2) :: (ta, o) :: rest) (hod : o.IsDictOf (intKind PySem.Challenge.rw_on0104_01.row.prog w) kvs) (hod2 : o2.IsDictOf (intKind PySem.Challenge.rw_on0104_01.row.prog w) kvs2) (htk : TakenIs kvs (netsOf c ++ (cs.take i).map (·.out))) (hfo : FoundIs kvs2 cs i) (hf2 : kvs2.length ≤ i) : DrC w fd ta rest cs c i nx
theorem drivers_spec {w : World} {A : Around} {s : Shared} {h₀ : Heap} {mean mg mb} {nl dx cel inp outp tp bl : Addr} {nd : Nat} {k1 k2 k3 k4 k5 ct tt : Tok} {nm tn : Value} {cnt : Int} {cvs bvs : List Value} {cs : List CellD} {c : Nat} {R : Result → Shared → Prop}
    (G : Gd w mean mg mb h₀) (H : At h₀ s.heap [(nl, instObj 134 dx), (dx, dictOf (nlEs w.params k1 k2 k3 k4 k5 nm cnt ct inp outp cel) nd)]) (hroom : A.depth < 700) (hh : A.handled = none) (hu : A.units < 1800)
    (hne : nl ≠ dx) (hcl : s.heap.IsList cel cvs.toArray) (hcel : cel ≠ nl ∧ cel ≠ dx) (hcs : CellsAt s.heap cvs cs) (hlen : cs.length ≤ 100)
    (hinp : s.heap.IsList inp [Value.ref tp].toArray) (hinp2 : inp ≠ nl ∧ inp ≠ dx) (htp : IsTup s.heap tp #[tn, .ref bl]) (hbl : s.heap.IsList bl bvs.toArray) (hbl2 : bl ≠ nl ∧ bl ≠ dx) (hbi : IntsAre bvs (netsOf c)) (hc : c ≤ 10)
    (hout : ∀ i j (hi : i < cs.length) (hj : j < cs.length), (cs[i]).out = (cs[j]).out → i = j) (hnew : ∀ x ∈ cs, (c : Int) + 2 ≤ x.out)
    (k : ∀ a o kvs h' tk, (a == sysModules) = false → s.heap.get? a = none → h'.get? a = some o → o.IsDictOf (intKind PySem.Challenge.rw_on0104_01.row.prog w) kvs → kvs.length ≤ cs.length → (∀ j (hj : j < cs.length), ∃ t, valueAt kvs (cs[j]).out = some (.int (j : Int) t)) → (∀ n, (∀ x ∈ cs, x.out ≠ n) → valueAt kvs n = none) →
      KeepBut [] s.heap h' → R (.ok (.ret (.ref a))) { s with heap := h', toks := tk }) :
    codeAny (model PySem.Challenge.rw_on0104_01.row.prog w) A (.call (.ref 152) ⟨[.ref nl], []⟩) R s := by
  obtain ⟨hdl, dd, fr, gs, uu⟩ := A
  simp only at hh hroom hu
  subst hh
  refine' callD G H ?k6 ?k7 ?k8 ?k9 ?kB ?_ ?c2 ?c3 ?c4 ?c5
  walk_at "ENTER"
  intro dd9 uu9 fr9 hdd9 huu9 g L' h₁ F' N' G' st' old lt' back
  show wpAny _ { handled := none, depth := dd9, frames := fr9, guards := gs, units := uu9 } _ _ _ _
  simp only at hdd9 huu9
  have X' : (Mine.hd.heap_1 w.params).In g := G'.X
  have T' := G'.T
  have hcl' : g.IsList cel cvs.toArray := hcl.at fun o e => old _ _ e (by simp; exact hcel)
  have hinp' : g.IsList inp [Value.ref tp].toArray := hinp.at fun o e => old _ _ e (by simp; exact hinp2)
  have hbl' : g.IsList bl bvs.toArray := hbl.at fun o e => old _ _ e (by simp; exact hbl2)
  have hnl := (H.2 _ (.head _)).1
  have hdx := (H.2 _ (.tail _ (.head _))).1
  have tk : ∀ b o, s.heap.get? b = some o → o.cls = .type "tuple" → g.get? b = some o := fun b o e hc => old _ _ e (by
    intro hb
    simp only [List.map_cons, List.map_nil, List.mem_cons, List.not_mem_nil, or_false] at hb
    rcases hb with rfl | rfl
    · rw [hnl] at e; cases e; simp at hc
    · rw [hdx] at e; cases e; simp at hc)
  have hcs' : CellsAt g cvs cs := cellsAt_keeps hcs tk
  have htp' : IsTup g tp #[tn, .ref bl] := tup_upto htp tk
  have lnl : @LT.lt Nat _ nl L' := lt' _ (.head _)
  have ldx : @LT.lt Nat _ dx L' := lt' _ (.tail _ (.head _))
  have hne' : @Ne Nat nl dx := hne
  have hcvl : cvs.length = cs.length := hcs'.1
  have k' : ∀ a o kvs h' tk L m news, (a == sysModules) = false → Fr g L h' m → News g L h' news → (a, o) ∈ news → (nl, instObj 134 dx) ∈ news → (dx, dictOf (nlEs w.params k1 k2 k3 k4 k5 nm cnt ct inp outp cel) nd) ∈ news → a ≠ nl → a ≠ dx →
      o.IsDictOf (intKind PySem.Challenge.rw_on0104_01.row.prog w) kvs → kvs.length ≤ cs.length → (∀ j (hj : j < cs.length), ∃ t, valueAt kvs (cs[j]).out = some (.int (j : Int) t)) → (∀ n, (∀ x ∈ cs, x.out ≠ n) → valueAt kvs n = none) → R (.ok (.ret (.ref a))) { s with heap := h', toks := tk } :=
    fun a o kvs h' tk L m news lo F N m1 m2 m3 n1 n2 q1 q2 q3 q4 => by
      refine k a o kvs h' tk lo ?_ (N.get m1) q1 q2 q3 q4 fun b o hb e => ?_
      · cases e : s.heap.get? a with
        | none => rfl
        | some o => have := (N _ m1).2.2; rw [old _ _ e (by simp; exact ⟨n1, n2⟩)] at this; cases this
      · by_cases q1 : b = nl
        · subst q1; rw [hnl] at e; cases e; exact N.get m2
        by_cases q2 : b = dx
        · subst q2; rw [hdx] at e; cases e; exact N.get m3
        exact F.keep b o (old b o e (by simp; exact ⟨q1, q2⟩))
  clear hcl hcs hinp htp hbl tk H G old st' back k lt' hnl hdx
  walk_at "GO"
  unfold Stop
  rename_i ta hA o0 loT hd0 l1 hB oT hd1 hC FA NA
  refine turns_listB_S [Str.ofString "name", Str.ofString "bits", Str.ofString "net"] (fun i _ nx => DrA w ta [(nl, instObj 134 dx), (dx, dictOf (nlEs w.params k1 k2 k3 k4 k5 nm cnt ct inp outp cel) nd)] (if i = 0 then [] else netsOf c) nx)
    rfl hinp' FA NA ⟨oT, _, rfl, hd1, TakenIs.start _ _⟩ ?_ ?_
  · rintro i v m₁ news₁ h tk I oI hi hv ⟨o, kvs, rfl, hod, htk⟩ hnI F N
    have hi0 : i = 0 := by simpa using hi
    subst hi0
    have hve : v = .ref tp := by simpa using hv.symm
    subst hve
    rw [if_pos rfl] at htk
    simp only [List.cons_append, List.nil_append] at N
    have hI1 : @Ne Nat ta I := hnI _ (.head _)
    have hI2 : @Ne Nat nl I := hnI _ (.tail _ (.head _))
    have hI3 : @Ne Nat dx I := hnI _ (.tail _ (.tail _ (.head _)))
    walk_at "GO"
    unfold Stop
    refine iter_listB_S [Str.ofString "net"] (fun j _ nx => DrA w ta [(nl, instObj 134 dx), (dx, dictOf (nlEs w.params k1 k2 k3 k4 k5 nm cnt ct inp outp cel) nd), (I, oI)] ((netsOf c).take j) nx)
      rfl hbl' (by assumption) (by assumption) ⟨o, _, rfl, hod, htk⟩ ?_ ?_
    · rintro j v m₂ news₂ h tk I2 oI2 hj hv ⟨o, kvs, rfl, hod, htk⟩ hnI2 F N
      have hjc : j < c := by
        have := hbi.length
        rw [netsOf_length] at this
        simp only [List.size_toArray] at hj; omega
      obtain ⟨tj, htj⟩ := hbi.get j _ (netsOf_get hjc)
      have hve : v = .int ((j : Int) + 2) tj := by
        have hv' : bvs[j]? = some v := by simpa using hv
        rw [htj] at hv'; exact (Option.some.inj hv').symm
      subst hve
      simp only [List.cons_append, List.nil_append] at N
      have hJ1 : @Ne Nat ta I2 := hnI2 _ (.head _)
      have hJ2 : @Ne Nat nl I2 := hnI2 _ (.tail _ (.head _))
      have hJ3 : @Ne Nat dx I2 := hnI2 _ (.tail _ (.tail _ (.head _)))
      have hJ4 : @Ne Nat I I2 := hnI2 _ (.tail _ (.tail _ (.tail _ (.head _))))
      have hfr := htk.fresh (n := (j : Int) + 2) (by omega) (by omega) netsOf_not_mem
      have hsz : kvs.length ≤ 100 := by
        have h1 := htk.2
        simp only [List.length_take, netsOf_length] at h1; omega
      walk_at "GO"
      exact InvEndX.intro (by assumption) (by assumption) ⟨⟨_, stored kvs ((j : Int) + 2) (.bool true), rfl, by assumption, by rw [netsOf_take hjc]; exact htk.snoc⟩, by walk_at "KEEPM"⟩ (by k_allIn) (by k_memK) (by walk_at "NXI")
    · rintro m₂ news₂ h tk ⟨o, kvs, rfl, hod, htk⟩ F N
      walk_at "GO"
      exact InvEndX.intro (by assumption) (by assumption) ⟨⟨o, kvs, rfl, hod, by
        have hl : (netsOf c).take bvs.toArray.size = netsOf c := List.take_of_length_le (by rw [netsOf_length, List.size_toArray, hbi.length, netsOf_length]; exact Nat.le_refl _)
        rw [hl] at htk
        exact htk⟩, by walk_at "KEEPM"⟩ (by k_allIn) (by k_memK) (by walk_at "NXI")
  · rintro m₁ news₁ h tk ⟨o, kvs, rfl, hod, htk⟩ F N
    rw [if_neg (by simp)] at htk
    walk_at "GO"
    unfold Stop
    rename_i fd hD oF FD ND loF hs0 fs0 hi0 fi0 l2 hE FE NE hF tkF t₁ u₁ v₁ hr FB NB kB
    refine iter_range_S (n := cs.length) [Str.ofString "index", Str.ofString "net"] (fun i _ nx => DrC w fd ta [(nl, instObj 134 dx), (dx, dictOf (nlEs w.params k1 k2 k3 k4 k5 nm cnt ct inp outp cel) nd)] cs c i nx) rfl hr (by rw [hcvl]) (by omega) FB NB ⟨o, kvs, oF, [], rfl, hod, hi0, by simpa using htk, FoundIs.start cs, Nat.le_refl _⟩ ?_ ?_
    · rintro i t m₂ news₂ h tk I oI hi ⟨o, kvs, o2, kvs2, rfl, hod, hod2, htk, hfo, hf2⟩ hnI F N
      obtain ⟨a, t1, t2, ia, p, ivs, hcv, hct, hit, hii, hpp⟩ := getD_zero cs cvs _ hcs' i hi
      have hI0 : @Ne Nat fd I := hnI _ (.head _)
      have hI1 : @Ne Nat ta I := hnI _ (.tail _ (.head _))
      have hI2 : @Ne Nat nl I := hnI _ (.tail _ (.tail _ (.head _)))
      have hI3 : @Ne Nat dx I := hnI _ (.tail _ (.tail _ (.tail _ (.head _))))
      have hcv' : cvs[((i : Nat) : Int).toNat]? = some (.ref a) := by rw [Int.toNat_natCast]; exact hcv
      simp only [List.cons_append, List.nil_append] at N
      have hi0 : (0 : Int) ≤ (i : Int) := by omega
      have hnw := hnew (cs[i]) (List.getElem_mem hi)
      have hfr := htk.fresh (n := (cs[i]).out) (by omega) (by omega) (by
        rw [List.mem_append, netsOf_mem]
        rintro (q | q)
        · omega
        · exact outs_not_mem hi hout q)
      have hsz : kvs.length ≤ 1000 := by
        have h1 := htk.2
        simp only [List.length_append, List.length_map, List.length_take, netsOf_length] at h1; omega
      walk_at "GO"
      exact InvEndX.intro (by assumption) (by assumption) ⟨⟨_, stored kvs (cs[i]).out (.bool true), _, stored kvs2 (cs[i]).out (.int (i : Int) t), rfl, by assumption, by assumption, by rw [outs_take hi, ← List.append_assoc]; exact htk.snoc, hfo.step hi hout, by
        have := stored_length_le kvs2 (cs[i]).out (.int (i : Int) t); omega⟩, by walk_at "KEEPM"⟩ (by k_allIn) (by k_memK) (by walk_at "NXI")
    · rintro m₂ news₂ h tk ⟨o, kvs, o2, kvs2, rfl, hod, hod2, htk, hfo, hf2⟩ F N
      walk_at "GO"
      exact k' fd o2 kvs2 _ _ _ _ _ loF (by assumption) (by assumption) (by k_memK) (by k_memK) (by k_memK) (Nat.ne_of_gt l2.2.1) (Nat.ne_of_gt l2.2.2) hod2 hf2 (fun j hj => hfo.1 j hj hj) (fun n hn => hfo.2 n fun j hj _ => hn _ (List.getElem_mem hj))
end
section
def drvOf (cs : List CellD) (n : Int) : Option Nat := cs.findIdx? (fun x => decide (x.out = n))
def deps (cs : List CellD) (j : Nat) : List Nat := ((cs[j]?.map (·.ins)).getD []).filterMap (drvOf cs)
def usersOf (cs : List CellD) (i b : Nat) : List Nat := (List.range i).flatMap fun j => List.replicate ((deps cs j).count b) j
theorem usersOf_succ (cs : List CellD) (i b : Nat) : usersOf cs (i + 1) b = usersOf cs i b ++ List.replicate ((deps cs i).count b) i := by
  simp [usersOf, List.range_succ, List.flatMap_append]
theorem usersOf_mem {cs : List CellD} {i b j : Nat} (h : j ∈ usersOf cs i b) : j < i := by
  simp only [usersOf, List.mem_flatMap, List.mem_range, List.mem_replicate] at h
  obtain ⟨k, hk, _, rfl⟩ := h
  exact hk
theorem usersOf_count (cs : List CellD) (n b j : Nat) : (usersOf cs n b).count j = if j < n then (deps cs j).count b else 0 := by
  induction n with
  | zero => simp [usersOf]
  | succ n ih =>
    rw [usersOf_succ, List.count_append, ih, List.count_replicate]
    by_cases h1 : j = n
    · subst h1; simp
    · by_cases h2 : j < n
      · have : ¬ (n == j) = true := by simp; omega
        rw [if_pos h2, if_neg this, if_pos (by omega)]; omega
      · have : ¬ (n == j) = true := by simp; omega
        rw [if_neg h2, if_neg this, if_neg (by omega)]

def cntOff (D : List Nat) (p : List Nat) : Nat := (D.filter fun b => decide (b ∉ p)).length
structure KInv (D : Nat → List Nat) (n : Nat) (t : Nat) (w : Nat → Int) (r : List Nat) : Prop where
  wt : ∀ j, j < n → w j = (cntOff (D j) (r.take t) : Int)
  nd : r.Nodup
  lt : ∀ j ∈ r, j < n
  ready : ∀ j, j < n → (j ∈ r ↔ w j = 0)
  topo : ∀ k (h : k < r.length), ∀ b ∈ D (r[k]), b ∈ r.take k
  tle : t ≤ r.length
structure KMid (D : Nat → List Nat) (n : Nat) (t b0 : Nat) (pre : List Nat) (w : Nat → Int) (r : List Nat) : Prop where
  at_ : r[t]? = some b0
  wt : ∀ j, j < n → w j = (cntOff (D j) (r.take t) : Int) - pre.count j
  nd : r.Nodup
  lt : ∀ j ∈ r, j < n
  ready : ∀ j, j < n → (j ∈ r ↔ w j = 0)
  topo : ∀ k (h : k < r.length), ∀ b ∈ D (r[k]), b ∈ r.take k
theorem KMid.tlt {D n t b0 pre w r} (h : KMid D n t b0 pre w r) : t < r.length := by
  have := h.at_
  exact (List.getElem?_eq_some_iff.mp this).1
theorem KInv.mid {D n t w r} (h : KInv D n t w r) (ht : t < r.length) : KMid D n t (r[t]) [] w r :=
  ⟨List.getElem?_eq_getElem ht, fun j hj => by rw [h.wt j hj]; simp, h.nd, h.lt, h.ready, h.topo⟩
theorem cntOff_cons (x : Nat) (r p : List Nat) : cntOff (x :: r) p = (if x ∈ p then 0 else 1) + cntOff r p := by
  unfold cntOff
  by_cases h : x ∈ p
  · rw [List.filter_cons_of_neg (by simpa using h), if_pos h, Nat.zero_add]
  · rw [List.filter_cons_of_pos (by simpa using h), if_neg h, List.length_cons, Nat.add_comm]
theorem cntOff_split (D p : List Nat) (b : Nat) (hb : b ∉ p) : cntOff D p = D.count b + cntOff D (p ++ [b]) := by
  induction D with
  | nil => simp [cntOff]
  | cons x r ih =>
    rw [cntOff_cons, cntOff_cons, List.count_cons, ih]
    by_cases h1 : x = b
    · subst h1
      simp [hb]; omega
    · by_cases h2 : x ∈ p
      · simp [h1, h2]
      · simp [h1, h2]; omega
theorem not_take {r : List Nat} (nd : r.Nodup) {t b : Nat} (h : r[t]? = some b) : b ∉ r.take t := by
  intro hm
  obtain ⟨j, hj, e⟩ := List.getElem_of_mem hm
  obtain ⟨ht, e2⟩ := List.getElem?_eq_some_iff.mp h
  rw [List.getElem_take] at e
  simp only [List.length_take] at hj
  have := (List.getElem_inj nd).mp (e.trans e2.symm)
  omega
theorem take_snoc {r : List Nat} {t b : Nat} (h : r[t]? = some b) : r.take (t + 1) = r.take t ++ [b] := by
  rw [List.take_add_one, h]; rfl
/-- all users of b0 taken: the next turn -/
theorem KMid.fin {D n t b0 pre w r} (h : KMid D n t b0 pre w r) (hc : ∀ j, j < n → pre.count j = (D j).count b0) : KInv D n (t + 1) w r := by
  refine ⟨fun j hj => ?_, h.nd, h.lt, h.ready, h.topo, h.tlt⟩
  rw [h.wt j hj, hc j hj, take_snoc h.at_, cntOff_split _ _ _ (not_take h.nd h.at_)]
  omega
def upd (w : Nat → Int) (j : Nat) (v : Int) : Nat → Int := fun i => if i = j then v else w i
theorem cntOff_zero {D p : List Nat} (h : cntOff D p = 0) : ∀ b ∈ D, b ∈ p := by
  intro b hb
  unfold cntOff at h
  have h' := List.length_eq_zero_iff.mp h
  rw [List.filter_eq_nil_iff] at h'
  have := h' b hb
  simpa using this
theorem KMid.pos {D n t b0 pre w r j} (h : KMid D n t b0 pre w r) (hj : j < n) (hc : pre.count j + 1 ≤ (D j).count b0) : 1 ≤ w j := by
  have h1 := h.wt j hj
  have h2 := cntOff_split (D j) (r.take t) b0 (not_take h.nd h.at_)
  omega
theorem KMid.step {D n t b0 pre w r j} (h : KMid D n t b0 pre w r) (hj : j < n) (hc : pre.count j + 1 ≤ (D j).count b0) :
    KMid D n t b0 (pre ++ [j]) (upd w j (w j - 1)) (if w j - 1 = 0 then r ++ [j] else r) := by
  have hp := h.pos hj hc
  have hjr : j ∉ r := fun hm => by have := (h.ready j hj).mp hm; omega
  have ht := h.tlt
  have hw : ∀ i, i < n → upd w j (w j - 1) i = (cntOff (D i) (r.take t) : Int) - (pre ++ [j]).count i := fun i hi => by
    rw [List.count_append, List.count_singleton]
    unfold upd
    by_cases e : i = j
    · subst e; rw [if_pos rfl, h.wt i hi]; simp; omega
    · rw [if_neg e, h.wt i hi]
      have : ¬ (j == i) = true := by simp; omega
      rw [if_neg this]; omega
  by_cases hz : w j - 1 = 0
  · rw [if_pos hz]
    have htake : ∀ k, k ≤ r.length → (r ++ [j]).take k = r.take k := fun k hk => List.take_append_of_le_length hk
    refine ⟨by rw [List.getElem?_append_left ht]; exact h.at_, fun i hi => by rw [htake t (Nat.le_of_lt ht)]; exact hw i hi, ?_, ?_, ?_, ?_⟩
    · rw [List.nodup_append]
      exact ⟨h.nd, by simp, fun a ha b hb e => hjr (by rw [List.mem_singleton] at hb; rw [← hb, ← e]; exact ha)⟩
    · intro i hi
      rcases List.mem_append.mp hi with q | q
      · exact h.lt i q
      · rw [List.mem_singleton.mp q]; exact hj
    · intro i hi
      rw [List.mem_append, List.mem_singleton]
      unfold upd
      by_cases e : i = j
      · subst e; simp [hz]
      · rw [if_neg e, ← h.ready i hi]; simp [e]
    · intro k hk b hb
      by_cases e : k < r.length
      · rw [List.getElem_append_left e] at hb
        rw [htake k (Nat.le_of_lt e)]
        exact h.topo k e b hb
      · have hk' : k = r.length := by simp at hk; omega
        subst hk'
        rw [List.getElem_append_right (Nat.le_refl _)] at hb
        simp at hb
        rw [htake _ (Nat.le_refl _), List.take_length]
        have h1 := h.wt j hj
        have h2 := cntOff_split (D j) (r.take t) b0 (not_take h.nd h.at_)
        have h3 : cntOff (D j) (r.take t ++ [b0]) = 0 := by omega
        have h4 := cntOff_zero h3 b hb
        rw [← take_snoc h.at_] at h4
        exact List.mem_of_mem_take h4
  · rw [if_neg hz]
    refine ⟨h.at_, hw, h.nd, h.lt, fun i hi => ?_, h.topo⟩
    unfold upd
    by_cases e : i = j
    · subst e; rw [if_pos rfl]; exact ⟨fun q => absurd q hjr, fun q => absurd q hz⟩
    · rw [if_neg e]; exact h.ready i hi
/-- the end: all are ready -/
theorem KInv.all {D n w r} (h : KInv D n r.length w r) (rank : Nat → Int) (h0 : ∀ j, 0 ≤ rank j) (hr : ∀ j, j < n → ∀ b ∈ D j, b < n ∧ rank b < rank j) : ∀ j, j < n → j ∈ r := by
  have key : ∀ k : Nat, ∀ j, j < n → rank j < k → j ∈ r := by
    intro k
    induction k with
    | zero => intro j _ hk; have := h0 j; omega
    | succ k ih =>
      intro j hj hk
      refine (h.ready j hj).mpr ?_
      rw [h.wt j hj, List.take_length]
      have : cntOff (D j) r = 0 := by
        unfold cntOff
        rw [List.length_eq_zero_iff, List.filter_eq_nil_iff]
        intro b hb
        have hb' := hr j hj b hb
        have := ih b hb'.1 (by omega)
        simpa using this
      omega
  intro j hj
  exact key ((rank j).toNat + 1) j hj (by have := h0 j; omega)
theorem nodup_bound : ∀ (n : Nat) (r : List Nat), r.Nodup → (∀ j ∈ r, j < n) → r.length ≤ n
  | 0, r, _, hl => by
    cases r with
    | nil => exact Nat.le_refl _
    | cons a r => exact absurd (hl a (.head _)) (Nat.not_lt_zero _)
  | n + 1, r, nd, hl => by
    have h1 := nodup_bound n (r.erase n) (nd.erase n) (fun j hj => by
      have h2 := hl j (List.mem_of_mem_erase hj)
      have h3 : j ≠ n := fun e => by subst e; exact (List.Nodup.not_mem_erase nd) hj
      omega)
    by_cases hm : n ∈ r
    · rw [List.length_erase_of_mem hm] at h1; omega
    · rw [List.erase_of_not_mem hm] at h1; omega
end
section
set_option maxHeartbeats 400000
structure UL where
  key : Nat
  adr : Addr
  vals : List Value
  n : Nat
def ulObjs (U : List UL) : List (Addr × Obj) := U.map fun u => (u.adr, listOf u.vals.toArray u.n)
def ulKvs (U : List UL) : List (Int × Value) := U.map fun u => ((u.key : Int), Value.ref u.adr)
def ulAdd (U : List UL) (b : Nat) (v : Value) : List UL := U.map fun u => if u.key = b then { u with vals := u.vals ++ [v], n := u.n + 1 } else u
def castL (l : List Nat) : List Int := l.map fun (i : Nat) => (i : Int)
structure ULok (U : List UL) (f : Nat → List Nat) (B : Nat) : Prop where
  vints : ∀ u ∈ U, IntsAre u.vals (castL (f u.key))
  has : ∀ b, f b ≠ [] → ∃ u ∈ U, u.key = b
  keys : (U.map (·.key)).Nodup
  adrs : (U.map (·.adr)).Nodup
  len : U.length ≤ B
  vlen : ∀ u ∈ U, u.vals.length ≤ B
theorem ULok.start (f : Nat → List Nat) (h : ∀ b, f b = []) : ULok [] f 0 :=
  ⟨(fun _ q => nomatch q), (fun b hb => absurd (h b) hb), List.nodup_nil, List.nodup_nil, Nat.le_refl _, (fun _ q => nomatch q)⟩
theorem ULok.congr {U f f' B B'} (x : ULok U f B) (h : ∀ b, f' b = f b) (hB : B ≤ B') : ULok U f' B' :=
  ⟨fun u hu => by rw [h]; exact x.vints u hu, fun b hb => x.has b (by rw [← h]; exact hb), x.keys, x.adrs, Nat.le_trans x.len hB, fun u hu => Nat.le_trans (x.vlen u hu) hB⟩
theorem key_inj {U : List UL} (nd : (U.map (·.key)).Nodup) {u v : UL} (hu : u ∈ U) (hv : v ∈ U) (e : u.key = v.key) : u = v := by
  induction U with
  | nil => cases hu
  | cons a r ih =>
    rw [List.map_cons, List.nodup_cons] at nd
    rcases List.mem_cons.mp hu with rfl | hu' <;> rcases List.mem_cons.mp hv with rfl | hv'
    · rfl
    · exact absurd (List.mem_map.mpr ⟨v, hv', e.symm⟩) nd.1
    · exact absurd (List.mem_map.mpr ⟨u, hu', e⟩) nd.1
    · exact ih nd.2 hu' hv'
theorem adr_inj {U : List UL} (nd : (U.map (·.adr)).Nodup) {u v : UL} (hu : u ∈ U) (hv : v ∈ U) (e : u.adr = v.adr) : u = v := by
  induction U with
  | nil => cases hu
  | cons a r ih =>
    rw [List.map_cons, List.nodup_cons] at nd
    rcases List.mem_cons.mp hu with rfl | hu' <;> rcases List.mem_cons.mp hv with rfl | hv'
    · rfl
    · exact absurd (List.mem_map.mpr ⟨v, hv', e.symm⟩) nd.1
    · exact absurd (List.mem_map.mpr ⟨u, hu', e⟩) nd.1
    · exact ih nd.2 hu' hv'
theorem ul_none {U : List UL} {b : Nat} (h : ∀ u ∈ U, u.key ≠ b) : valueAt (ulKvs U) (b : Int) = none := by
  induction U with
  | nil => rfl
  | cons a r ih =>
    show valueAt (((a.key : Int), Value.ref a.adr) :: ulKvs r) _ = none
    rw [valueAt_cons, if_neg (by have := h a (.head _); omega)]
    exact ih fun u hu => h u (.tail _ hu)
theorem ul_some {U : List UL} (nd : (U.map (·.key)).Nodup) {u : UL} (hu : u ∈ U) : valueAt (ulKvs U) (u.key : Int) = some (.ref u.adr) := by
  induction U with
  | nil => cases hu
  | cons a r ih =>
    rw [List.map_cons, List.nodup_cons] at nd
    show valueAt (((a.key : Int), Value.ref a.adr) :: ulKvs r) _ = _
    rw [valueAt_cons]
    rcases List.mem_cons.mp hu with rfl | hu'
    · rw [if_pos rfl]
    · rw [if_neg, ih nd.2 hu']
      intro e
      exact nd.1 (List.mem_map.mpr ⟨u, hu', by show u.key = a.key; omega⟩)
theorem ulKvs_add (U : List UL) (b : Nat) (v : Value) : ulKvs (ulAdd U b v) = ulKvs U := by
  unfold ulKvs ulAdd
  rw [List.map_map]
  refine List.map_congr_left fun u _ => ?_
  show (((if u.key = b then _ else u : UL).key : Int), Value.ref (if u.key = b then _ else u : UL).adr) = _
  split <;> rfl
theorem ulAdd_keys (U : List UL) (b : Nat) (v : Value) : (ulAdd U b v).map (·.key) = U.map (·.key) := by
  unfold ulAdd
  rw [List.map_map]
  refine List.map_congr_left fun u _ => ?_
  show (if u.key = b then _ else u : UL).key = _
  split <;> rfl
theorem ulAdd_adrs (U : List UL) (b : Nat) (v : Value) : (ulAdd U b v).map (·.adr) = U.map (·.adr) := by
  unfold ulAdd
  rw [List.map_map]
  refine List.map_congr_left fun u _ => ?_
  show (if u.key = b then _ else u : UL).adr = _
  split <;> rfl
theorem ulAdd_adr {U : List UL} {b : Nat} {v : Value} {P : Addr → Prop} (h : ∀ u ∈ U, P u.adr) : ∀ u ∈ ulAdd U b v, P u.adr := by
  intro u hu
  obtain ⟨x, hx, rfl⟩ := List.mem_map.mp hu
  have := h x hx
  split <;> exact this
def updF (f : Nat → List Nat) (b : Nat) (l : List Nat) : Nat → List Nat := fun i => if i = b then l else f i
theorem ULok.add {U f B} (x : ULok U f B) {b j : Nat} {t : Tok} (hb : ∃ u ∈ U, u.key = b) : ULok (ulAdd U b (.int (j : Int) t)) (updF f b (f b ++ [j])) (B + 1) := by
  refine ⟨fun u hu => ?_, fun c hc => ?_, by rw [ulAdd_keys]; exact x.keys, by rw [ulAdd_adrs]; exact x.adrs, ?_, fun u hu => ?_⟩
  · obtain ⟨y, hy, rfl⟩ := List.mem_map.mp hu
    have := x.vints y hy
    by_cases e : y.key = b
    · subst e
      simp only [if_true, updF, castL, List.map_append, List.map_cons, List.map_nil]
      exact IntsAre.append this (.cons _ _ .nil)
    · simp only [if_neg e, updF]
      exact this
  · have : ∃ u ∈ U, u.key = c := by
      by_cases e : c = b
      · subst e; exact hb
      · exact x.has c (by simpa [updF, e] using hc)
    obtain ⟨u, hu, rfl⟩ := this
    refine ⟨_, List.mem_map.mpr ⟨u, hu, rfl⟩, ?_⟩
    split <;> rfl
  · unfold ulAdd; rw [List.length_map]; have := x.len; omega
  · obtain ⟨y, hy, rfl⟩ := List.mem_map.mp hu
    have := x.vlen y hy
    split
    · simp only [List.length_append, List.length_singleton]; omega
    · omega
theorem ULok.new {U f B} (x : ULok U f B) {b : Nat} {a : Addr} {n : Nat} (hb : ∀ u ∈ U, u.key ≠ b) (ha : ∀ u ∈ U, u.adr ≠ a) : ULok (U ++ [⟨b, a, [], n⟩]) f (B + 1) := by
  have hf : f b = [] := by
    cases e : f b with
    | nil => rfl
    | cons y r =>
      obtain ⟨u, hu, hk⟩ := x.has b (by rw [e]; exact List.cons_ne_nil _ _)
      exact absurd hk (hb u hu)
  refine ⟨fun u hu => ?_, fun c hc => ?_, ?_, ?_, ?_, fun u hu => ?_⟩
  · rcases List.mem_append.mp hu with q | q
    · exact x.vints u q
    · rw [List.mem_singleton.mp q]; show IntsAre [] (castL (f b)); rw [hf]; exact .nil
  · obtain ⟨u, hu, hk⟩ := x.has c hc
    exact ⟨u, List.mem_append_left _ hu, hk⟩
  · rw [List.map_append, List.nodup_append]
    refine ⟨x.keys, by simp, fun k hk k' hk' e => ?_⟩
    obtain ⟨u, hu, rfl⟩ := List.mem_map.mp hk
    simp at hk'
    exact hb u hu (e.trans hk')
  · rw [List.map_append, List.nodup_append]
    refine ⟨x.adrs, by simp, fun k hk k' hk' e => ?_⟩
    obtain ⟨u, hu, rfl⟩ := List.mem_map.mp hk
    simp at hk'
    exact ha u hu (e.trans hk')
  · rw [List.length_append, List.length_singleton]; have := x.len; omega
  · rcases List.mem_append.mp hu with q | q
    · have := x.vlen u q; omega
    · rw [List.mem_singleton.mp q]; exact Nat.zero_le _
theorem ulKvs_new (U : List UL) (b : Nat) (a : Addr) (n : Nat) (hb : ∀ u ∈ U, u.key ≠ b) : stored (ulKvs U) (b : Int) (.ref a) = ulKvs (U ++ [⟨b, a, [], n⟩]) := by
  rw [stored_absent (ul_none hb)]
  unfold ulKvs
  rw [List.map_append]; rfl
theorem ulObjs_new (U : List UL) (b : Nat) (a : Addr) (n : Nat) : ulObjs (U ++ [⟨b, a, [], n⟩]) = ulObjs U ++ [(a, listOf #[] n)] := by
  unfold ulObjs
  rw [List.map_append]; rfl
theorem ulObjs_mem {U : List UL} {u : UL} (h : u ∈ U) : (u.adr, listOf u.vals.toArray u.n) ∈ ulObjs U := List.mem_map.mpr ⟨u, h, rfl⟩
theorem ulObjs_off {U : List UL} {P : Addr → Prop} (h : ∀ u ∈ U, P u.adr) : ∀ p ∈ ulObjs U, P p.1 := by
  intro p hp
  obtain ⟨u, hu, rfl⟩ := List.mem_map.mp hp
  exact h u hu
section
variable {prog : Program} {w : World} {A : Around} {E : Value → Shared → Prop} {s : Shared} {h₀ : Heap} {L : Addr} {m : Str → Option Value}
theorem append_ul {U : List UL} {u : UL} {v : Value} {ex tl : List (Addr × Obj)} {Q : Value → Shared → Prop} (F : Fr h₀ L s.heap m) (N : News h₀ L s.heap (ex ++ (ulObjs U ++ tl))) (hu : u ∈ U) (kd : (U.map (·.key)).Nodup) (ad : (U.map (·.adr)).Nodup)
    (hex : ∀ p ∈ ex, p.1 ≠ u.adr) (htl : ∀ p ∈ tl, p.1 ≠ u.adr) (hsz : u.vals.length ≤ 10000)
    (h : ∀ h', Fr h₀ L h' m → News h₀ L h' (ex ++ (ulObjs (ulAdd U u.key v) ++ tl)) → Q .none { s with heap := h' }) : wpAny (model prog w) A (call (.builtin "list.append") [.ref u.adr, v]) Q E s := by
  have hm : (u.adr, listOf u.vals.toArray u.n) ∈ ex ++ (ulObjs U ++ tl) := List.mem_append_right _ (List.mem_append_left _ (ulObjs_mem hu))
  have D := N _ hm
  refine append_at (hsz := by rw [sizeLine_eq, List.size_toArray]; omega) D.1 fun h' hs ho => h h' (F.change hs D.2.1 D.2.2) fun p hp => ?_
  rcases List.mem_append.mp hp with q | q
  · have P := N p (List.mem_append_left _ q)
    exact ⟨hs.extBut _ _ (hex p q) P.1, P.2⟩
  rcases List.mem_append.mp q with q | q
  · obtain ⟨y, hy, rfl⟩ := List.mem_map.mp q
    obtain ⟨x, hx, rfl⟩ := List.mem_map.mp hy
    by_cases e : x.key = u.key
    · have := key_inj kd hx hu e
      subst this
      simp only [if_true]
      refine ⟨?_, D.2⟩
      rw [ho]
      simp [PySem.W.listOf]
    · simp only [if_neg e]
      have P := N _ (List.mem_append_right ex (List.mem_append_left tl (ulObjs_mem hx)))
      exact ⟨hs.extBut _ _ (fun q => e (by rw [adr_inj ad hx hu q])) P.1, P.2⟩
  · have P := N p (List.mem_append_right _ (List.mem_append_right _ q))
    exact ⟨hs.extBut _ _ (htl p q) P.1, P.2⟩
theorem gm_append {U : List UL} {u : UL} {ex tl : List (Addr × Obj)} {pl : Sem Bool} {Q : Value × List Value → Shared → Prop} (N : News h₀ L s.heap (ex ++ (ulObjs U ++ tl))) (hu : u ∈ U) (h : Q (.builtin "list.append", [.ref u.adr]) s) :
    wpAny (model prog w) A (getMethod (.ref u.adr) "append" pl) Q E s :=
  getMethod_list_append (N _ (List.mem_append_right _ (List.mem_append_left _ (ulObjs_mem hu)))).1 rfl rfl h
theorem gm_dict {d : Addr} {kvs : List (Int × Value)} {pl : Sem Bool} {Q : Value × List Value → Shared → Prop} (hD : s.heap.DictOf (intKind prog w) d kvs) (h : Q (.builtin "dict.get", [.ref d]) s) : wpAny (model prog w) A (getMethod (.ref d) "get" pl) Q E s :=
  getMethod_builtin hD.typeIs PySem.F.plainAttrs_dict PySem.F.slot_dict_get PySem.F.type_dict_get hD.mapOf.noDict h
theorem get2_dict {d : Addr} {kvs : List (Int × Value)} {k : Int} {t : Tok} {dflt : Value} {Q : Value → Shared → Prop} (hD : s.heap.DictOf (intKind prog w) d kvs) (lo : (d == sysModules) = false) (h : Q ((valueAt kvs k).getD dflt) { s with toks := s.toks + 1 }) :
    wpAny (model prog w) A (call (.builtin "dict.get") [.ref d, .int k t, dflt]) Q E s :=
  call_meetsIn PySem.F.slot_dict_get hD.typeIs PySem.F.entry_dict_get (PySem.F.args_dict_get_3 _ _ _) (meets_dict_get_default (intKind prog w) d (intKind_is _ _ _ _) lo dflt) ⟨_, hD.mapOf, h⟩
end
theorem drvOf_some {cs : List CellD} {n : Int} {b : Nat} (h : drvOf cs n = some b) : ∃ hb : b < cs.length, (cs[b]).out = n := by
  unfold drvOf at h
  obtain ⟨hb, h1, _⟩ := List.findIdx?_eq_some_iff_getElem.mp h
  exact ⟨hb, by simpa using h1⟩
theorem drvOf_none {cs : List CellD} {n : Int} (h : drvOf cs n = none) : ∀ x ∈ cs, x.out ≠ n := by
  unfold drvOf at h
  intro x hx
  have := List.findIdx?_eq_none_iff.mp h x hx
  simpa using this
theorem fr_at {h₀ h : Heap} {L : Addr} {x a : Str} {v va : Value} {stored : List Str} {m₀ m₁ : Str → Option Value} (hm : m₁ a = some va) (h1 : a ≠ x) (h2 : stored.contains a = true)
    (F : Fr h₀ L h (fun y => if y = x then some v else if stored.contains y then m₁ y else m₀ y)) : Fr h₀ L h (fun y => if y = a then some va else if y = x then some v else if stored.contains y then m₁ y else m₀ y) := by
  have e : (fun y => if y = a then some va else if y = x then some v else if stored.contains y then m₁ y else m₀ y) = fun y => if y = x then some v else if stored.contains y then m₁ y else m₀ y := by
    funext y
    by_cases q : y = a
    · subst q; rw [if_pos rfl, if_neg h1, if_pos h2, hm]
    · rw [if_neg q]
  rw [e]; exact F
theorem fr_at0 {h₀ h : Heap} {L : Addr} {a : Str} {va : Value} {stored : List Str} {m₀ m₁ : Str → Option Value} (hm : m₁ a = some va) (h2 : stored.contains a = true)
    (F : Fr h₀ L h (fun y => if stored.contains y then m₁ y else m₀ y)) : Fr h₀ L h (fun y => if y = a then some va else if stored.contains y then m₁ y else m₀ y) := by
  have e : (fun y => if y = a then some va else if stored.contains y then m₁ y else m₀ y) = fun y => if stored.contains y then m₁ y else m₀ y := by
    funext y
    by_cases q : y = a
    · subst q; rw [if_pos rfl, if_pos h2, hm]
    · rw [if_neg q]
  rw [e]; exact F
theorem valueAt_self (kvs : List (Int × Value)) (k : Int) (v : Value) : valueAt (stored kvs k v) k = some v := by rw [valueAt_stored, if_pos rfl]
section
variable {prog : Program} {w : World} {A : Around} {E : Value → Shared → Prop} {s : Shared} {h₀ : Heap} {L : Addr} {m : Str → Option Value}
theorem get2_some {d : Addr} {kvs : List (Int × Value)} {k : Int} {t : Tok} {dflt v : Value} {Q : Value → Shared → Prop} (hD : s.heap.DictOf (intKind prog w) d kvs) (lo : (d == sysModules) = false) (hv : valueAt kvs k = some v) (h : Q v { s with toks := s.toks + 1 }) :
    wpAny (model prog w) A (call (.builtin "dict.get") [.ref d, .int k t, dflt]) Q E s := get2_dict hD lo (by rw [hv]; exact h)
theorem get2_none {d : Addr} {kvs : List (Int × Value)} {k : Int} {t : Tok} {dflt : Value} {Q : Value → Shared → Prop} (hD : s.heap.DictOf (intKind prog w) d kvs) (lo : (d == sysModules) = false) (hv : valueAt kvs k = none) (h : Q dflt { s with toks := s.toks + 1 }) :
    wpAny (model prog w) A (call (.builtin "dict.get") [.ref d, .int k t, dflt]) Q E s := get2_dict hD lo (by rw [hv]; exact h)
theorem getItem_dict {d : Addr} {kvs : List (Int × Value)} {k : Int} {t : Tok} {v : Value} {Q : Value → Shared → Prop} (hD : s.heap.DictOf (intKind prog w) d kvs) (hl : valueAt kvs k = some v) (h : Q v { s with toks := s.toks + 1 }) :
    wpAny (model prog w) A (getItem (.ref d) (.int k t)) Q E s := wpAny_getItem_of (intKind_is _ _ _ _) hD.mapOf hl h
theorem append_ul5 {U : List UL} {u : UL} {v : Value} {e1 e2 e3 e4 e5 : Addr × Obj} {tl : List (Addr × Obj)} {Q : Value → Shared → Prop} (F : Fr h₀ L s.heap m) (N : News h₀ L s.heap (e1 :: e2 :: e3 :: e4 :: e5 :: (ulObjs U ++ tl))) (hu : u ∈ U) (kd : (U.map (·.key)).Nodup) (ad : (U.map (·.adr)).Nodup)
    (hex : ∀ p ∈ [e1, e2, e3, e4, e5], p.1 ≠ u.adr) (htl : ∀ p ∈ tl, p.1 ≠ u.adr) (hsz : u.vals.length ≤ 10000)
    (h : ∀ h', Fr h₀ L h' m → News h₀ L h' (e1 :: e2 :: e3 :: e4 :: e5 :: (ulObjs (ulAdd U u.key v) ++ tl)) → Q .none { s with heap := h' }) : wpAny (model prog w) A (call (.builtin "list.append") [.ref u.adr, v]) Q E s :=
  append_ul (ex := [e1, e2, e3, e4, e5]) F N hu kd ad hex htl hsz h
theorem gm_append5 {U : List UL} {u : UL} {e1 e2 e3 e4 e5 : Addr × Obj} {tl : List (Addr × Obj)} {pl : Sem Bool} {Q : Value × List Value → Shared → Prop} (N : News h₀ L s.heap (e1 :: e2 :: e3 :: e4 :: e5 :: (ulObjs U ++ tl))) (hu : u ∈ U) (h : Q (.builtin "list.append", [.ref u.adr]) s) :
    wpAny (model prog w) A (getMethod (.ref u.adr) "append" pl) Q E s := gm_append (ex := [e1, e2, e3, e4, e5]) N hu h
theorem while_stop {test : Expr} {body orelse : List Stmt} {pos : Pos} {env : Env} {Q : Flow → Shared → Prop} (h : Stop (wpAny (model prog w) A (exec (.While test body orelse pos) env) Q E s)) : wpAny (model prog w) A (exec (.While test body orelse pos) env) Q E s := h
theorem While_S {env : Env} {Q : Flow → Shared → Prop} {test : Expr} {body : List Stmt} {pos : Pos} {m₀ : Str → Option Value} {news : List (Addr × Obj)} (stored : List Str) (J : Nat → (Str → Option Value) → List (Addr × Obj) → Prop) {n₀ : Nat}
    (F : Fr h₀ L s.heap m₀) (N : News h₀ L s.heap news) (hJ : J n₀ m₀ news)
    (turn : ∀ n m₁ news₁ h₁ tk₁, Fr h₀ L h₁ (fun y => if stored.contains y then m₁ y else m₀ y) → News h₀ L h₁ news₁ → J n m₁ news₁ →
      wpAny (model prog w) A (isTrue test env (eval test env)) (fun b s₂ =>
        if b = true then wpAny (model prog w) A (execs body env) (WhileStep h₀ L s (fun n m nx => J n m nx ∧ KeepM stored m₀ m) n) (fun _ _ => False) s₂ else Q .next s₂) (fun _ _ => False) { s with heap := h₁, toks := tk₁ }) :
    wpAny (model prog w) A (exec (.While test body [] pos) env) Q (fun _ _ => False) s :=
  While_inv (fun n m nx => J n m nx ∧ KeepM stored m₀ m) F N ⟨hJ, fun _ _ => rfl⟩ (fun n m₁ news₁ h₁ tk₁ F N J => turn n m₁ news₁ h₁ tk₁ (fr_keep0 J.2 F) N J.1) PassesOwn.never
end
theorem sub5 {α : Type} {a b c d e : α} {T : List α} {x y : α} : ∀ p ∈ [a, b, c, d, e] ++ (T ++ [x]), p ∈ a :: b :: c :: d :: e :: (T ++ [x, y]) := by
  intro p hp
  simp only [List.mem_append, List.mem_cons, List.not_mem_nil, or_false] at hp ⊢
  rcases hp with (h | h | h | h | h) | (h | h) <;> simp [h]
theorem sub5' {α : Type} {a b c d e : α} {T : List α} {x : α} : ∀ p ∈ [a, b, c, d, e] ++ T, p ∈ a :: b :: c :: d :: e :: (T ++ [x]) := by
  intro p hp
  simp only [List.mem_append, List.mem_cons, List.not_mem_nil, or_false] at hp ⊢
  rcases hp with (h | h | h | h | h) | h <;> simp [h]
theorem mem5 {α : Type} {a b c d e : α} {T : List α} {x y : α} : y ∈ a :: b :: c :: d :: e :: (T ++ [x, y]) := by simp
theorem mem5' {α : Type} {a b c d e : α} {T : List α} {x : α} : x ∈ a :: b :: c :: d :: e :: (T ++ [x]) := by simp
theorem filterMap_take {α β : Type} (f : α → Option β) (l : List α) (p : Nat) (hp : p < l.length) : (l.take (p + 1)).filterMap f = (l.take p).filterMap f ++ (f l[p]).toList := by
  rw [List.take_add_one, List.getElem?_eq_getElem hp, List.filterMap_append]
  cases h : f l[p] <;> simp [h]
theorem deps_eq {cs : List CellD} {i : Nat} (hi : i < cs.length) : deps cs i = (cs[i]).ins.filterMap (drvOf cs) := by
  unfold deps
  rw [List.getElem?_eq_getElem hi]; rfl
theorem allLt_mem {d : Addr} {l : List (Addr × Obj)} (h : AllLt d l) : ∀ p ∈ l, p.1 ≠ d := by
  induction l with
  | nil => intro p hp; cases hp
  | cons a r ih =>
    intro p hp
    obtain ⟨h1, h2⟩ := h
    rcases List.mem_cons.mp hp with e | e
    · rw [e]; exact Nat.ne_of_lt h1
    · exact ih h2 p e
theorem ULok.newAdd {U f B} (x : ULok U f B) {b j : Nat} {a : Addr} {t : Tok} (hb : ∀ u ∈ U, u.key ≠ b) (ha : ∀ u ∈ U, u.adr ≠ a) : ULok (U ++ [⟨b, a, [.int (j : Int) t], 1⟩]) (updF f b (f b ++ [j])) (B + 2) := by
  have h := (x.new hb ha (n := 0)).add (b := b) (j := j) (t := t) ⟨_, List.mem_append_right _ (.head _), rfl⟩
  have e : ulAdd (U ++ [⟨b, a, [], 0⟩]) b (.int (j : Int) t) = U ++ [⟨b, a, [.int (j : Int) t], 1⟩] := by
    unfold ulAdd
    rw [List.map_append]
    congr 1
    · conv => rhs; rw [← List.map_id U]
      refine List.map_congr_left fun u hu => ?_
      rw [if_neg (hb u hu)]; rfl
    · simp
  rw [e] at h
  refine h.congr (fun b' => rfl) (by omega)
theorem ulKvs_new' (U : List UL) (b : Nat) (a : Addr) (vs : List Value) (n : Nat) (hb : ∀ u ∈ U, u.key ≠ b) : ulKvs (U ++ [⟨b, a, vs, n⟩]) = stored (ulKvs U) (b : Int) (.ref a) := by
  rw [stored_absent (ul_none hb)]
  unfold ulKvs
  rw [List.map_append]; rfl
theorem ulObjs_new' (U : List UL) (b : Nat) (a : Addr) (vs : List Value) (n : Nat) : ulObjs (U ++ [⟨b, a, vs, n⟩]) = ulObjs U ++ [(a, listOf vs.toArray n)] := by
  unfold ulObjs
  rw [List.map_append]; rfl
theorem users_step (f : Nat → List Nat) (l : List Nat) (i b : Nat) : ∀ b', f b' ++ List.replicate ((l ++ [b]).count b') i = updF (fun b => f b ++ List.replicate (l.count b) i) b ((f b ++ List.replicate (l.count b) i) ++ [i]) b' := by
  intro b'
  unfold updF
  rw [List.count_append, List.count_singleton]
  by_cases e : b' = b
  · subst e
    rw [if_pos rfl, if_pos (by simp), List.replicate_succ', List.append_assoc]
  · rw [if_neg e, if_neg (by simp; exact fun q => e q.symm), Nat.add_zero]
theorem sub5n {α : Type} {z a b c d e : α} {T : List α} {x y : α} : ∀ p ∈ [a, b, c, d, e] ++ ((T ++ [z]) ++ [x]), p ∈ z :: a :: b :: c :: d :: e :: (T ++ [x, y]) := by
  intro p hp
  simp only [List.mem_append, List.mem_cons, List.not_mem_nil, or_false] at hp ⊢
  rcases hp with (h | h | h | h | h) | ((h | h) | h) <;> simp [h]
theorem nx5 {a b c d e x : Addr × Obj} {U : List UL} {I : Addr} (h1 : a.1 ≠ I) (h2 : b.1 ≠ I) (h3 : c.1 ≠ I) (h4 : d.1 ≠ I) (h5 : e.1 ≠ I) (hU : ∀ u ∈ U, u.adr ≠ I) (hx : x.1 ≠ I) : ∀ p ∈ [a, b, c, d, e] ++ (ulObjs U ++ [x]), p.1 ≠ I := by
  intro p hp
  rcases List.mem_append.mp hp with q | q
  · simp only [List.mem_cons, List.not_mem_nil, or_false] at q
    rcases q with rfl | rfl | rfl | rfl | rfl <;> assumption
  · rcases List.mem_append.mp q with q | q
    · exact ulObjs_off (P := fun a => a ≠ I) hU p q
    · rw [List.mem_singleton.mp q]; exact hx
theorem nx5' {a b c d e : Addr × Obj} {U : List UL} {I : Addr} (h1 : a.1 ≠ I) (h2 : b.1 ≠ I) (h3 : c.1 ≠ I) (h4 : d.1 ≠ I) (h5 : e.1 ≠ I) (hU : ∀ u ∈ U, u.adr ≠ I) : ∀ p ∈ [a, b, c, d, e] ++ ulObjs U, p.1 ≠ I := by
  intro p hp
  rcases List.mem_append.mp hp with q | q
  · simp only [List.mem_cons, List.not_mem_nil, or_false] at q
    rcases q with rfl | rfl | rfl | rfl | rfl <;> assumption
  · exact ulObjs_off (P := fun a => a ≠ I) hU p q
theorem stored_length_present {kvs : List (Int × Value)} {k : Int} {u v : Value} (h : valueAt kvs k = some u) : (stored kvs k v).length = kvs.length := by
  unfold stored
  rw [any_valueAt, h]
  simp
end
section
local macro_rules | `(tactic| walk_at "getMethod ref") => `(tactic| ((with_reducible show wpAny _ _ (getMethod (Value.ref _) (PySem.Str.ofString "get") _) _ _ _); k_dflt (first
  | (refine gm_dict (kda_dict (by k_asm) (by k_mem) (by k_asm)) ?_)
  | (refine gm_dict (dictOf_keep (by assumption) (fun o e => Fr.keep (by assumption) _ o e)) ?_))))
local macro_rules | `(tactic| walk_at "getMethod ref") => `(tactic| ((with_reducible show wpAny _ _ (getMethod (Value.ref (UL.adr _)) (PySem.Str.ofString "append") _) _ _ _); k_dflt (refine gm_append5 (by assumption) (by assumption) ?_)))
local macro_rules | `(tactic| walk_at "call builtin:dict.get") => `(tactic| (k_dflt (first
  | (refine get2_some (kda_dict (by k_asm) (by k_mem) (by k_asm)) (by assumption) (by assumption) ?_)
  | (refine get2_none (kda_dict (by k_asm) (by k_mem) (by k_asm)) (by assumption) (by assumption) ?_)
  | (refine get2_some (dictOf_keep (by assumption) (fun o e => Fr.keep (by assumption) _ o e)) (by assumption) (by assumption) ?_)
  | (refine get2_none (dictOf_keep (by assumption) (fun o e => Fr.keep (by assumption) _ o e)) (by assumption) (by assumption) ?_))))
local macro_rules | `(tactic| walk_at "compareOp NotIn int ref") => `(tactic| (k_dflt (first
  | (refine kdg_notin (knd := PySem.intKind _ _) (by k_asm) (by k_mem) (by k_asm) (by k_asm) (intKind_is _ _ _ _) false (by assumption) ?_)
  | (refine kdg_notin (knd := PySem.intKind _ _) (by k_asm) (by k_mem) (by k_asm) (by k_asm) (intKind_is _ _ _ _) true (by assumption) ?_)); (try dsimp only [Bool.not_true, Bool.not_false])))
local macro_rules | `(tactic| walk_at "subscriptTail") => `(tactic| ((with_reducible show wpAny _ _ (subscriptTail _ _ (Value.ref _) (Value.int _ _)) _ _ _); k_dflt (first
  | (refine item_list_any (Heap.IsList.at (by assumption) (fun o e => Fr.keep (by assumption) _ o e)) (by assumption) (by omega) (by assumption) ?_)
  | (refine item_list_any ⟨_, News.get (by assumption) (by k_mem), rfl, _, rfl⟩ (by assumption) (by omega) (by assumption) ?_)
  | (refine item_dict (kda_dict (by k_asm) (by k_mem) (by k_asm)) (by first | assumption | exact valueAt_self _ _ _) ?_))))
local macro_rules | `(tactic| walk_at "exec While Compare cons nil") => `(tactic| (refine while_stop ?_))
local macro_rules | `(tactic| walk_at "call builtin:list.append") => `(tactic| ((with_reducible show wpAny _ _ (call (Value.builtin _) [Value.ref (UL.adr _), _]) _ _ _); k_dflt (refine append_ul5 (by assumption) (by assumption) (by assumption) (by assumption) (by assumption) (by assumption) (by assumption) (by assumption) ?_); intro h' F' N'))
local macro_rules | `(tactic| walk_at "getItem ref int") => `(tactic| (k_dflt (refine getItem_dict (kda_dict (by k_asm) (by k_mem) (by k_asm)) (by first | assumption | exact valueAt_self _ _ _) ?_)))
inductive OrdA (w : World) (cs : List CellD) (re us wa nl dx : Addr) (nlo dxo : Obj) (i : Nat) (nx : List (Addr × Obj)) : Prop
  | mk (rvs : List Value) (rn : Nat) (ou ow : Obj) (kvw : List (Int × Value)) (U : List UL) (e : nx = [(re, listOf rvs.toArray rn), (us, ou), (wa, ow), (nl, nlo), (dx, dxo)] ++ ulObjs U)
      (hrv : IntsAre rvs (castL ((List.range i).filter fun j => decide (deps cs j = [])))) (hou : ou.IsDictOf (intKind PySem.Challenge.rw_on0104_01.row.prog w) (ulKvs U)) (how : ow.IsDictOf (intKind PySem.Challenge.rw_on0104_01.row.prog w) kvw)
      (hwt : ∀ j : Nat, j < i → ∃ t, valueAt kvw (j : Int) = some (.int ((deps cs j).length : Int) t)) (hwl : kvw.length ≤ i) (hU : ULok U (usersOf cs i) (6 * i)) (hUo : ∀ u ∈ U, u.adr ≠ re ∧ u.adr ≠ us ∧ u.adr ≠ wa ∧ u.adr ≠ nl ∧ u.adr ≠ dx) : OrdA w cs re us wa nl dx nlo dxo i nx
inductive OrdB (w : World) (cs : List CellD) (re us wa nl dx I : Addr) (nlo dxo oI ow : Obj) (rvs : List Value) (rn i : Nat) (ins : List Int) (p : Nat) (m : Str → Option Value) (nx : List (Addr × Obj)) : Prop
  | mk (tc : Tok) (cnt : Int) (hcnt : m (Str.ofString "count") = some (.int cnt tc)) (hce : cnt = (((ins.take p).filterMap (drvOf cs)).length : Int)) (ou : Obj) (U : List UL) (e : nx = [(re, listOf rvs.toArray rn), (us, ou), (wa, ow), (nl, nlo), (dx, dxo)] ++ (ulObjs U ++ [(I, oI)]))
      (hou : ou.IsDictOf (intKind PySem.Challenge.rw_on0104_01.row.prog w) (ulKvs U)) (hU : ULok U (fun b => usersOf cs i b ++ List.replicate (((ins.take p).filterMap (drvOf cs)).count b) i) (6 * i + 2 * p)) (hUo : ∀ u ∈ U, u.adr ≠ re ∧ u.adr ≠ us ∧ u.adr ≠ wa ∧ u.adr ≠ nl ∧ u.adr ≠ dx) (hUI : ∀ u ∈ U, u.adr ≠ I) :
      OrdB w cs re us wa nl dx I nlo dxo oI ow rvs rn i ins p m nx
inductive OrdC (w : World) (cs : List CellD) (re us wa nl dx : Addr) (nlo dxo ou : Obj) (U : List UL) (n : Nat) (m : Str → Option Value) (nx : List (Addr × Obj)) : Prop
  | mk (T : Nat) (tt : Tok) (rvs : List Value) (rn : Nat) (ow : Obj) (kvw : List (Int × Value)) (r : List Nat) (wf : Nat → Int) (en : n = cs.length - T) (hT : m (Str.ofString "turn") = some (.int (T : Nat) tt)) (e : nx = [(re, listOf rvs.toArray rn), (us, ou), (wa, ow), (nl, nlo), (dx, dxo)] ++ ulObjs U) (hrv : IntsAre rvs (castL r))
      (how : ow.IsDictOf (intKind PySem.Challenge.rw_on0104_01.row.prog w) kvw) (hkl : kvw.length ≤ 10000) (hwt : ∀ j : Nat, j < cs.length → ∃ t, valueAt kvw (j : Int) = some (.int (wf j) t)) (hK : KInv (deps cs) cs.length T wf r) : OrdC w cs re us wa nl dx nlo dxo ou U n m nx
inductive OrdD (w : World) (cs : List CellD) (re us wa nl dx : Addr) (nlo dxo ou : Obj) (U : List UL) (T k : Nat) (l : List Nat) (nx : List (Addr × Obj)) : Prop
  | mk (rvs : List Value) (rn : Nat) (ow : Obj) (kvw : List (Int × Value)) (r : List Nat) (wf : Nat → Int) (e : nx = [(re, listOf rvs.toArray rn), (us, ou), (wa, ow), (nl, nlo), (dx, dxo)] ++ ulObjs U) (hrv : IntsAre rvs (castL r))
      (how : ow.IsDictOf (intKind PySem.Challenge.rw_on0104_01.row.prog w) kvw) (hkl : kvw.length ≤ 10000) (hwt : ∀ j : Nat, j < cs.length → ∃ t, valueAt kvw (j : Int) = some (.int (wf j) t)) (hM : KMid (deps cs) cs.length T k l wf r) : OrdD w cs re us wa nl dx nlo dxo ou U T k l nx
theorem ordered_spec {w : World} {A : Around} {s : Shared} {h₀ : Heap} {mean mg mb} {nl dx cel inp outp dv : Addr} {nd : Nat} {k1 k2 k3 k4 k5 ct : Tok} {nm : Value} {cnt : Int} {cvs : List Value} {cs : List CellD} {kvd : List (Int × Value)} {R : Result → Shared → Prop}
    (G : Gd w mean mg mb h₀) (H : At h₀ s.heap [(nl, instObj 134 dx), (dx, dictOf (nlEs w.params k1 k2 k3 k4 k5 nm cnt ct inp outp cel) nd)]) (hroom : A.depth < 700) (hh : A.handled = none) (hu : A.units < 1800)
    (hne : nl ≠ dx) (hcl : s.heap.IsList cel cvs.toArray) (hcel : cel ≠ nl ∧ cel ≠ dx) (hcs : CellsAt s.heap cvs cs) (hlen : cs.length ≤ 100)
    (hD : s.heap.DictOf (intKind PySem.Challenge.rw_on0104_01.row.prog w) dv kvd) (hdv : dv ≠ nl ∧ dv ≠ dx) (lod : (dv == sysModules) = false)
    (hdr : ∀ j (hj : j < cs.length), ∃ t, valueAt kvd (cs[j]).out = some (.int (j : Int) t)) (hdn : ∀ n, (∀ x ∈ cs, x.out ≠ n) → valueAt kvd n = none)
    (hout : ∀ i j (hi : i < cs.length) (hj : j < cs.length), (cs[i]).out = (cs[j]).out → i = j) (hins : ∀ x ∈ cs, x.ins.length ≤ 3) (hacy : ∀ x ∈ cs, 0 ≤ x.out ∧ ∀ n ∈ x.ins, n < x.out)
    (k : ∀ a rvs n r h' tk, s.heap.get? a = none → h'.get? a = some (listOf rvs.toArray n) → IntsAre rvs (castL r) → r.Nodup → (∀ j, j ∈ r ↔ j < cs.length) → (∀ k (h : k < r.length), ∀ b ∈ deps cs (r[k]), b ∈ r.take k) →
      KeepBut [] s.heap h' → R (.ok (.ret (.ref a))) { s with heap := h', toks := tk }) :
    codeAny (model PySem.Challenge.rw_on0104_01.row.prog w) A (.call (.ref 159) ⟨[.ref nl, .ref dv], []⟩) R s := by
  obtain ⟨hdl, dd, fr, gs, uu⟩ := A
  simp only at hh hroom hu
  subst hh
  refine' callD G H ?k6 ?k7 ?k8 ?k9 ?kB ?_ ?c2 ?c3 ?c4 ?c5
  walk_at "ENTER"
  intro dd9 uu9 fr9 hdd9 huu9 g L' h₁ F' N' G' st' old lt' back
  show wpAny _ { handled := none, depth := dd9, frames := fr9, guards := gs, units := uu9 } _ _ _ _
  simp only at hdd9 huu9
  replace F' : Fr g L' h₁ (fun y => List.lookup y [(Str.ofString "driven", Value.ref dv), (Str.ofString "netlist", Value.ref nl)]) := F'
  have X' : (Mine.hd.heap_1 w.params).In g := G'.X
  have T' := G'.T
  have hcl' : g.IsList cel cvs.toArray := hcl.at fun o e => old _ _ e (by simp; exact hcel)
  have hD' : g.DictOf (intKind PySem.Challenge.rw_on0104_01.row.prog w) dv kvd := dictOf_keep hD fun o e => old _ _ e (by simp; exact hdv)
  have hnl := (H.2 _ (.head _)).1
  have hdx := (H.2 _ (.tail _ (.head _))).1
  have tk : ∀ b o, s.heap.get? b = some o → o.cls = .type "tuple" → g.get? b = some o := fun b o e hc => old _ _ e (by
    intro hb
    simp only [List.map_cons, List.map_nil, List.mem_cons, List.not_mem_nil, or_false] at hb
    rcases hb with rfl | rfl
    · rw [hnl] at e; cases e; simp at hc
    · rw [hdx] at e; cases e; simp at hc)
  have hcs' : CellsAt g cvs cs := cellsAt_keeps hcs tk
  have lnl : @LT.lt Nat _ nl L' := lt' _ (.head _)
  have ldx : @LT.lt Nat _ dx L' := lt' _ (.tail _ (.head _))
  have hne' : @Ne Nat nl dx := hne
  have hcvl : cvs.length = cs.length := hcs'.1
  have k' : ∀ a rvs n r h' tk L m news, Fr g L h' m → News g L h' news → (a, listOf rvs.toArray n) ∈ news → (nl, instObj 134 dx) ∈ news → (dx, dictOf (nlEs w.params k1 k2 k3 k4 k5 nm cnt ct inp outp cel) nd) ∈ news → a ≠ nl → a ≠ dx →
      IntsAre rvs (castL r) → r.Nodup → (∀ j, j ∈ r ↔ j < cs.length) → (∀ k (h : k < r.length), ∀ b ∈ deps cs (r[k]), b ∈ r.take k) → R (.ok (.ret (.ref a))) { s with heap := h', toks := tk } :=
    fun a rvs n r h' tk L m news F N m1 m2 m3 n1 n2 q1 q2 q3 q4 => by
      refine k a rvs n r h' tk ?_ (N.get m1) q1 q2 q3 q4 fun b o hb e => ?_
      · cases e : s.heap.get? a with
        | none => rfl
        | some o => have := (N _ m1).2.2; rw [old _ _ e (by simp; exact ⟨n1, n2⟩)] at this; cases this
      · by_cases q1 : b = nl
        · subst q1; rw [hnl] at e; cases e; exact N.get m2
        by_cases q2 : b = dx
        · subst q2; rw [hdx] at e; cases e; exact N.get m3
        exact F.keep b o (old b o e (by simp; exact ⟨q1, q2⟩))
  clear hcl hcs tk H G old st' back k lt' hnl hdx hD
  walk_at "GO"
  unfold Stop
  rename_i wa hA6 oW loW hsW fsW hiW fiW lW hA5 tkA2 us hA4 oU loU hsU fsU hiU fiU lU hA3 tkA1 re hA2 lR hA1 FA NA hC tkC t₁ u₁ v₁ hr FB NB kB
  generalize instObj 134 dx = nlo at *
  generalize dictOf (nlEs w.params k1 k2 k3 k4 k5 nm cnt ct inp outp cel) nd = dxo at *
  refine iter_range_S (n := cs.length) [Str.ofString "index", Str.ofString "net", Str.ofString "count", Str.ofString "before"] (fun i _ nx => OrdA w cs re us wa nl dx nlo dxo i nx)
    rfl hr (by rw [hcvl]) (by omega) FB NB ⟨[], 0, oU, oW, [], [], rfl, .nil, hiU, hiW, fun _ h => absurd h (Nat.not_lt_zero _), Nat.le_refl _, ULok.start _ (fun _ => rfl), fun _ h => nomatch h⟩ ?_ ?_
  · rintro i t m₁ news₁ h tk I oI hi ⟨rvs, rn, ou, ow, kvw, U, rfl, hrv, hou, how, hwt, hwl, hU, hUo⟩ hnI F N
    obtain ⟨a, t1, t2, ia, p, ivs, hcv, hct, hit, hii, hpp⟩ := getD_zero cs cvs _ hcs' i hi
    have hI0 : @Ne Nat re I := hnI _ (.head _)
    have hI1 : @Ne Nat us I := hnI _ (.tail _ (.head _))
    have hI2 : @Ne Nat wa I := hnI _ (.tail _ (.tail _ (.head _)))
    have hI3 : @Ne Nat nl I := hnI _ (.tail _ (.tail _ (.tail _ (.head _))))
    have hI4 : @Ne Nat dx I := hnI _ (.tail _ (.tail _ (.tail _ (.tail _ (.head _)))))
    have hUI : ∀ u ∈ U, u.adr ≠ I := fun u hu => hnI _ (List.mem_append_right _ (ulObjs_mem hu))
    have hcv' : cvs[((i : Nat) : Int).toNat]? = some (.ref a) := by rw [Int.toNat_natCast]; exact hcv
    simp only [List.cons_append, List.nil_append] at N
    have hi0 : (0 : Int) ≤ (i : Int) := by omega
    have hin3 := hins _ (List.getElem_mem hi)
    walk_at "GO"
    unfold Stop
    refine iter_tup_S [Str.ofString "net", Str.ofString "count", Str.ofString "before"] (fun p m nx => OrdB w cs re us wa nl dx I nlo dxo oI ow rvs rn i (cs[i]).ins p m nx)
      rfl hit (by assumption) (by assumption) ⟨_, _, rfl, rfl, ou, U, rfl, hou, hU.congr (fun b => (List.append_nil _)) (Nat.le_refl _), hUo, hUI⟩ ?_ ?_
    · rintro p v m₂ news₂ h tk I2 oI2 hp hv ⟨tc, cnt, hcnt, hce, ou, U, rfl, hou, hU, hUo, hUI⟩ hnI2 F N
      have hpl : p < (cs[i]).ins.length := by rw [← hii.length]; simpa using hp
      obtain ⟨tn, htn⟩ := hii.get p _ (List.getElem?_eq_getElem hpl)
      have hve : v = .int ((cs[i]).ins[p]) tn := by
        have hv' : ivs[p]? = some v := by simpa using hv
        rw [htn] at hv'; exact (Option.some.inj hv').symm
      subst hve
      have F2 := fr_at hcnt (by decide) (by decide) F
      clear F hcnt
      simp only [List.cons_append, List.nil_append, List.append_assoc] at N
      have hJ0 : @Ne Nat re I2 := hnI2 _ (.head _)
      have hJ1 : @Ne Nat us I2 := hnI2 _ (.tail _ (.head _))
      have hJ2 : @Ne Nat wa I2 := hnI2 _ (.tail _ (.tail _ (.head _)))
      have hJ3 : @Ne Nat nl I2 := hnI2 _ (.tail _ (.tail _ (.tail _ (.head _))))
      have hJ4 : @Ne Nat dx I2 := hnI2 _ (.tail _ (.tail _ (.tail _ (.tail _ (.head _)))))
      have hJU : ∀ u ∈ U, u.adr ≠ I2 := fun u hu => hnI2 _ (List.mem_append_right _ (List.mem_append_left _ (ulObjs_mem hu)))
      have hJI : @Ne Nat I I2 := hnI2 (I, oI) (List.mem_append_right _ (List.mem_append_right _ (.head _)))
      have hoff : OwnOff (ulObjs U ++ [(I, oI), (I2, oI2)]) [re, us, wa, nl, dx] := by
        intro q hq b hb
        simp only [List.mem_cons, List.not_mem_nil, or_false] at hb
        rcases List.mem_append.mp hq with q1 | q1
        · obtain ⟨u, hu, rfl⟩ := List.mem_map.mp q1
          obtain ⟨a1, a2, a3, a4, a5⟩ := hUo u hu
          rcases hb with rfl | rfl | rfl | rfl | rfl <;> assumption
        · simp only [List.mem_cons, List.not_mem_nil, or_false] at q1
          rcases q1 with rfl | rfl
          · rcases hb with rfl | rfl | rfl | rfl | rfl <;> (apply Ne.symm; assumption)
          · rcases hb with rfl | rfl | rfl | rfl | rfl <;> (apply Ne.symm; assumption)
      have hUl := hU.len
      have hUl2 : (ulKvs U).length = U.length := by simp [ulKvs]
      cases hd : drvOf cs ((cs[i]).ins[p]) with
      | none =>
        have hvn := hdn _ (drvOf_none hd)
        walk_at "GO"
        exact InvEndX.intro (by assumption) (by assumption) ⟨⟨_, _, by with_unfolding_all rfl, by rw [filterMap_take _ _ _ hpl, hd]; simpa using hce, ou, U, rfl, hou, hU.congr (fun b' => by rw [filterMap_take _ _ _ hpl, hd]; simp) (by omega), hUo, hUI⟩, by walk_at "KEEPM"⟩ sub5 mem5 (nx5 hJ0 hJ1 hJ2 hJ3 hJ4 hJU hJI)
      | some b =>
        obtain ⟨hbl, hbo⟩ := drvOf_some hd
        obtain ⟨tb, hvb⟩ := hdr b hbl
        rw [hbo] at hvb
        obtain ⟨ab, tb1, tb2, iab, pb, ivsb, hcvb, hctb, hitb, hiib, hppb⟩ := getD_zero cs cvs _ hcs' b hbl
        have hcvb' : cvs[((b : Nat) : Int).toNat]? = some (.ref ab) := by rw [Int.toNat_natCast]; exact hcvb
        have hb0 : (0 : Int) ≤ (b : Int) := by omega
        by_cases hex : ∃ u ∈ U, u.key = b
        · obtain ⟨u, hu, rfl⟩ := hex
          have hk1 := ul_some hU.keys hu
          have hk2 : (valueAt (ulKvs U) (u.key : Int)).isSome = true := by rw [hk1]; rfl
          obtain ⟨a1, a2, a3, a4, a5⟩ := hUo u hu
          have hx1 : ∀ p ∈ [(re, listOf rvs.toArray rn), (us, ou), (wa, ow), (nl, nlo), (dx, dxo)], p.1 ≠ u.adr := by
            intro q hq
            simp only [List.mem_cons, List.not_mem_nil, or_false] at hq
            rcases hq with rfl | rfl | rfl | rfl | rfl <;> (apply Ne.symm; assumption)
          have hx2 : ∀ p ∈ [(I, oI), (I2, oI2)], p.1 ≠ u.adr := by
            intro q hq
            simp only [List.mem_cons, List.not_mem_nil, or_false] at hq
            rcases hq with rfl | rfl
            · exact Ne.symm (hUI u hu)
            · exact Ne.symm (hJU u hu)
          have hkd := hU.keys
          have had := hU.adrs
          have hvl : u.vals.length ≤ 10000 := by have := hU.vlen u hu; omega
          walk_at "GO"
          exact InvEndX.intro (by assumption) (by assumption) ⟨⟨_, _, by with_unfolding_all rfl, by rw [filterMap_take _ _ _ hpl, hd, hce]; simp, ou, ulAdd U u.key (.int (i : Int) _), rfl, by rw [ulKvs_add]; exact hou, (hU.add ⟨u, hu, rfl⟩).congr (fun b' => by rw [filterMap_take _ _ _ hpl, hd]; exact users_step _ _ _ _ _) (by omega), ulAdd_adr (P := fun a => a ≠ re ∧ a ≠ us ∧ a ≠ wa ∧ a ≠ nl ∧ a ≠ dx) hUo, ulAdd_adr (P := fun a => a ≠ I) hUI⟩, by walk_at "KEEPM"⟩ sub5 mem5 (nx5 hJ0 hJ1 hJ2 hJ3 hJ4 (ulAdd_adr (P := fun a => a ≠ I2) hJU) hJI)
        · have hk0 : ∀ u ∈ U, u.key ≠ b := fun u hu e => hex ⟨u, hu, e⟩
          have hk1 := ul_none hk0
          have hk2 : (valueAt (ulKvs U) (b : Int)).isSome = false := by rw [hk1]; rfl
          walk_at "GO"
          rename_i lA hB2 _ _ lL hB1 oU2 _ _ hdU tkB hB0 FF NN
          simp only [List.push_toArray, List.nil_append] at NN
          obtain ⟨l0, l1, l2, l3, l4, l5⟩ := lL
          have l6 := allLt_mem l5
          have hA1 : ∀ u ∈ U, u.adr ≠ lA := fun u hu => l6 _ (List.mem_append_left _ (ulObjs_mem hu))
          have hA2 : lA ≠ I := Ne.symm (l6 (I, oI) (List.mem_append_right _ (.head _)))
          have hA3 : lA ≠ I2 := Ne.symm (l6 (I2, oI2) (List.mem_append_right _ (.tail _ (.head _))))
          refine InvEndX.intro FF NN ⟨⟨_, _, by with_unfolding_all rfl, by rw [filterMap_take _ _ _ hpl, hd, hce]; simp, oU2, U ++ [⟨b, lA, [.int (i : Int) _], 1⟩], rfl, by rw [ulKvs_new' _ _ _ _ _ hk0]; exact hdU, (hU.newAdd hk0 hA1).congr (fun b' => by rw [filterMap_take _ _ _ hpl, hd]; exact users_step _ _ _ _ _) (by omega), ?_, ?_⟩, by walk_at "KEEPM"⟩ (by rw [ulObjs_new']; exact sub5n) (.tail _ mem5) (nx5 hJ0 hJ1 hJ2 hJ3 hJ4 ?_ hJI)
          · intro u hu
            rcases List.mem_append.mp hu with q | q
            · exact hUo u q
            · rw [List.mem_singleton.mp q]
              exact ⟨Nat.ne_of_gt l0, Nat.ne_of_gt l1, Nat.ne_of_gt l2, Nat.ne_of_gt l3, Nat.ne_of_gt l4⟩
          · intro u hu
            rcases List.mem_append.mp hu with q | q
            · exact hUI u q
            · rw [List.mem_singleton.mp q]; exact hA2
          · intro u hu
            rcases List.mem_append.mp hu with q | q
            · exact hJU u q
            · rw [List.mem_singleton.mp q]; exact hA3
    · rintro m₂ news₂ h tk ⟨tc, cnt, hcnt, hce, ou, U, rfl, hou, hU, hUo, hUI⟩ F N
      have F2 := fr_at0 hcnt (by decide) F
      clear F hcnt
      have htk : (cs[i]).ins.take ivs.toArray.size = (cs[i]).ins := List.take_of_length_le (by rw [List.size_toArray, hii.length]; exact Nat.le_refl _)
      simp only [htk, ← deps_eq hi] at hce hU
      simp only [List.cons_append, List.nil_append] at N
      have hoff : OwnOff (ulObjs U ++ [(I, oI)]) [re, us, wa, nl, dx] := by
        intro q hq b hb
        simp only [List.mem_cons, List.not_mem_nil, or_false] at hb
        rcases List.mem_append.mp hq with q1 | q1
        · obtain ⟨u, hu, rfl⟩ := List.mem_map.mp q1
          obtain ⟨a1, a2, a3, a4, a5⟩ := hUo u hu
          rcases hb with rfl | rfl | rfl | rfl | rfl <;> assumption
        · rw [List.mem_singleton.mp q1]
          rcases hb with rfl | rfl | rfl | rfl | rfl <;> (apply Ne.symm; assumption)
      have hrl : rvs.length ≤ 100 := by
        have h1 := hrv.length
        have h2 := List.length_filter_le (fun j => decide (deps cs j = [])) (List.range i)
        simp only [castL, List.length_map, List.length_range] at h1 h2; omega
      have hw2 : ∀ j : Nat, j < i + 1 → ∃ t, valueAt (stored kvw (i : Int) (.int cnt tc)) (j : Int) = some (.int ((deps cs j).length : Int) t) := by
        intro j hj
        rw [valueAt_stored]
        by_cases e : j = i
        · subst e; rw [if_pos rfl, hce]; exact ⟨tc, rfl⟩
        · rw [if_neg (by omega)]; exact hwt j (by omega)
      have hwl2 := stored_length_le kvw (i : Int) (.int cnt tc)
      have hUc : ULok U (usersOf cs (i + 1)) (6 * (i + 1)) := hU.congr (fun b => usersOf_succ cs i b) (by rw [List.size_toArray, hii.length]; omega)
      by_cases hz : cnt = 0
      · subst hz
        have hdz : deps cs i = [] := List.length_eq_zero_iff.mp (by omega)
        walk_at "GO"
        rename News _ _ _ _ => NN
        simp only [List.push_toArray] at NN
        refine InvEndX.intro (by assumption) NN ⟨⟨rvs ++ [.int (i : Int) _], rn + 1, ou, _, stored kvw (i : Int) (.int 0 tc), U, rfl, ?_, hou, by assumption, hw2, by omega, hUc, hUo⟩, by walk_at "KEEPM"⟩ sub5' mem5' (nx5' hI0 hI1 hI2 hI3 hI4 hUI)
        rw [List.range_succ, List.filter_append, castL, List.map_append]
        refine IntsAre.append hrv ?_
        rw [List.filter_cons_of_pos (by simpa using hdz)]
        exact .cons _ _ .nil
      · have hdz : deps cs i ≠ [] := fun e => hz (by rw [hce, e]; rfl)
        walk_at "GO"
        all_goals (first | (exfalso; omega) | skip)
        refine InvEndX.intro (by assumption) (by assumption) ⟨⟨rvs, rn, ou, _, stored kvw (i : Int) (.int cnt tc), U, rfl, ?_, hou, by assumption, hw2, by omega, hUc, hUo⟩, by walk_at "KEEPM"⟩ sub5' mem5' (nx5' hI0 hI1 hI2 hI3 hI4 hUI)
        rw [List.range_succ, List.filter_append, castL, List.map_append, List.filter_cons_of_neg (by simpa using hdz)]
        simp only [List.filter_nil, List.map_nil, List.append_nil]
        exact hrv
  · rintro m₁ news₁ h tk ⟨rvs, rn, ou, ow, kvw, U, rfl, hrv, hou, how, hwt, hwl, hU, hUo⟩ F N
    walk_at "GO"
    unfold Stop
    rename News _ _ _ _ => NN
    rename Fr _ _ _ _ => FF
    have hK0 : KInv (deps cs) cs.length 0 (fun j => ((deps cs j).length : Int)) ((List.range cs.length).filter fun j => decide (deps cs j = [])) := by
      refine ⟨fun j _ => ?_, List.Pairwise.filter _ List.nodup_range, fun j hj => ?_, fun j hj => ?_, fun k hk b hb => ?_, Nat.zero_le _⟩
      · unfold cntOff
        rw [List.filter_eq_self.mpr (by simp)]
      · exact List.mem_range.mp (List.mem_filter.mp hj).1
      · rw [List.mem_filter, List.mem_range]
        simp only [decide_eq_true_eq]
        constructor
        · rintro ⟨_, e⟩; rw [e]; rfl
        · intro e; exact ⟨hj, List.length_eq_zero_iff.mp (by omega)⟩
      · have hm := List.getElem_mem hk
        have he := (List.mem_filter.mp hm).2
        simp only [decide_eq_true_eq] at he
        rw [he] at hb; cases hb
    have hrb : ∀ r : List Nat, r.Nodup → (∀ j ∈ r, j < cs.length) → r.length ≤ cs.length := fun r => nodup_bound _ r
    have hcnt : ∀ b j, j < cs.length → (usersOf cs cs.length b).count j = (deps cs j).count b := fun b j hj => by rw [usersOf_count, if_pos hj]
    refine While_S (n₀ := cs.length) [Str.ofString "index", Str.ofString "turn"] (fun n m nx => OrdC w cs re us wa nl dx nlo dxo ou U n m nx)
      FF NN ⟨0, _, rvs, rn, ow, kvw, _, _, rfl, rfl, rfl, hrv, how, by omega, hwt, hK0⟩ ?_
    clear FF NN hrv how hwt hwl hK0 N F
    rintro n m₂ news₂ h₂ tk₂ F N ⟨T, tt, rvs, rn, ow, kvw, r, wf, rfl, hT, rfl, hrv, how, hkl, hwt, hK⟩
    have F2 := fr_at0 hT (by decide) F
    clear F hT
    simp only [List.cons_append, List.nil_append] at N
    have hrl : rvs.length = r.length := by rw [hrv.length, castL, List.length_map]
    have hrl2 := hrb r hK.nd hK.lt
    by_cases hlt : T < r.length
    · obtain ⟨tb, htb⟩ := hrv.get T ((r[T] : Nat) : Int) (by simp [castL, hlt])
      have hx0 : rvs[((T : Nat) : Int).toNat]? = some (.int ((r[T] : Nat) : Int) tb) := by rw [Int.toNat_natCast]; exact htb
      have hT0 : (0 : Int) ≤ (T : Int) := by omega
      have hM := hK.mid hlt
      have hgd : (castL r).getD ((T : Nat) : Int).toNat 0 = ((r[T] : Nat) : Int) := by
        rw [Int.toNat_natCast, List.getD_eq_getElem?_getD]; simp [castL, hlt]
      generalize hb0 : r[T] = b0 at *
      by_cases hex : ∃ u ∈ U, u.key = b0
      · obtain ⟨u, hu, rfl⟩ := hex
        have hk1 := ul_some hU.keys hu
        rw [← hgd] at hk1
        walk_at "GO"
        unfold Stop
        rename News _ _ _ _ => NN
        rename Fr _ _ _ _ => FF
        have N3 : News g L' _ ([(re, listOf rvs.toArray rn), (us, ou), (wa, ow), (nl, nlo), (dx, dxo)] ++ ulObjs U) := fun p hp => NN p (.tail _ hp)
        refine iter_list_S (lo := listOf u.vals.toArray u.n) [Str.ofString "index"] (fun p _ nx => OrdD w cs re us wa nl dx nlo dxo ou U T u.key ((usersOf cs cs.length u.key).take p) nx)
          rfl ⟨rfl, _, rfl⟩ (fun j m nx => by rintro ⟨_, _, _, _, _, _, rfl, _, _, _, _, _⟩; exact List.mem_append_right _ (ulObjs_mem hu)) FF N3 ⟨rvs, rn, ow, kvw, r, wf, rfl, hrv, how, hkl, hwt, hM⟩ ?_ ?_
        · clear FF NN N3 hK hM hgd hk1
          rintro p v m₃ news₃ h tk I oI hp hv ⟨rvs, rn, ow, kvw, r, wf, rfl, hrv, how, hkl, hwt, hM⟩ hnI F N
          have hvi := hU.vints u hu
          have hpl : p < (usersOf cs cs.length u.key).length := by
            have := hvi.length
            simp only [castL, List.length_map] at this
            simp only [List.size_toArray] at hp; omega
          obtain ⟨tj, htj⟩ := hvi.get p (((usersOf cs cs.length u.key)[p] : Nat) : Int) (by simp [castL, hpl])
          have hve : v = .int (((usersOf cs cs.length u.key)[p] : Nat) : Int) tj := by
            have hv' : u.vals[p]? = some v := by simpa using hv
            rw [htj] at hv'; exact (Option.some.inj hv').symm
          subst hve
          have hjn : (usersOf cs cs.length u.key)[p] < cs.length := usersOf_mem (List.getElem_mem hpl)
          have htk : (usersOf cs cs.length u.key).take (p + 1) = (usersOf cs cs.length u.key).take p ++ [(usersOf cs cs.length u.key)[p]] := by
            rw [List.take_add_one, List.getElem?_eq_getElem hpl]; rfl
          have hcp : ((usersOf cs cs.length u.key).take p).count (usersOf cs cs.length u.key)[p] + 1 ≤ (deps cs (usersOf cs cs.length u.key)[p]).count u.key := by
            rw [← hcnt _ _ hjn]
            have h1 := List.Sublist.count_le (usersOf cs cs.length u.key)[p] (List.take_sublist (p + 1) (usersOf cs cs.length u.key))
            rw [htk, List.count_append, List.count_singleton] at h1
            simpa using h1
          have hS := hM.step hjn hcp
          rw [← htk] at hS
          clear hv htk hcp
          generalize (usersOf cs cs.length u.key)[p] = j at *
          obtain ⟨tw, hwj⟩ := hwt j hjn
          have hoff : OwnOff (ulObjs U ++ [(I, oI)]) [re, us, wa, nl, dx] := by
            intro q hq b hb
            simp only [List.mem_cons, List.not_mem_nil, or_false] at hb
            rcases List.mem_append.mp hq with q1 | q1
            · obtain ⟨u, hu, rfl⟩ := List.mem_map.mp q1
              obtain ⟨a1, a2, a3, a4, a5⟩ := hUo u hu
              rcases hb with rfl | rfl | rfl | rfl | rfl <;> assumption
            · rw [List.mem_singleton.mp q1]
              rcases hb with rfl | rfl | rfl | rfl | rfl
              · exact Ne.symm (hnI _ (.head _))
              · exact Ne.symm (hnI _ (.tail _ (.head _)))
              · exact Ne.symm (hnI _ (.tail _ (.tail _ (.head _))))
              · exact Ne.symm (hnI _ (.tail _ (.tail _ (.tail _ (.head _)))))
              · exact Ne.symm (hnI _ (.tail _ (.tail _ (.tail _ (.tail _ (.head _))))))
          simp only [List.cons_append, List.nil_append] at N
          have hrl : rvs.length ≤ 100 := by
            have := hrb r hM.nd hM.lt
            rw [hrv.length, castL, List.length_map]; omega
          have hn0 : re ≠ I := hnI _ (.head _)
          have hn1 : us ≠ I := hnI _ (.tail _ (.head _))
          have hn2 : wa ≠ I := hnI _ (.tail _ (.tail _ (.head _)))
          have hn3 : nl ≠ I := hnI _ (.tail _ (.tail _ (.tail _ (.head _))))
          have hn4 : dx ≠ I := hnI _ (.tail _ (.tail _ (.tail _ (.tail _ (.head _)))))
          have hJn : ∀ (e1 e2 : Obj), ∀ p ∈ [(re, e1), (us, ou), (wa, e2), (nl, nlo), (dx, dxo)] ++ ulObjs U, p.1 ≠ I := fun e1 e2 => nx5' hn0 hn1 hn2 hn3 hn4 (fun u hu => hnI _ (List.mem_append_right _ (ulObjs_mem hu)))
          have hwt2 : ∀ t' : Tok, ∀ i : Nat, i < cs.length → ∃ t, valueAt (stored kvw (j : Int) (.int (wf j - 1) t')) (i : Int) = some (.int (upd wf j (wf j - 1) i) t) := by
            intro t' i hi
            rw [valueAt_stored]
            unfold upd
            by_cases e : i = j
            · subst e; rw [if_pos rfl, if_pos rfl]; exact ⟨t', rfl⟩
            · rw [if_neg (by omega), if_neg e]; exact hwt i hi
          by_cases hz : wf j - 1 = 0
          · rw [if_pos hz] at hS
            walk_at "GO"
            all_goals (first | (exfalso; omega) | skip)
            rename News _ _ _ _ => NN
            simp only [List.push_toArray] at NN
            refine InvEndX.intro (by assumption) NN ⟨⟨rvs ++ [.int (j : Int) _], rn + 1, _, stored kvw (j : Int) (.int (wf j - 1) _), r ++ [j], _, rfl, ?_, by assumption, ?_, hwt2 _, hS⟩, by walk_at "KEEPM"⟩ sub5' mem5' (hJn _ _)
            · rw [castL, List.map_append]
              exact IntsAre.append hrv (.cons _ _ .nil)
            · rw [stored_length_present hwj]; exact hkl
          · rw [if_neg hz] at hS
            walk_at "GO"
            all_goals (first | (exfalso; omega) | skip)
            refine InvEndX.intro (by assumption) (by assumption) ⟨⟨rvs, rn, _, stored kvw (j : Int) (.int (wf j - 1) _), r, _, rfl, hrv, by assumption, ?_, hwt2 _, hS⟩, by walk_at "KEEPM"⟩ sub5' mem5' (hJn _ _)
            rw [stored_length_present hwj]; exact hkl
        · rintro m₃ news₃ h tk ⟨rvs, rn, ow, kvw, r, wf, rfl, hrv, how, hkl, hwt, hM⟩ F N
          have hvi := hU.vints u hu
          rw [List.take_of_length_le (by
            have := hvi.length
            simp only [castL, List.length_map] at this
            simp only [List.size_toArray]; omega)] at hM
          have hK2 := hM.fin fun j hj => hcnt _ _ hj
          have hb2 := hrb r hM.nd hM.lt
          have hb3 := hM.tlt
          walk_at "GO"
          exact WhileStep.intro (by assumption) (by assumption) (show cs.length - (T + 1) < cs.length - T by omega) ⟨⟨T + 1, _, rvs, rn, ow, kvw, r, wf, rfl, by with_unfolding_all rfl, rfl, hrv, how, hkl, hwt, hK2⟩, by walk_at "KEEPM"⟩
      · have hk0 : ∀ u ∈ U, u.key ≠ b0 := fun u hu e => hex ⟨u, hu, e⟩
        have hk1 := ul_none hk0
        rw [← hgd] at hk1
        have hun : usersOf cs cs.length b0 = [] := by
          cases e : usersOf cs cs.length b0 with
          | nil => rfl
          | cons y ys =>
            obtain ⟨u, hu, hk⟩ := hU.has b0 (by rw [e]; exact List.cons_ne_nil _ _)
            exact absurd hk (hk0 u hu)
        have hK2 := hM.fin fun j hj => by rw [← hcnt _ _ hj, hun]
        walk_at "GO"
        unfold Stop
        rename News _ _ _ _ => NN
        rename Fr _ _ _ _ => FF
        refine iter_list_S (lo := listOf #[] 0) [Str.ofString "index"] (fun p _ nx => nx = _) rfl ⟨rfl, _, rfl⟩ (fun j m nx => by rintro rfl; exact .head _) FF NN rfl ?_ ?_
        · intro i v m₁ n₁ h tk I oI hi
          simp at hi
        · rintro m₃ news₃ h tk hne F N
          subst hne
          have N3 : News g L' _ ([(re, listOf rvs.toArray rn), (us, ou), (wa, ow), (nl, nlo), (dx, dxo)] ++ ulObjs U) := fun p hp => N p (.tail _ hp)
          walk_at "GO"
          exact WhileStep.intro (by assumption) (by assumption) (show cs.length - (T + 1) < cs.length - T by omega) ⟨⟨T + 1, _, rvs, rn, ow, kvw, r, wf, rfl, by with_unfolding_all rfl, rfl, hrv, how, hkl, hwt, hK2⟩, by walk_at "KEEPM"⟩
    · walk_at "GO"
      all_goals (first | (exfalso; omega) | skip)
      have hTr : T = r.length := by have := hK.tle; omega
      subst hTr
      have hall := hK.all (fun j => (cs[j]?.map (·.out)).getD 0) (fun j => by
        cases e : cs[j]? with
        | none => simp
        | some x => simpa using (hacy x (List.mem_of_getElem? e)).1) (fun j hj b hb => by
        rw [deps_eq hj] at hb
        obtain ⟨n, hn, hd⟩ := List.mem_filterMap.mp hb
        obtain ⟨hbl, hbo⟩ := drvOf_some hd
        have := (hacy _ (List.getElem_mem hj)).2 n hn
        refine ⟨hbl, ?_⟩
        simp only [List.getElem?_eq_getElem hbl, List.getElem?_eq_getElem hj, Option.map_some, Option.getD_some]
        rw [hbo]; exact this)
      exact k' re rvs rn r _ _ _ _ _ (by assumption) (by assumption) (by k_memK) (by k_memK) (by k_memK) (Nat.ne_of_gt (by omega)) (Nat.ne_of_gt (by omega)) hrv hK.nd (fun j => ⟨hK.lt j, hall j⟩) hK.topo
end
section
local macro_rules | `(tactic| walk_at "call ref") => `(tactic| ((with_reducible show wpAny _ _ (call (Value.ref 159) _ _) _ _ _); k_dflt (refine wpAny_call (call_stop ?_))))
local macro_rules | `(tactic| walk_at "call ref") => `(tactic| ((with_reducible show wpAny _ _ (call (Value.ref 152) _ _) _ _ _); k_dflt (refine wpAny_call (call_stop ?_))))
local macro_rules | `(tactic| walk_at "call ref") => `(tactic| ((with_reducible show wpAny _ _ (call (Value.ref 145) _ _) _ _ _); k_dflt (refine wpAny_call (call_stop ?_))))
theorem nd_le {l₁ : List Nat} : ∀ {l₂ : List Nat}, l₁.Nodup → (∀ x ∈ l₁, x ∈ l₂) → l₁.length ≤ l₂.length := by
  induction l₁ with
  | nil => intro l₂ _ _; exact Nat.zero_le _
  | cons a t ih =>
    intro l₂ h s
    rw [List.nodup_cons] at h
    have h1 := ih (l₂ := l₂.erase a) h.2 (fun x hx => (List.mem_erase_of_ne (fun e => h.1 (by rw [← e]; exact hx))).mpr (s x (List.mem_cons_of_mem _ hx)))
    have h2 := List.length_erase_of_mem (s a List.mem_cons_self)
    have h3 := List.length_pos_of_mem (s a List.mem_cons_self)
    simp only [List.length_cons]; omega
/-- the cells as comb_order wants them -/
structure Net (cs : List CellD) (c : Nat) : Prop where
  len : cs.length ≤ 100
  c10 : c ≤ 10
  out : ∀ i j (hi : i < cs.length) (hj : j < cs.length), (cs[i]).out = (cs[j]).out → i = j
  new : ∀ x ∈ cs, (c : Int) + 2 ≤ x.out
  ar : ∀ x ∈ cs, cellArity x.kind x.ins.length
  acy : ∀ x ∈ cs, ∀ n ∈ x.ins, 0 ≤ n ∧ n < x.out
theorem comb_spec {w : World} {A : Around} {s : Shared} {h₀ : Heap} {mean mg mb} {nl dx cel inp outp tp bl : Addr} {nd : Nat} {k1 k2 k3 k4 k5 ct : Tok} {nm tn : Value} {cnt : Int} {cvs bvs : List Value} {cs : List CellD} {c : Nat} {R : Result → Shared → Prop}
    (G : Gd w mean mg mb h₀) (H : At h₀ s.heap [(nl, instObj 134 dx), (dx, dictOf (nlEs w.params k1 k2 k3 k4 k5 nm cnt ct inp outp cel) nd)]) (hroom : A.depth < 600) (hh : A.handled = none) (hu : A.units < 1700)
    (hne : nl ≠ dx) (hcl : s.heap.IsList cel cvs.toArray) (hcel : cel ≠ nl ∧ cel ≠ dx) (hcs : CellsAt s.heap cvs cs)
    (hinp : s.heap.IsList inp [Value.ref tp].toArray) (hinp2 : inp ≠ nl ∧ inp ≠ dx) (htp : IsTup s.heap tp #[tn, .ref bl]) (hbl : s.heap.IsList bl bvs.toArray) (hbl2 : bl ≠ nl ∧ bl ≠ dx) (hbi : IntsAre bvs (netsOf c)) (hN : Net cs c)
    (k : ∀ a rvs n r h' tk, s.heap.get? a = none → h'.get? a = some (listOf rvs.toArray n) → IntsAre rvs (castL r) → r.Nodup → (∀ j, j ∈ r ↔ j < cs.length) → (∀ k (h : k < r.length), ∀ b ∈ deps cs (r[k]), b ∈ r.take k) →
      KeepBut [] s.heap h' → R (.ok (.ret (.ref a))) { s with heap := h', toks := tk }) :
    codeAny (model PySem.Challenge.rw_on0104_01.row.prog w) A (.call (.ref 166) ⟨[.ref nl], []⟩) R s := by
  obtain ⟨hdl, dd, fr, gs, uu⟩ := A
  simp only at hh hroom hu
  subst hh
  refine' callD G H ?k6 ?k7 ?k8 ?k9 ?kB ?_ ?c2 ?c3 ?c4 ?c5
  walk_at "ENTER"
  intro dd9 uu9 fr9 hdd9 huu9 g L' h₁ F' N' G' st' old lt' back
  show wpAny _ { handled := none, depth := dd9, frames := fr9, guards := gs, units := uu9 } _ _ _ _
  simp only at hdd9 huu9
  replace F' : Fr g L' h₁ (fun y => List.lookup y [(Str.ofString "netlist", Value.ref nl)]) := F'
  have X' : (Mine.hd.heap_1 w.params).In g := G'.X
  have T' := G'.T
  have hcl' : g.IsList cel cvs.toArray := hcl.at fun o e => old _ _ e (by simp; exact hcel)
  have hinp' : g.IsList inp [Value.ref tp].toArray := hinp.at fun o e => old _ _ e (by simp; exact hinp2)
  have hbl' : g.IsList bl bvs.toArray := hbl.at fun o e => old _ _ e (by simp; exact hbl2)
  have hnl := (H.2 _ (.head _)).1
  have hdx := (H.2 _ (.tail _ (.head _))).1
  have tk : ∀ b o, s.heap.get? b = some o → o.cls = .type "tuple" → g.get? b = some o := fun b o e hc => old _ _ e (by
    intro hb
    simp only [List.map_cons, List.map_nil, List.mem_cons, List.not_mem_nil, or_false] at hb
    rcases hb with rfl | rfl
    · rw [hnl] at e; cases e; simp at hc
    · rw [hdx] at e; cases e; simp at hc)
  have hcs' : CellsAt g cvs cs := cellsAt_keeps hcs tk
  have htp' : IsTup g tp #[tn, .ref bl] := tup_upto htp tk
  have lnl : @LT.lt Nat _ nl L' := lt' _ (.head _)
  have ldx : @LT.lt Nat _ dx L' := lt' _ (.tail _ (.head _))
  have hne' : @Ne Nat nl dx := hne
  have hcvl : cvs.length = cs.length := hcs'.1
  have hlen := hN.len
  have k' : ∀ a rvs n r h' tk L m news, Fr g L h' m → News g L h' news → (a, listOf rvs.toArray n) ∈ news → (nl, instObj 134 dx) ∈ news → (dx, dictOf (nlEs w.params k1 k2 k3 k4 k5 nm cnt ct inp outp cel) nd) ∈ news → a ≠ nl → a ≠ dx →
      IntsAre rvs (castL r) → r.Nodup → (∀ j, j ∈ r ↔ j < cs.length) → (∀ k (h : k < r.length), ∀ b ∈ deps cs (r[k]), b ∈ r.take k) → R (.ok (.ret (.ref a))) { s with heap := h', toks := tk } :=
    fun a rvs n r h' tk L m news F N m1 m2 m3 n1 n2 q1 q2 q3 q4 => by
      refine k a rvs n r h' tk ?_ (N.get m1) q1 q2 q3 q4 fun b o hb e => ?_
      · cases e : s.heap.get? a with
        | none => rfl
        | some o => have := (N _ m1).2.2; rw [old _ _ e (by simp; exact ⟨n1, n2⟩)] at this; cases this
      · by_cases q1 : b = nl
        · subst q1; rw [hnl] at e; cases e; exact N.get m2
        by_cases q2 : b = dx
        · subst q2; rw [hdx] at e; cases e; exact N.get m3
        exact F.keep b o (old b o e (by simp; exact ⟨q1, q2⟩))
  clear hcl hcs tk H G old st' back k lt' hnl hdx hinp htp hbl
  walk_at "GO"
  rename News _ _ _ _ => NN
  rename Fr _ _ _ _ => FF
  refine drivers_spec (tt := k1) G' (At.of FF NN (by k_allIn)) (by dsimp only; omega) rfl (by dsimp only; omega) hne (hcl'.at fun o e => FF.keep _ _ e) hcel (cellsAt_keeps hcs' fun b o e _ => FF.keep b o e) hN.len
    (hinp'.at fun o e => FF.keep _ _ e) hinp2 (htp'.keeps FF.keep) (hbl'.at fun o e => FF.keep _ _ e) hbl2 hbi hN.c10 hN.out hN.new ?_
  intro dv od kvd h2 tk2 lod hdn hdo hdi hdl hd1 hd2 kb2
  obtain ⟨F2, N2, off2⟩ := after_new FF NN kb2 hdn hdo
  have hoff2 : @Ne Nat nl dv ∧ @Ne Nat dx dv := ⟨off2 _ (.head _), off2 _ (.tail _ (.head _))⟩
  clear FF NN off2 kb2 hdn hdo
  try dsimp only
  walk_at "GO"
  rename News _ _ _ _ => NN
  rename Fr _ _ _ _ => FF
  refine ordered_spec G' (At.of FF NN (by k_allIn)) (by dsimp only; omega) rfl (by dsimp only; omega) hne (hcl'.at fun o e => FF.keep _ _ e) hcel (cellsAt_keeps hcs' fun b o e _ => FF.keep b o e) hN.len
    (kda_dict NN (by k_mem) hdi) ⟨Ne.symm hoff2.1, Ne.symm hoff2.2⟩ lod hd1 hd2 hN.out (fun x hx => ?_) (fun x hx => ⟨?_, fun n hn => (hN.acy x hx n hn).2⟩) ?_
  · have := hN.ar x hx
    cases hk : x.kind <;> rw [hk] at this <;> simp only [cellArity, gateArity] at this <;> omega
  · have := hN.new x hx; omega
  intro a rvs n r h3 tk3 han hao hrv hnd hmem htopo kb3
  obtain ⟨F3, N3, off3⟩ := after_new FF NN kb3 han hao
  have hoff3 : @Ne Nat nl a ∧ @Ne Nat dx a := ⟨off3 (nl, instObj 134 dx) (by k_mem), off3 (dx, dictOf (nlEs w.params k1 k2 k3 k4 k5 nm cnt ct inp outp cel) nd) (by k_mem)⟩
  clear FF NN off3 kb3 han hao
  have hrl : rvs.length = cs.length := by
    rw [hrv.length, castL, List.length_map]
    refine Nat.le_antisymm (nodup_bound _ r hnd fun j hj => (hmem j).mp hj) ?_
    have h1 := nd_le (List.nodup_range (n := cs.length)) (l₂ := r) (fun j hj => (hmem j).mpr (List.mem_range.mp hj))
    simpa using h1
  try dsimp only
  walk_at "GO"
  rename News _ _ _ _ => NN
  rename Fr _ _ _ _ => FF
  refine statec_spec G' (At.of FF NN (by k_allIn)) (by dsimp only; omega) rfl (by dsimp only; omega) hne (hcl'.at fun o e => FF.keep _ _ e) hcel (cellsAt_keeps hcs' fun b o e _ => FF.keep b o e) hN.len ?_
  intro st n4 h4 tk4 hsn hso kb4
  obtain ⟨F4, N4, off4⟩ := after_new FF NN kb4 hsn hso
  clear FF NN kb4 hsn hso
  try dsimp only
  walk_at "GO"
  exact k' a rvs n r h4 _ _ _ _ F4 N4 (by k_mem) (by k_mem) (by k_mem) (Ne.symm hoff3.1) (Ne.symm hoff3.2) hrv hnd hmem htopo
end
section
theorem newnet_spec {w : World} {A : Around} {s : Shared} {h₀ : Heap} {mean mg mb} {nl dx cel inp outp : Addr} {k1 k2 k3 k4 k5 ct : Tok} {nm : Value} {cnt : Int} {R : Result → Shared → Prop}
    (G : Gd w mean mg mb h₀) (H : At h₀ s.heap [(nl, instObj 134 dx), (dx, dictOf (nlEs w.params k1 k2 k3 k4 k5 nm cnt ct inp outp cel) 5)]) (hroom : A.depth < 700) (hh : A.handled = none) (hu : A.units < 1800)
    (hne : nl ≠ dx)
    (k : ∀ t ct' h' tk, KeepBut [dx] s.heap h' → h'.get? dx = some (dictOf (nlEs w.params k1 k2 k3 k4 k5 nm (cnt + 1) ct' inp outp cel) 5) → R (.ok (.ret (.int cnt t))) { s with heap := h', toks := tk }) :
    codeAny (model PySem.Challenge.rw_on0104_01.row.prog w) A (.call (.ref 82) ⟨[.ref nl], []⟩) R s := by
  obtain ⟨hdl, dd, fr, gs, uu⟩ := A
  simp only at hh hroom hu
  subst hh
  refine' callD G H ?k6 ?k7 ?k8 ?k9 ?kB ?_ ?c2 ?c3 ?c4 ?c5
  walk_at "ENTER"
  intro dd9 uu9 fr9 hdd9 huu9 g L' h₁ F' N' G' st' old lt' back
  show wpAny _ { handled := none, depth := dd9, frames := fr9, guards := gs, units := uu9 } _ _ _ _
  simp only at hdd9 huu9
  replace F' : Fr g L' h₁ (fun y => List.lookup y [(Str.ofString "self", Value.ref nl)]) := F'
  have X' : (Mine.hd.heap_1 w.params).In g := G'.X
  have T' := G'.T
  have hnl := (H.2 _ (.head _)).1
  have lnl : @LT.lt Nat _ nl L' := lt' _ (.head _)
  have ldx : @LT.lt Nat _ dx L' := lt' _ (.tail _ (.head _))
  have hne' : @Ne Nat nl dx := hne
  have k' : ∀ t ct' h' tk L m news, Fr g L h' m → News g L h' news → (nl, instObj 134 dx) ∈ news → (dx, dictOf (nlEs w.params k1 k2 k3 k4 k5 nm (cnt + 1) ct' inp outp cel) 5) ∈ news → R (.ok (.ret (.int cnt t))) { s with heap := h', toks := tk } :=
    fun t ct' h' tk L m news F N m1 m2 => k t ct' h' tk (fun b o hb e => by
      by_cases q1 : b = nl
      · subst q1; rw [hnl] at e; cases e; exact N.get m1
      exact F.keep b o (old b o e (by simp at hb ⊢; exact ⟨q1, hb⟩))) (N.get m2)
  clear H G old st' back k lt' hnl
  walk_at "GO"
  exact k' _ _ _ _ _ _ _ (by assumption) (by assumption) (by k_mem) (by k_mem)
theorem init_spec {w : World} {A : Around} {s : Shared} {h₀ : Heap} {mean mg mb} {nl dx : Addr} {nm : Value} {R : Result → Shared → Prop}
    (G : Gd w mean mg mb h₀) (H : At h₀ s.heap [(nl, instObj 134 dx), (dx, dictOf [] 0)]) (hroom : A.depth < 700) (hh : A.handled = none) (hu : A.units < 1800)
    (hne : nl ≠ dx)
    (k : ∀ k1 k2 k3 k4 k5 ct inp outp cel h' tk, s.heap.get? inp = none → s.heap.get? outp = none → s.heap.get? cel = none → inp ≠ outp → inp ≠ cel → outp ≠ cel → KeepBut [dx] s.heap h' → h'.get? dx = some (dictOf (nlEs w.params k1 k2 k3 k4 k5 nm 2 ct inp outp cel) 5) →
      h'.get? inp = some (listOf #[] 0) → h'.get? outp = some (listOf #[] 0) → h'.get? cel = some (listOf #[] 0) → R (.ok (.ret .none)) { s with heap := h', toks := tk }) :
    codeAny (model PySem.Challenge.rw_on0104_01.row.prog w) A (.call (.ref 75) ⟨[.ref nl, nm], []⟩) R s := by
  obtain ⟨hdl, dd, fr, gs, uu⟩ := A
  simp only at hh hroom hu
  subst hh
  refine' callD G H ?k6 ?k7 ?k8 ?k9 ?kB ?_ ?c2 ?c3 ?c4 ?c5
  walk_at "ENTER"
  intro dd9 uu9 fr9 hdd9 huu9 g L' h₁ F' N' G' st' old lt' back
  show wpAny _ { handled := none, depth := dd9, frames := fr9, guards := gs, units := uu9 } _ _ _ _
  simp only at hdd9 huu9
  replace F' : Fr g L' h₁ (fun y => List.lookup y [(Str.ofString "name", nm), (Str.ofString "self", Value.ref nl)]) := F'
  have X' : (Mine.hd.heap_1 w.params).In g := G'.X
  have T' := G'.T
  have hnl := (H.2 _ (.head _)).1
  have lnl : @LT.lt Nat _ nl L' := lt' _ (.head _)
  have ldx : @LT.lt Nat _ dx L' := lt' _ (.tail _ (.head _))
  have hne' : @Ne Nat nl dx := hne
  have k' : ∀ k1 k2 k3 k4 k5 ct inp outp cel h' tk L m news, Fr g L h' m → News g L h' news → (nl, instObj 134 dx) ∈ news → (dx, dictOf (nlEs w.params k1 k2 k3 k4 k5 nm 2 ct inp outp cel) 5) ∈ news → (inp, listOf #[] 0) ∈ news → (outp, listOf #[] 0) ∈ news → (cel, listOf #[] 0) ∈ news →
      inp ≠ outp → inp ≠ cel → outp ≠ cel → (inp ≠ nl ∧ inp ≠ dx) → (outp ≠ nl ∧ outp ≠ dx) → (cel ≠ nl ∧ cel ≠ dx) → R (.ok (.ret .none)) { s with heap := h', toks := tk } := by
    intro k1 k2 k3 k4 k5 ct inp outp cel h' tk L m news F N m1 m2 m3 m4 m5 d1 d2 d3 n1 n2 n3
    have fr : ∀ a o, (a, o) ∈ news → a ≠ nl ∧ a ≠ dx → s.heap.get? a = none := fun a o hm hn => by
      cases e : s.heap.get? a with
      | none => rfl
      | some o => have := (N _ hm).2.2; rw [old _ _ e (by simp; exact hn)] at this; cases this
    exact k k1 k2 k3 k4 k5 ct inp outp cel h' tk (fr _ _ m3 n1) (fr _ _ m4 n2) (fr _ _ m5 n3) d1 d2 d3 (fun b o hb e => by
      by_cases q1 : b = nl
      · subst q1; rw [hnl] at e; cases e; exact N.get m1
      exact F.keep b o (old b o e (by simp at hb ⊢; exact ⟨q1, hb⟩))) (N.get m2) (N.get m3) (N.get m4) (N.get m5)
  clear H G old st' back k lt' hnl
  walk_at "GO"
  rename_i h7 t3 h6 t2 li h5 i1 h4 t1 lo h3 i2 h2 t0 lc h1 i3 h0 FF NN
  exact k' _ _ _ _ _ _ li lo lc _ _ _ _ _ FF NN (by k_mem) (by k_mem) (by k_mem) (by k_mem) (by k_mem) (Nat.ne_of_lt i2.1) (Nat.ne_of_lt i3.2.1) (Nat.ne_of_lt i3.1) ⟨Nat.ne_of_gt i1.1, Nat.ne_of_gt i1.2⟩ ⟨Nat.ne_of_gt i2.2.1, Nat.ne_of_gt i2.2.2⟩ ⟨Nat.ne_of_gt i3.2.2.1, Nat.ne_of_gt i3.2.2.2⟩
end
section
local macro_rules | `(tactic| walk_at "eval ListComp") => `(tactic| (k_dflt (refine LCg.ListComp_U (F₀ := by k_asm) (by with_unfolding_all rfl) (by decide) (by rfl) (by decide) (by rfl) ?_)))
theorem compsrc_stop {prog : Program} {w : World} {A : Around} {h₀ : Heap} {L : Addr} {m : Str → Option Value} {env : Env} {elt : Expr} {x : Str} {scope : Scope} {cl : List (Str × Addr)} {Fin : Shared → List Value → List (Addr × Obj) → Prop} {xv : Value} {s₁ : Shared}
    (h : Stop (LCg.CompSrc prog w A h₀ L m env elt x scope cl Fin xv s₁)) : LCg.CompSrc prog w A h₀ L m env elt x scope cl Fin xv s₁ := h
local macro_rules | `(tactic| walk_at "CompSrc") => `(tactic| refine compsrc_stop ?_)
local macro_rules | `(tactic| walk_at "CompRest") => `(tactic| fail "stop")
local macro_rules | `(tactic| walk_at "call ref") => `(tactic| ((with_reducible show wpAny _ _ (call (Value.ref 82) _ _) _ _ _); k_dflt (refine wpAny_call (call_stop ?_))))
--X
theorem newnets_spec {w : World} {A : Around} {s : Shared} {h₀ : Heap} {mean mg mb} {nl dx cel inp outp : Addr} {k1 k2 k3 k4 k5 ct tw : Tok} {nm : Value} {cnt : Int} {c : Nat} {R : Result → Shared → Prop}
    (G : Gd w mean mg mb h₀) (H : At h₀ s.heap [(nl, instObj 134 dx), (dx, dictOf (nlEs w.params k1 k2 k3 k4 k5 nm cnt ct inp outp cel) 5)]) (hroom : A.depth < 650) (hh : A.handled = none) (hu : A.units < 1700)
    (hne : nl ≠ dx) (hc : c ≤ 10)
    (k : ∀ a ys ct' h' tk, s.heap.get? a = none → KeepBut [dx] s.heap h' → h'.get? dx = some (dictOf (nlEs w.params k1 k2 k3 k4 k5 nm (cnt + c) ct' inp outp cel) 5) → h'.get? a = some (LCg.lst ys) → IntsAre ys ((List.range c).map fun (i : Nat) => cnt + (i : Int)) → R (.ok (.ret (.ref a))) { s with heap := h', toks := tk }) :
    codeAny (model PySem.Challenge.rw_on0104_01.row.prog w) A (.call (.ref 87) ⟨[.ref nl, .int c tw], []⟩) R s := by
  obtain ⟨hdl, dd, fr, gs, uu⟩ := A
  simp only at hh hroom hu
  subst hh
  refine' callDC G H ?k6 ?k7 ?k8 ?k9 ?kB ?kD ?_ ?c2 ?c3 ?c4
  case k6 => k_is
  case k7 => k_is
  case k8 => simp only [recursionLimit]; omega
  case k9 => exact BindsTo.of_eq rfl
  case kD => decide +kernel
  case kB => exact rfl
  case c2 => exact rfl
  case c3 => exact rfl
  case c4 => exact rfl
  intro dd9 uu9 fr9 hdd9 huu9 g L' h₁ tk₁ cells F' N' Y' G' st' old lt' back
  obtain ⟨oc, hE, d1⟩ := CellsAre.one Y'
  subst hE
  clear Y'
  simp only [List.cons_append, List.nil_append] at N'
  show wpAny _ { handled := none, depth := dd9, frames := fr9, guards := gs, units := uu9 } _ _ _ _
  simp only at hdd9 huu9
  have X' : (Mine.hd.heap_1 w.params).In g := G'.X
  have T' := G'.T
  have hnl := (H.2 _ (.head _)).1
  have lnl : @LT.lt Nat _ nl L' := lt' _ (.head _)
  have ldx : @LT.lt Nat _ dx L' := lt' _ (.tail _ (.head _))
  have hne' : @Ne Nat nl dx := hne
  have k' : ∀ a ys ct' h' tk L m news, Fr g L h' m → News g L h' news → (nl, instObj 134 dx) ∈ news → (dx, dictOf (nlEs w.params k1 k2 k3 k4 k5 nm (cnt + c) ct' inp outp cel) 5) ∈ news → (a, LCg.lst ys) ∈ news → a ≠ nl → a ≠ dx →
      IntsAre ys ((List.range c).map fun (i : Nat) => cnt + (i : Int)) → R (.ok (.ret (.ref a))) { s with heap := h', toks := tk } :=
    fun a ys ct' h' tk L m news F N m1 m2 m3 n1 n2 hy => k a ys ct' h' tk (by
      cases e : s.heap.get? a with
      | none => rfl
      | some o => have := (N _ m3).2.2; rw [old _ _ e (by simp; exact ⟨n1, n2⟩)] at this; cases this) (fun b o hb e => by
      by_cases q1 : b = nl
      · subst q1; rw [hnl] at e; cases e; exact N.get m1
      exact F.keep b o (old b o e (by simp at hb ⊢; exact ⟨q1, hb⟩))) (N.get m2) (N.get m3) hy
  clear H G old st' back k lt' hnl
  walk_at "GO"
  unfold Stop
  rename News _ _ _ _ => NN
  rename Fr _ _ _ _ => FF
  have hsz : Builtin.Range.rangeSize 0 (c : Int) 1 = (c : Int) := by
    have := rangeSize_nat 0 (c : Int)
    simpa using this
  refine LCg.CompSrc.range rfl FF NN (by assumption) (n := c) (small_one (by omega) (by omega) (by omega) (by omega)) hsz (by rw [sizeLine_eq]; omega) fun g₂ => ?_
  refine comp_rest (fun i ys news => ∃ ct', news = [(L' + 1, oc), (nl, instObj 134 dx), (dx, dictOf (nlEs w.params k1 k2 k3 k4 k5 nm (cnt + (i : Int)) ct' inp outp cel) 5)] ∧ IntsAre ys ((List.range i).map fun (j : Nat) => cnt + (j : Int))) ⟨ct, by simp, .nil⟩ ?_ ?_
  · clear FF NN
    rintro i v I oI C oC D m₂ ys news h tk E' hi hP ⟨ct', rfl, hJ⟩ hC hx F N off ne
    obtain ⟨tv, rfl⟩ := hP
    simp only [LCg.Off3, and_true] at off
    walk_at "GO"
    refine newnet_spec G' (At.of F N (by k_allIn)) (by dsimp only; omega) rfl (by dsimp only; omega) hne ?_
    intro t ct'' h2 tk2 kb hd
    obtain ⟨F2, N2⟩ := after_upd F N (by k_upd) kb hd
    exact ⟨h2, tk2, [(L' + 1, oc), (nl, instObj 134 dx), (dx, dictOf (nlEs w.params k1 k2 k3 k4 k5 nm (cnt + (i : Int) + 1) ct'' inp outp cel) 5)], rfl, F2, N2, by simp only [LCg.Off3, and_true]; exact off, trivial, ct'', by rw [Int.natCast_add, ← Int.add_assoc]; rfl, by
      rw [List.range_succ, List.map_append]; exact IntsAre.append hJ (.cons _ _ .nil)⟩
  · rintro ys news ⟨ct', rfl, hJ⟩
    intro D h tk F N o1
    simp only [LCg.Off1, and_true] at o1
    walk_at "GO"
    exact k' D ys ct' _ _ _ _ _ F N (by k_mem) (by k_mem) (by k_mem) (Ne.symm o1.2.1) (Ne.symm o1.2.2) hJ
end
section
local macro_rules | `(tactic| walk_at "call ref") => `(tactic| ((with_reducible show wpAny _ _ (call (Value.ref 87) _ _) _ _ _); k_dflt (refine wpAny_call (call_stop ?_))))
theorem after_upd_new {g h h' : Heap} {L d a : Addr} {m : Str → Option Value} {o o' oa : Obj} {news news' : List (Addr × Obj)} (F : Fr g L h m) (N : News g L h news) (U : Upd d o o' news news') (k : KeepBut [d] h h') (e : h'.get? d = some o') (hn : h.get? a = none) (ha : h'.get? a = some oa) :
    Fr g L h' m ∧ News g L h' ((a, oa) :: news') ∧ ∀ p ∈ news, p.1 ≠ a := by
  obtain ⟨F', N'⟩ := after_upd F N U k e
  refine ⟨F', fun p hp => ?_, fun p hp q => ?_⟩
  · rcases List.mem_cons.mp hp with rfl | hp
    · refine ⟨ha, fun q => ?_, ?_⟩
      · obtain ⟨oL, _, _, hL, _⟩ := F.ns
        have q' : a = L := q
        rw [q', hL] at hn; cases hn
      · cases e : g.get? a with
        | none => rfl
        | some o' => rw [F.keep _ _ e] at hn; cases hn
    · exact N' p hp
  · rw [← q, (N p hp).1] at hn; cases hn
theorem addin_spec {w : World} {A : Around} {s : Shared} {h₀ : Heap} {mean mg mb} {nl dx cel inp outp : Addr} {k1 k2 k3 k4 k5 ct tw : Tok} {nm pn : Value} {cnt : Int} {c : Nat} {R : Result → Shared → Prop}
    (G : Gd w mean mg mb h₀) (H : At h₀ s.heap [(inp, listOf #[] 0), (nl, instObj 134 dx), (dx, dictOf (nlEs w.params k1 k2 k3 k4 k5 nm cnt ct inp outp cel) 5)]) (hroom : A.depth < 600) (hh : A.handled = none) (hu : A.units < 1600)
    (hne : nl ≠ dx) (hni : inp ≠ nl ∧ inp ≠ dx) (hc : c ≤ 10)
    (k : ∀ a bl tp ys n1 n2 ot ct' h' tk, s.heap.get? a = none → s.heap.get? bl = none → s.heap.get? tp = none → a ≠ bl → KeepBut [inp, dx] s.heap h' → h'.get? dx = some (dictOf (nlEs w.params k1 k2 k3 k4 k5 nm (cnt + c) ct' inp outp cel) 5) → h'.get? a = some (LCg.lst ys) → h'.get? bl = some (listOf ys.toArray n1) →
      h'.get? tp = some ot → ot = ({ cls := .type "tuple", data := .seq #[pn, .ref bl] } : Obj) → h'.get? inp = some (listOf #[.ref tp] n2) → IntsAre ys ((List.range c).map fun (i : Nat) => cnt + (i : Int)) → R (.ok (.ret (.ref a))) { s with heap := h', toks := tk }) :
    codeAny (model PySem.Challenge.rw_on0104_01.row.prog w) A (.call (.ref 94) ⟨[.ref nl, pn, .int c tw], []⟩) R s := by
  obtain ⟨hdl, dd, fr, gs, uu⟩ := A
  simp only at hh hroom hu
  subst hh
  refine' callD G H ?k6 ?k7 ?k8 ?k9 ?kB ?_ ?c2 ?c3 ?c4 ?c5
  walk_at "ENTER"
  intro dd9 uu9 fr9 hdd9 huu9 g L' h₁ F' N' G' st' old lt' back
  show wpAny _ { handled := none, depth := dd9, frames := fr9, guards := gs, units := uu9 } _ _ _ _
  simp only at hdd9 huu9
  replace F' : Fr g L' h₁ (fun y => List.lookup y [(Str.ofString "width", Value.int c tw), (Str.ofString "name", pn), (Str.ofString "self", Value.ref nl)]) := F'
  have X' : (Mine.hd.heap_1 w.params).In g := G'.X
  have T' := G'.T
  have hnl := (H.2 _ (.tail _ (.head _))).1
  have linp : @LT.lt Nat _ inp L' := lt' _ (.head _)
  have lnl : @LT.lt Nat _ nl L' := lt' _ (.tail _ (.head _))
  have ldx : @LT.lt Nat _ dx L' := lt' _ (.tail _ (.tail _ (.head _)))
  have hne' : @Ne Nat nl dx := hne
  have hi1 : @Ne Nat inp nl := hni.1
  have hi2 : @Ne Nat inp dx := hni.2
  have k' : ∀ a bl tp ys n1 n2 ot ct' h' tk L m news, Fr g L h' m → News g L h' news → (nl, instObj 134 dx) ∈ news → (dx, dictOf (nlEs w.params k1 k2 k3 k4 k5 nm (cnt + c) ct' inp outp cel) 5) ∈ news → (a, LCg.lst ys) ∈ news → (bl, listOf ys.toArray n1) ∈ news → (tp, ot) ∈ news → ot = ({ cls := .type "tuple", data := .seq #[pn, .ref bl] } : Obj) → (inp, listOf #[.ref tp] n2) ∈ news →
      (a ≠ inp ∧ a ≠ nl ∧ a ≠ dx) → (bl ≠ inp ∧ bl ≠ nl ∧ bl ≠ dx) → (tp ≠ inp ∧ tp ≠ nl ∧ tp ≠ dx) → a ≠ bl → IntsAre ys ((List.range c).map fun (i : Nat) => cnt + (i : Int)) → R (.ok (.ret (.ref a))) { s with heap := h', toks := tk } := by
    intro a bl tp ys n1 n2 ot ct' h' tk L m news F N m1 m2 m3 m4 m5 e5 m6 q1 q2 q3 q4 hys
    have fr : ∀ a o, (a, o) ∈ news → a ≠ inp ∧ a ≠ nl ∧ a ≠ dx → s.heap.get? a = none := fun a o hm hn => by
      cases e : s.heap.get? a with
      | none => rfl
      | some o => have := (N _ hm).2.2; rw [old _ _ e (by simp; exact hn)] at this; cases this
    exact k a bl tp ys n1 n2 ot ct' h' tk (fr _ _ m3 q1) (fr _ _ m4 q2) (fr _ _ m5 q3) q4 (fun b o hb e => by
      by_cases p1 : b = nl
      · subst p1; rw [hnl] at e; cases e; exact N.get m1
      exact F.keep b o (old b o e (by simp at hb ⊢; exact ⟨hb.1, p1, hb.2⟩))) (N.get m2) (N.get m3) (N.get m4) (N.get m5) e5 (N.get m6) hys
  clear H G st' lt' k old back
  walk_at "GO"
  rename News _ _ _ _ => NN
  rename Fr _ _ _ _ => FF
  refine newnets_spec G' (At.of FF NN (by k_allIn)) (by dsimp only; omega) rfl (by dsimp only; omega) hne hc ?_
  intro a ys ct' h2 tk2 han kb hd hao hys
  have hL : ys.length = c := by rw [hys.length]; simp
  obtain ⟨F2, N3, off2⟩ := after_upd_new FF NN (by k_upd) kb hd han hao
  have off3 : (@Ne Nat inp a) ∧ (@Ne Nat nl a) ∧ (@Ne Nat dx a) := ⟨off2 (inp, listOf #[] 0) (by k_mem), off2 (nl, instObj 134 dx) (by k_mem), off2 (dx, _) (.tail _ (.tail _ (.head _)))⟩
  clear NN FF kb hd hao han off2 hne hni
  try dsimp only
  walk_at "GO"
  rename_i h9 tk9 bl n1 h8 l1 tp h7 F7 N7 l2 h6 F6 N6
  simp only [List.push_toArray, List.nil_append] at N6
  exact k' a bl tp ys _ _ _ ct' _ _ _ _ _ F6 N6 (by k_mem) (by k_mem) (by k_mem) (by k_mem) (by k_mem) rfl (by k_mem) ⟨Ne.symm off3.1, Ne.symm off3.2.1, Ne.symm off3.2.2⟩ ⟨Nat.ne_of_gt l1.2.1, Nat.ne_of_gt l1.2.2.1, Nat.ne_of_gt l1.2.2.2⟩ ⟨Nat.ne_of_gt l2.2.2.1, Nat.ne_of_gt l2.2.2.2.1, Nat.ne_of_gt l2.2.2.2.2⟩ (Nat.ne_of_lt l1.1) hys
theorem drive_spec {w : World} {A : Around} {s : Shared} {h₀ : Heap} {mean mg mb} {nl dx cel inp outp ia : Addr} {k1 k2 k3 k4 k5 ct tk0 to : Tok} {kd : Kind} {out : Int} {nm pv : Value} {cnt : Int} {cvs ivs : List Value} {cn : Nat} {R : Result → Shared → Prop}
    (G : Gd w mean mg mb h₀) (H : At h₀ s.heap [(cel, listOf cvs.toArray cn), (nl, instObj 134 dx), (dx, dictOf (nlEs w.params k1 k2 k3 k4 k5 nm cnt ct inp outp cel) 5)]) (hroom : A.depth < 600) (hh : A.handled = none) (hu : A.units < 1600)
    (hne : nl ≠ dx) (hni : cel ≠ nl ∧ cel ≠ dx) (hit : IsTup s.heap ia ivs.toArray) (hlc : cvs.length ≤ 100) 
    (k : ∀ tp cn' h' tk, s.heap.get? tp = none → KeepBut [cel] s.heap h' →
      h'.get? tp = some ({ cls := .type "tuple", data := .seq #[.str kd.str tk0, .int out to, .ref ia, pv] } : Obj) → h'.get? cel = some (listOf (cvs ++ [Value.ref tp]).toArray cn') → R (.ok (.ret .none)) { s with heap := h', toks := tk }) :
    codeAny (model PySem.Challenge.rw_on0104_01.row.prog w) A (.call (.ref 117) ⟨[.ref nl, .int out to, .str kd.str tk0, .ref ia, pv], []⟩) R s := by
  obtain ⟨hdl, dd, fr, gs, uu⟩ := A
  simp only at hh hroom hu
  subst hh
  refine' callD G H ?k6 ?k7 ?k8 ?k9 ?kB ?_ ?c2 ?c3 ?c4 ?c5
  case k6 => k_is
  case k7 => k_is
  case k8 => simp only [recursionLimit]; omega
  case k9 => exact kp_binds (G.X.keeps H.1) fun _ => rfl
  case c5 => decide
  case kB => exact locs rfl
  case c2 => exact rfl
  case c3 => exact rfl
  case c4 => exact rfl
  intro dd9 uu9 fr9 hdd9 huu9 g L' h₁ F' N' G' st' old lt' back
  show wpAny _ { handled := none, depth := dd9, frames := fr9, guards := gs, units := uu9 } _ _ _ _
  simp only at hdd9 huu9
  replace F' : Fr g L' h₁ (fun y => List.lookup y [(Str.ofString "param", pv), (Str.ofString "ins", Value.ref ia), (Str.ofString "kind", Value.str kd.str tk0), (Str.ofString "out", Value.int out to), (Str.ofString "self", Value.ref nl)]) := F'
  have X' : (Mine.hd.heap_1 w.params).In g := G'.X
  have T' := G'.T
  have lcel : @LT.lt Nat _ cel L' := lt' _ (.head _)
  have lnl : @LT.lt Nat _ nl L' := lt' _ (.tail _ (.head _))
  have ldx : @LT.lt Nat _ dx L' := lt' _ (.tail _ (.tail _ (.head _)))
  have hne' : @Ne Nat nl dx := hne
  have hi1 : @Ne Nat cel nl := hni.1
  have hi2 : @Ne Nat cel dx := hni.2
  have hnl := (H.2 _ (.tail _ (.head _))).1
  have hdx := (H.2 _ (.tail _ (.tail _ (.head _)))).1
  have hcel0 := (H.2 _ (.head _)).1
  have hit' : IsTup g ia ivs.toArray := tup_upto hit fun b o e hc => old _ _ e (by
    intro hb
    simp only [List.map_cons, List.map_nil, List.mem_cons, List.not_mem_nil, or_false] at hb
    rcases hb with rfl | rfl | rfl
    · rw [hcel0] at e; cases e; simp [W.listOf] at hc
    · rw [hnl] at e; cases e; simp at hc
    · rw [hdx] at e; cases e; simp at hc)
  have k' : ∀ tp cn' h' tk L m news, Fr g L h' m → News g L h' news → (nl, instObj 134 dx) ∈ news → (dx, dictOf (nlEs w.params k1 k2 k3 k4 k5 nm cnt ct inp outp cel) 5) ∈ news →
      (tp, ({ cls := .type "tuple", data := .seq #[.str kd.str tk0, .int out to, .ref ia, pv] } : Obj)) ∈ news → (cel, listOf (cvs ++ [Value.ref tp]).toArray cn') ∈ news → R (.ok (.ret .none)) { s with heap := h', toks := tk } := by
    intro tp cn' h' tk L m news F N m2 m3 m4 m6
    have fr : ∀ (a : Addr) vs, (a, ({ cls := .type "tuple", data := .seq vs } : Obj)) ∈ news → s.heap.get? a = none := fun a vs hm => by
      have ha := N.get hm
      cases e : s.heap.get? a with
      | none => rfl
      | some o =>
        have := (N _ hm).2.2
        rw [old _ _ e (by
          simp only [List.map_cons, List.map_nil, List.mem_cons, List.not_mem_nil, or_false]
          rintro (q | q | q)
          · subst q; rw [N.get m6] at ha; simp [W.listOf] at ha
          · subst q; rw [N.get m2] at ha; simp [instObj] at ha
          · subst q; rw [N.get m3] at ha; simp [dictOf] at ha)] at this
        cases this
    refine k tp cn' h' tk (fr _ _ m4) (fun b o hb e => ?_) (N.get m4) (N.get m6)
    by_cases p1 : b = nl
    · subst p1; rw [hnl] at e; cases e; exact N.get m2
    by_cases p2 : b = dx
    · subst p2; rw [hdx] at e; cases e; exact N.get m3
    exact F.keep b o (old b o e (by simp at hb ⊢; exact ⟨hb, p1, p2⟩))
  clear st' lt' hnl hdx hcel0 hit H G k old back
  walk_at "GO"
  rename News _ _ _ _ => N6
  rename Fr _ _ _ _ => F6
  try simp only [List.push_toArray] at N6
  exact k' _ _ _ _ _ _ _ F6 N6 (by k_mem) (by k_mem) (by k_mem) (by k_mem)
end
section
/-- the cells in the order in which the law draws them -/
def GenOK (c : Nat) (cs : List CellD) : Prop := ∀ i (h : i < cs.length), (cs[i]).out = (c : Int) + 2 + (i : Int) ∧ (∀ n ∈ (cs[i]).ins, 0 ≤ n ∧ n < (c : Int) + 2 + (i : Int)) ∧ cellArity (cs[i]).kind (cs[i]).ins.length ∧ 0 ≤ (cs[i]).tb
theorem GenOK.nil {c : Nat} : GenOK c [] := fun i h => by simp at h
theorem GenOK.snoc {c : Nat} {cs : List CellD} {x : CellD} (h : GenOK c cs) (h1 : x.out = (c : Int) + 2 + (cs.length : Int)) (h2 : ∀ n ∈ x.ins, 0 ≤ n ∧ n < (c : Int) + 2 + (cs.length : Int)) (h3 : cellArity x.kind x.ins.length) (h4 : 0 ≤ x.tb) : GenOK c (cs ++ [x]) := by
  intro i hi
  by_cases hl : i < cs.length
  · rw [List.getElem_append_left hl]; exact h i hl
  · have e : i = cs.length := by simp at hi; omega
    subst e
    rw [List.getElem_append_right (Nat.le_refl _)]
    simp only [Nat.sub_self, List.getElem_cons_zero]
    exact ⟨h1, h2, h3, h4⟩
theorem GenOK.get {c : Nat} {cs : List CellD} (h : GenOK c cs) {x : CellD} (hx : x ∈ cs) : ∃ i < cs.length, x.out = (c : Int) + 2 + (i : Int) ∧ (∀ n ∈ x.ins, 0 ≤ n ∧ n < (c : Int) + 2 + (i : Int)) ∧ cellArity x.kind x.ins.length ∧ 0 ≤ x.tb := by
  obtain ⟨i, hi, rfl⟩ := List.mem_iff_getElem.mp hx
  exact ⟨i, hi, h i hi⟩
theorem GenOK.nodup {c : Nat} {cs : List CellD} (h : GenOK c cs) : (cs.map (·.out)).Nodup := by
  rw [List.Nodup, List.pairwise_iff_getElem]
  intro i j hi hj hij
  simp only [List.length_map] at hi hj
  simp only [List.getElem_map]
  have h1 := (h i hi).1
  have h2 := (h j hj).1
  rw [h1, h2]; omega
theorem GenOK.net {c : Nat} {cs cs0 : List CellD} (h : GenOK c cs0) (p : cs.Perm cs0) (hl : cs0.length ≤ 100) (hc : c ≤ 10) : Net cs c := by
  have hm : ∀ x ∈ cs, x ∈ cs0 := fun x hx => p.mem_iff.mp hx
  refine ⟨by rw [p.length_eq]; exact hl, hc, fun i j hi hj e => ?_, fun x hx => ?_, fun x hx => ?_, fun x hx n hn => ?_⟩
  · have nd : (cs.map CellD.out).Nodup := (p.map CellD.out).nodup_iff.mpr h.nodup
    have hi' : i < (cs.map CellD.out).length := by simpa using hi
    have hj' : j < (cs.map CellD.out).length := by simpa using hj
    have e' : (cs.map CellD.out)[i] = (cs.map CellD.out)[j] := by simpa using e
    exact (List.getElem_inj nd).mp e'
  · obtain ⟨i, hi, e, _⟩ := h.get (hm x hx); omega
  · obtain ⟨i, hi, e, _, a, _⟩ := h.get (hm x hx); exact a
  · obtain ⟨i, hi, e, b, _⟩ := h.get (hm x hx); have := b n hn; omega
/-- the net is known after a part of the order -/
def Known (cs : List CellD) (c : Nat) (r : List Nat) (n : Int) : Prop := (0 ≤ n ∧ n < (c : Int) + 2) ∨ ∃ j ∈ r, ∃ h : j < cs.length, (cs[j]).out = n
theorem fold_known {cs cs0 : List CellD} {c : Nat} {dv : Int → Int} {V : List Int} (h : GenOK c cs0) (p : cs.Perm cs0) (hV : V.length = c + 2 + cs0.length)
    (hlow : ∀ n : Nat, n < c + 2 → V.getD n 0 = dv n) (hd : ∀ x ∈ cs0, dv x.out = cellVal x.kind x.tb (x.ins.map dv)) (r : List Nat) (hr : ∀ j ∈ r, j < cs.length)
    (ht : ∀ k (h : k < r.length), ∀ b ∈ deps cs (r[k]), b ∈ r.take k) :
    ∀ k, k ≤ r.length → ((castL (r.take k)).foldl (evalStep cs) V).length = V.length ∧ ∀ n : Int, Known cs c (r.take k) n → ((castL (r.take k)).foldl (evalStep cs) V).getD n.toNat 0 = dv n := by
  intro k
  induction k with
  | zero =>
    intro _
    refine ⟨rfl, fun n hn => ?_⟩
    rcases hn with ⟨h0, h1⟩ | ⟨j, hj, _⟩
    · have := hlow n.toNat (by omega)
      rw [Int.toNat_of_nonneg h0] at this
      exact this
    · simp at hj
  | succ k ih =>
    intro hk
    obtain ⟨i1, i2⟩ := ih (by omega)
    have hkl : k < r.length := by omega
    have hj : r[k] < cs.length := hr _ (List.getElem_mem hkl)
    have hmem : cs[r[k]] ∈ cs0 := p.mem_iff.mp (List.getElem_mem hj)
    obtain ⟨i, hi, e1, e2, _⟩ := h.get hmem
    have hst : castL (r.take (k + 1)) = castL (r.take k) ++ [((r[k] : Nat) : Int)] := by
      rw [List.take_add_one, List.getElem?_eq_getElem hkl, castL, List.map_append]; rfl
    rw [hst, List.foldl_append, List.foldl_cons, List.foldl_nil]
    generalize hW : (castL (r.take k)).foldl (evalStep cs) V = W at i1 i2
    have hins : (cs[r[k]]).ins.map (fun n => W.getD n.toNat 0) = (cs[r[k]]).ins.map dv := by
      refine List.map_congr_left fun n hn => i2 n ?_
      obtain ⟨n0, n1⟩ := e2 n hn
      by_cases hlo : n < (c : Int) + 2
      · exact .inl ⟨n0, hlo⟩
      · right
        have hq : (n - ((c : Int) + 2)).toNat < cs0.length := by omega
        have ho := (h _ hq).1
        have hm2 : cs0[(n - ((c : Int) + 2)).toNat] ∈ cs := p.mem_iff.mpr (List.getElem_mem hq)
        cases hdv : drvOf cs n with
        | none => exact absurd (by rw [ho]; omega) (drvOf_none hdv _ hm2)
        | some b =>
          obtain ⟨hb, hbo⟩ := drvOf_some hdv
          refine ⟨b, ht k hkl b ?_, hb, hbo⟩
          unfold deps
          rw [List.getElem?_eq_getElem hj]
          exact List.mem_filterMap.mpr ⟨n, hn, hdv⟩
    have hstep : evalStep cs W ((r[k] : Nat) : Int) = W.set (cs[r[k]]).out.toNat (dv (cs[r[k]]).out) := by
      unfold evalStep
      rw [Int.toNat_natCast, List.getElem?_eq_getElem hj]
      show W.set _ _ = _
      rw [hins, hd _ hmem]
    rw [hstep]
    refine ⟨by rw [List.length_set]; exact i1, fun n hn => ?_⟩
    have hol : (cs[r[k]]).out.toNat < W.length := by rw [i1, hV]; omega
    have hn0 : 0 ≤ n := by
      rcases hn with ⟨a, _⟩ | ⟨j, hj, hjl, e⟩
      · exact a
      · obtain ⟨i', _, e', _⟩ := h.get (p.mem_iff.mp (List.getElem_mem hjl)); omega
    by_cases hno : n = (cs[r[k]]).out
    · rw [← hno] at hol ⊢
      rw [List.getD_eq_getElem?_getD, List.getElem?_set_self hol]; rfl
    · rw [List.getD_eq_getElem?_getD, List.getElem?_set_ne (by omega), ← List.getD_eq_getElem?_getD]
      refine i2 n ?_
      rcases hn with a | ⟨j, hj, hjl, e⟩
      · exact .inl a
      · right
        rw [List.take_add_one, List.getElem?_eq_getElem hkl] at hj
        rcases List.mem_append.mp hj with q | q
        · exact ⟨j, q, hjl, e⟩
        · simp at q; subst q; exact absurd e.symm hno
theorem fold_due {cs cs0 : List CellD} {c : Nat} {dv : Int → Int} {V : List Int} (h : GenOK c cs0) (p : cs.Perm cs0) (hV : V.length = c + 2 + cs0.length)
    (hlow : ∀ n : Nat, n < c + 2 → V.getD n 0 = dv n) (hd : ∀ x ∈ cs0, dv x.out = cellVal x.kind x.tb (x.ins.map dv)) (r : List Nat) (hr : ∀ j, j ∈ r ↔ j < cs.length)
    (ht : ∀ k (h : k < r.length), ∀ b ∈ deps cs (r[k]), b ∈ r.take k) :
    ((castL r).foldl (evalStep cs) V).length = V.length ∧ ∀ n : Nat, n < c + 2 + cs0.length → ((castL r).foldl (evalStep cs) V).getD n 0 = dv n := by
  obtain ⟨a, b⟩ := fold_known h p hV hlow hd r (fun j hj => (hr j).mp hj) ht r.length (Nat.le_refl _)
  rw [List.take_length] at a b
  refine ⟨a, fun n hn => ?_⟩
  have := b n ?_
  · rwa [Int.toNat_natCast] at this
  · by_cases hlo : n < c + 2
    · exact .inl ⟨by omega, by omega⟩
    · right
      have hq : n - (c + 2) < cs0.length := by omega
      have ho := (h _ hq).1
      have hm2 : cs0[n - (c + 2)] ∈ cs := p.mem_iff.mpr (List.getElem_mem hq)
      obtain ⟨j, hj, e⟩ := List.mem_iff_getElem.mp hm2
      exact ⟨j, (hr j).mpr hj, hj, by rw [e, ho]; omega⟩
/-- all values, once more -/
theorem fold_all {cs cs0 : List CellD} {c : Nat} {dv : Int → Int} {V : List Int} (h : GenOK c cs0) (p : cs.Perm cs0) (hV : V.length = c + 2 + cs0.length)
    (hlow : ∀ n : Nat, n < c + 2 → V.getD n 0 = dv n) (hd : ∀ x ∈ cs0, dv x.out = cellVal x.kind x.tb (x.ins.map dv)) (r : List Nat) (hr : ∀ j, j ∈ r ↔ j < cs.length)
    (ht : ∀ k (h : k < r.length), ∀ b ∈ deps cs (r[k]), b ∈ r.take k) : (castL r).foldl (evalStep cs) V = (List.range (c + 2 + cs0.length)).map fun (n : Nat) => dv n := by
  obtain ⟨a, b⟩ := fold_due h p hV hlow hd r hr ht
  refine List.ext_getElem (by simp [a, hV]) fun i h1 h2 => ?_
  simp only [List.length_map, List.length_range] at h2
  have := b i h2
  rw [List.getD_eq_getElem?_getD, List.getElem?_eq_getElem h1] at this
  simpa using this
end
section
def TupO (its : Array Value) : Obj := { cls := .type "tuple", data := .seq its }
/-- a tuple among the made ones -/
def InCL (CL : List (Addr × Obj)) (a : Addr) (its : Array Value) : Prop := (a, TupO its) ∈ CL
theorem InCL.mono {CL CL' : List (Addr × Obj)} (h : ∀ p ∈ CL, p ∈ CL') : ∀ a its, InCL CL a its → InCL CL' a its := fun _ _ x => h _ x
theorem InCL.tup {CL news : List (Addr × Obj)} {g h : Heap} {L a : Addr} {its : Array Value} (x : InCL CL a its) (N : News g L h news) (hs : ∀ p ∈ CL, p ∈ news) : IsTup h a its := ⟨_, (N _ (hs _ x)).1, rfl, _, rfl⟩
/-- an entry of the law's rows -/
def RowP (T : Addr → Array Value → Prop) (kv : Int × Value) (c : CellD) : Prop :=
  ∃ a t ia tv ivs, kv = (c.out, .ref a) ∧ T a #[.str c.kind.str t, .ref ia, tv] ∧ T ia ivs.toArray ∧ IntsAre ivs c.ins ∧ IsNoneOr c.kind c.tb tv
theorem RowP.mono {T T' : Addr → Array Value → Prop} {v : Int × Value} {c : CellD} (x : RowP T v c) (m : ∀ a its, T a its → T' a its) : RowP T' v c := by
  obtain ⟨a, t, ia, tv, ivs, e, ht, hi, hn, hp⟩ := x
  exact ⟨a, t, ia, tv, ivs, e, m _ _ ht, m _ _ hi, hn, hp⟩
/-- an entry of the law's waiting list -/
def WaitP (T : Addr → Array Value → Prop) (v : Value) (c : CellD) : Prop :=
  ∃ a t1 t2 ia p ivs, v = .ref a ∧ T a #[.int c.out t1, .str c.kind.str t2, .ref ia, p] ∧ T ia ivs.toArray ∧ IntsAre ivs c.ins ∧ ParamP T c.kind c.tb p
theorem WaitP.mono {T T' : Addr → Array Value → Prop} {v : Value} {c : CellD} (x : WaitP T v c) (m : ∀ a its, T a its → T' a its) : WaitP T' v c := by
  obtain ⟨a, t1, t2, ia, p, ivs, e, ht, hi, hn, hp⟩ := x
  exact ⟨a, t1, t2, ia, p, ivs, e, m _ _ ht, m _ _ hi, hn, hp.mono m⟩
/-- two lists, entry by entry -/
inductive Each {α β : Type} (P : α → β → Prop) : List α → List β → Prop
  | nil : Each P [] []
  | cons {a b as bs} : P a b → Each P as bs → Each P (a :: as) (b :: bs)
section
variable {α β : Type} {P P' : α → β → Prop}
theorem Each.length {as : List α} {bs : List β} (h : Each P as bs) : as.length = bs.length := by
  induction h with
  | nil => rfl
  | cons _ _ ih => simp [ih]
theorem Each.mono {as : List α} {bs : List β} (h : Each P as bs) (m : ∀ a b, P a b → P' a b) : Each P' as bs := by
  induction h with
  | nil => exact .nil
  | cons p _ ih => exact .cons (m _ _ p) ih
theorem Each.append {as as' : List α} {bs bs' : List β} (h : Each P as bs) (h' : Each P as' bs') : Each P (as ++ as') (bs ++ bs') := by
  induction h with
  | nil => exact h'
  | cons p _ ih => exact .cons p ih
theorem Each.snoc {as : List α} {bs : List β} {a : α} {b : β} (h : Each P as bs) (p : P a b) : Each P (as ++ [a]) (bs ++ [b]) := h.append (.cons p .nil)
theorem Each.get {as : List α} {bs : List β} (h : Each P as bs) : ∀ i (hi : i < bs.length), ∃ a, as[i]? = some a ∧ P a bs[i] := by
  induction h with
  | nil => intro i hi; simp at hi
  | cons p _ ih =>
    intro i hi
    cases i with
    | zero => exact ⟨_, rfl, p⟩
    | succ i => exact ih i (by simpa using hi)
theorem Each.eraseIdx {as : List α} {bs : List β} (h : Each P as bs) : ∀ i, Each P (as.eraseIdx i) (bs.eraseIdx i) := by
  induction h with
  | nil => intro i; exact .nil
  | cons p h ih =>
    intro i
    cases i with
    | zero => exact h
    | succ i => exact .cons p (ih i)
end
/-- taking one out of the waiting and putting it at the end of the cells keeps the whole -/
theorem perm_pop {α : Type} {cs ws l : List α} {i : Nat} (hi : i < ws.length) (h : (cs ++ ws).Perm l) : ((cs ++ [ws[i]]) ++ ws.eraseIdx i).Perm l := by
  refine List.Perm.trans ?_ h
  rw [List.append_assoc]
  refine List.Perm.append_left _ ?_
  have h1 : ws = ws.take i ++ ws[i] :: ws.drop (i + 1) := by simp
  have h2 : ws.eraseIdx i = ws.take i ++ ws.drop (i + 1) := List.eraseIdx_eq_take_drop_succ ..
  rw [h2]
  conv => rhs; rw [h1]
  rw [List.singleton_append]
  exact (List.perm_middle).symm
end
section
theorem ints_of_at {prog : Program} {w : World} : ∀ {kvs : List (Int × Value)} {vs : List Value}, vs.length = kvs.length → (∀ (j : Nat) (v : Value), vs[j]? = some v → ∃ k x, kvs[j]? = some (k, x) ∧ (intKind prog w).is k v = true) → IntsAre vs (kvs.map (·.1))
  | [], [], _, _ => .nil
  | [], _ :: _, e, _ => by simp at e
  | _ :: _, [], e, _ => by simp at e
  | (k, x) :: kvs, v :: vs, e, h => by
    obtain ⟨k', x', h1, h2⟩ := h 0 v rfl
    cases h1
    obtain ⟨t, rfl⟩ := Value.isInt_shape h2
    exact .cons k t (ints_of_at (by simpa using e) fun j v hv => h (j + 1) v hv)
theorem sorted_dict {prog : Program} {w : World} {A : Around} {E : Value → Shared → Prop} {s : Shared} {h₀ : Heap} {L d : Addr} {m : Str → Option Value} {news : List (Addr × Obj)} {o : Obj} {kvs : List (Int × Value)} {Q : Value → Shared → Prop}
    (hh : A.handled = none) (F : Fr h₀ L s.heap m) (N : News h₀ L s.heap news) (hm : (d, o) ∈ news) (hd : o.IsDictOf (intKind prog w) kvs) (lo : (d == sysModules) = false) (hn : kvs.length < 60)
    (h : ∀ D vs ks c h' tk, Fr h₀ L h' m → News h₀ L h' ((D, W.listOf (List.toArray vs) c) :: news) → (∀ q ∈ news, q.1 < D) → IntsAre vs ks → ks.Perm (kvs.map (·.1)) → ks.Pairwise (· ≤ ·) → Q (.ref D) { s with heap := h', toks := tk }) :
    wpAny (model prog w) A (call (.builtin "sorted") [.ref d]) Q E s := by
  have hD : s.heap.DictOf (intKind prog w) d kvs := Heap.dictOf_iff.mpr ⟨o, (N _ hm).1, hd⟩
  obtain ⟨ep, hat⟩ := hD.dictAt
  refine kdu_sorted (kdl_dict (knd := intKind prog w) (kvs := kvs) (ep := ep) lo) hh F N hat (by rw [sizeLine_eq]; omega) fun B h' tk vs F' N' l1 hl hv => ?_
  have hi : IntsAre vs (kvs.map (·.1)) := ints_of_at hl hv
  have z := N' (B, W.listOf vs.toArray 0) (.head _)
  have ho : h'.get? B = some (seqObj "list" vs.toArray 0) := z.1
  refine wpAny_call_entry PyProof.Rows.slot_list_sort ⟨_, z.1, rfl⟩ PyProof.Rows.entry_list_sort (list_sort_tree (n := 0) (vs := vs) ho hi (by omega) fun out ns' hI hp hP => ⟨.none, rfl, ?_⟩) (PyProof.Rows.args_list_sort _)
  have F1 : Fr h₀ L (sortedHeap h' B vs out) m :=
    (((F'.change (Heap.SameBut.update ..) z.2.1 z.2.2).push (seqObj "tuple" vs.toArray 0)).push (seqObj "list" #[] 0)).change (Heap.SameBut.update ..) z.2.1 z.2.2
  have hlt : B < h'.objs.size := Heap.lt_size ho
  obtain ⟨e1, ho1⟩ : ∃ e1, (h'.update B (Obj.mapSeq fun _ => #[])).get? B = some (seqObj "list" #[] e1) := ⟨_, get?_update_seq ho (fun _ => #[])⟩
  have ho2 : (((h'.update B (Obj.mapSeq fun _ => #[])).push (seqObj "tuple" vs.toArray 0)).push (seqObj "list" #[] 0)).get? B = some (seqObj "list" #[] e1) :=
    Heap.get?_push_of_some _ (Heap.get?_push_of_some _ ho1)
  obtain ⟨e2, ho3⟩ : ∃ e2, (sortedHeap h' B vs out).get? B = some (seqObj "list" out e2) := ⟨_, get?_update_seq ho2 (fun _ => out)⟩
  refine h B out.toList ns' e2 _ _ F1 (fun p hp => ?_) l1 hI hp hP
  rcases List.mem_cons.mp hp with rfl | hp
  · exact ⟨by rw [Array.toArray_toList]; exact ho3, z.2⟩
  · have hne : p.1 ≠ B := Nat.ne_of_lt (l1 p hp)
    refine ⟨?_, (N' p (.tail _ hp)).2⟩
    exact (Heap.get?_update_ne _ _ _ _ hne).trans (Heap.get?_push_of_some _ (Heap.get?_push_of_some _ ((Heap.get?_update_ne _ _ _ _ hne).trans (N' p (.tail _ hp)).1)))
/-- the keys of a dict that stands ascending are their own sorted list -/
theorem keys_same {ks l : List Int} (p : ks.Perm l) (h : ks.Pairwise (· ≤ ·)) (hl : l.Pairwise (· < ·)) : ks = l := lks_uniq p h (hl.imp fun h => Int.le_of_lt h)
end
section
def dueStep (L : List Int) (x : CellD) : List Int := L ++ [cellVal x.kind x.tb (x.ins.map fun n => L.getD n.toNat 0)]
/-- the due values, out by out -/
def dueL (base : List Int) (cs : List CellD) : List Int := cs.foldl dueStep base
theorem dueL_snoc (base : List Int) (cs : List CellD) (x : CellD) : dueL base (cs ++ [x]) = dueStep (dueL base cs) x := by simp [dueL]
theorem dueL_append (base : List Int) (cs cs' : List CellD) : dueL base (cs ++ cs') = dueL (dueL base cs) cs' := by simp [dueL]
theorem dueL_pre : ∀ (cs : List CellD) (base : List Int), ∃ l, dueL base cs = base ++ l ∧ l.length = cs.length
  | [], base => ⟨[], by simp [dueL], rfl⟩
  | x :: cs, base => by
    obtain ⟨l, e, hl⟩ := dueL_pre cs (dueStep base x)
    refine ⟨cellVal x.kind x.tb (x.ins.map fun n => base.getD n.toNat 0) :: l, ?_, by rw [List.length_cons, List.length_cons, hl]⟩
    show dueL (dueStep base x) cs = _
    rw [e, dueStep, List.append_assoc]; rfl
theorem dueL_length (base : List Int) (cs : List CellD) : (dueL base cs).length = base.length + cs.length := by
  obtain ⟨l, e, hl⟩ := dueL_pre cs base
  rw [e, List.length_append, hl]
theorem dueL_get (base : List Int) (cs cs' : List CellD) {n : Nat} (h : n < base.length + cs.length) : (dueL base (cs ++ cs')).getD n 0 = (dueL base cs).getD n 0 := by
  rw [dueL_append]
  obtain ⟨l, e, hl⟩ := dueL_pre cs' (dueL base cs)
  rw [e, List.getD_eq_getElem?_getD, List.getD_eq_getElem?_getD, List.getElem?_append_left (by rw [dueL_length]; exact h)]
theorem dueL_take (base : List Int) (cs : List CellD) (k : Nat) {n : Nat} (h : n < base.length + k) (hk : k ≤ cs.length) : (dueL base cs).getD n 0 = (dueL base (cs.take k)).getD n 0 := by
  have := dueL_get base (cs.take k) (cs.drop k) (n := n) (by rw [List.length_take]; omega)
  rwa [List.take_append_drop] at this
def dvL (base : List Int) (cs : List CellD) (n : Int) : Int := (dueL base cs).getD n.toNat 0
theorem dvL_low (base : List Int) (cs : List CellD) {n : Nat} (h : n < base.length) : dvL base cs n = base.getD n 0 := by
  have := dueL_take base cs 0 (n := n) (by omega) (by omega)
  rw [dvL, Int.toNat_natCast, this]; rfl
theorem dvL_out {c : Nat} {base : List Int} {cs : List CellD} (h : GenOK c cs) (hb : base.length = c + 2) {x : CellD} (hx : x ∈ cs) : dvL base cs x.out = cellVal x.kind x.tb (x.ins.map (dvL base cs)) := by
  obtain ⟨i, hi, rfl⟩ := List.mem_iff_getElem.mp hx
  obtain ⟨h1, h2, _⟩ := h i hi
  have e0 : (cs[i]).out.toNat = c + 2 + i := by omega
  rw [dvL, e0, dueL_take base cs (i + 1) (by omega) (by omega), List.take_add_one, List.getElem?_eq_getElem hi, Option.toList_some, dueL_snoc, dueStep]
  have el : (dueL base (cs.take i)).length = c + 2 + i := by rw [dueL_length, hb, List.length_take]; omega
  rw [List.getD_eq_getElem?_getD, List.getElem?_append_right (by omega), el, Nat.sub_self]
  simp only [List.getElem?_cons_zero, Option.getD_some]
  congr 1
  refine List.map_congr_left fun n hn => ?_
  have := h2 n hn
  rw [dvL, dueL_take base cs i (n := n.toNat) (by omega) (by omega)]
theorem dueL_01 {c : Nat} {base : List Int} : ∀ {cs : List CellD}, GenOK c cs → base.length = c + 2 → (∀ v ∈ base, v = 0 ∨ v = 1) → ∀ v ∈ dueL base cs, v = 0 ∨ v = 1 := by
  intro cs h hb h01
  have key : ∀ k, k ≤ cs.length → ∀ v ∈ dueL base (cs.take k), v = 0 ∨ v = 1 := by
    intro k
    induction k with
    | zero => intro _ v hv; exact h01 v (by simpa [dueL] using hv)
    | succ k ih =>
      intro hk v hv
      have hk' : k < cs.length := by omega
      rw [List.take_add_one, List.getElem?_eq_getElem hk', Option.toList_some, dueL_snoc, dueStep] at hv
      rcases List.mem_append.mp hv with q | q
      · exact ih (by omega) v q
      · rw [List.mem_singleton.mp q]
        obtain ⟨h1, h2, h3, h4⟩ := h k hk'
        refine cellVal_01 (by rw [List.length_map]; exact h3) fun b hb2 => ?_
        obtain ⟨n, hn, rfl⟩ := List.mem_map.mp hb2
        have := h2 n hn
        have hl : n.toNat < (dueL base (cs.take k)).length := by rw [dueL_length, hb, List.length_take]; omega
        rw [List.getD_eq_getElem?_getD, List.getElem?_eq_getElem hl]
        exact ih (by omega) _ (List.getElem_mem hl)
  have := key cs.length (Nat.le_refl _)
  rwa [List.take_length] at this
theorem dvL_01 {c : Nat} {base : List Int} {cs : List CellD} (h : GenOK c cs) (hb : base.length = c + 2) (h01 : ∀ v ∈ base, v = 0 ∨ v = 1) (n : Int) : dvL base cs n = 0 ∨ dvL base cs n = 1 := by
  by_cases hl : n.toNat < (dueL base cs).length
  · rw [dvL, List.getD_eq_getElem?_getD, List.getElem?_eq_getElem hl]
    exact dueL_01 h hb h01 _ (List.getElem_mem hl)
  · left
    rw [dvL, List.getD_eq_getElem?_getD, List.getElem?_eq_none (by omega)]; rfl
theorem rows_outs {T : Addr → Array Value → Prop} {kvs : List (Int × Value)} {cs : List CellD} (h : Each (RowP T) kvs cs) : kvs.map (·.1) = cs.map (·.out) := by
  induction h with
  | nil => rfl
  | cons p _ ih =>
    obtain ⟨a, t, ia, tv, ivs, rfl, _⟩ := p
    simp [ih]
theorem outs_eq {c : Nat} {cs : List CellD} (h : GenOK c cs) : cs.map (·.out) = (List.range cs.length).map fun (i : Nat) => (c : Int) + 2 + (i : Int) := by
  refine List.ext_getElem (by simp) fun i h1 h2 => ?_
  simp only [List.length_map] at h1
  simp only [List.getElem_map, List.getElem_range]
  exact (h i h1).1
theorem outs_asc {c : Nat} {cs : List CellD} (h : GenOK c cs) : (cs.map (·.out)).Pairwise (· < ·) := by
  rw [List.pairwise_iff_getElem]
  intro i j hi hj hij
  simp only [List.length_map] at hi hj
  simp only [List.getElem_map]
  rw [(h i hi).1, (h j hj).1]; omega
/-- the known nets, before a cell is drawn -/
theorem known_bounds {c : Nat} {cs : List CellD} (h : GenOK c cs) : (([0, 1] ++ (List.range c).map (fun (i : Nat) => (2 : Int) + (i : Int))) ++ cs.map (fun (x : CellD) => x.out)).length = c + 2 + cs.length ∧
    ∀ n ∈ ([0, 1] ++ (List.range c).map (fun (i : Nat) => (2 : Int) + (i : Int))) ++ cs.map (fun (x : CellD) => x.out), 0 ≤ n ∧ n < (c : Int) + 2 + (cs.length : Int) := by
  refine ⟨by simp; omega, fun n hn => ?_⟩
  rcases List.mem_append.mp hn with q | q
  · rcases List.mem_append.mp q with q | q
    · simp at q; omega
    · obtain ⟨i, hi, rfl⟩ := List.mem_map.mp q
      have := List.mem_range.mp hi
      omega
  · obtain ⟨x, hx, rfl⟩ := List.mem_map.mp q
    obtain ⟨i, hi, e, _⟩ := h.get hx
    omega
theorem sorted_order {ks : List Int} {r : List Nat} {n : Nat} (p : ks.Perm (castL r)) (hs : ks.Pairwise (· ≤ ·)) (nd : r.Nodup) (hr : ∀ j, j ∈ r ↔ j < n) : ks = castL (List.range n) := by
  have p2 : r.Perm (List.range n) := (List.perm_ext_iff_of_nodup nd List.nodup_range).mpr fun j => by rw [hr, List.mem_range]
  refine lks_uniq (p.trans (p2.map _)) hs ?_
  rw [List.pairwise_iff_getElem]
  intro i j hi hj hij
  simp [castL]; omega
end
section
structure Bnd (v m : Int) : Prop where
  lo : 0 ≤ v
  hi : v < m
def NEq (a b : Nat) : Prop := a ≠ b
theorem NEq.symm {a b : Nat} (h : NEq a b) : NEq b a := fun e => h e.symm
theorem NEq.ne {a b : Nat} (h : NEq a b) : a ≠ b := h
theorem upd_mem {d : Addr} {o o' : Obj} {news news' : List (Addr × Obj)} (U : Upd d o o' news news') : (d, o) ∈ news ∧ (d, o') ∈ news' ∧ ∀ p ∈ news', p = (d, o') ∨ (p ∈ news ∧ p.1 ≠ d) := by
  obtain ⟨pre, post, rfl, rfl, a, b⟩ := U.split
  refine ⟨by simp, by simp, fun p hp => ?_⟩
  rcases List.mem_append.mp hp with q | q
  · exact .inr ⟨List.mem_append_left _ q, a p q⟩
  · rcases List.mem_cons.mp q with rfl | q
    · exact .inl rfl
    · exact .inr ⟨List.mem_append_right _ (List.mem_cons_of_mem _ q), b p q⟩
theorem after_upd2 {g h h' : Heap} {L d d2 : Addr} {m : Str → Option Value} {o o' o2 o2' : Obj} {news news1 news2 : List (Addr × Obj)} (F : Fr g L h m) (N : News g L h news) (U : Upd d o o' news news1) (U2 : Upd d2 o2 o2' news1 news2) (hdd : d ≠ d2)
    (k : KeepBut [d, d2] h h') (e : h'.get? d = some o') (e2 : h'.get? d2 = some o2') : Fr g L h' m ∧ News g L h' news2 := by
  obtain ⟨u1, u2, u3⟩ := upd_mem U
  obtain ⟨v1, v2, v3⟩ := upd_mem U2
  have D := N _ u1
  have D2 : (d2 ≠ L) ∧ g.get? d2 = none := by
    rcases u3 _ v1 with q | ⟨q, _⟩
    · cases q; exact absurd rfl hdd
    · exact (N _ q).2
  refine ⟨Fr.after F k (by simp; exact ⟨fun q => D.2.1 q.symm, fun q => D2.1 q.symm⟩) (by simp; exact ⟨D.2.2, D2.2⟩), fun p hp => ?_⟩
  rcases v3 p hp with rfl | ⟨q, n2⟩
  · exact ⟨e2, D2⟩
  · rcases u3 p q with rfl | ⟨q, n1⟩
    · exact ⟨e, D.2⟩
    · exact ⟨k _ _ (by simp; exact ⟨n1, n2⟩) (N p q).1, (N p q).2⟩
theorem news_add {g h h' : Heap} {L a : Addr} {m : Str → Option Value} {o : Obj} {news news' : List (Addr × Obj)} (F : Fr g L h m) (N : News g L h news) (N' : News g L h' news') (hn : h.get? a = none) (ha : h'.get? a = some o) :
    News g L h' ((a, o) :: news') ∧ ∀ p ∈ news, NEq p.1 a := by
  refine ⟨fun p hp => ?_, fun p hp q => ?_⟩
  · rcases List.mem_cons.mp hp with rfl | hp
    · refine ⟨ha, fun q => ?_, ?_⟩
      · obtain ⟨oL, _, _, hL, _⟩ := F.ns
        have q' : a = L := q
        rw [q', hL] at hn; cases hn
      · cases e : g.get? a with
        | none => rfl
        | some o' => rw [F.keep _ _ e] at hn; cases hn
    · exact N' p hp
  · have q' : p.1 = a := q
    rw [← q', (N p hp).1] at hn; cases hn
theorem islist_of {g h : Heap} {L a : Addr} {news : List (Addr × Obj)} {vs : Array Value} {n : Nat} (N : News g L h news) (hm : (a, listOf vs n) ∈ news) : h.IsList a vs := ⟨_, (N _ hm).1, rfl, _, rfl⟩
theorem wp_stop {M : Model} {A : Around} {α : Type} {x : Sem α} {Q : α → Shared → Prop} {E : Value → Shared → Prop} {s : Shared} (h : Stop (wpAny M A x Q E s)) : wpAny M A x Q E s := h
end
section
def kinds11 (tk : Nat) : List Value := [Value.str (Str.ofString "buf") tk, Value.str (Str.ofString "not") (tk + 1),
            Value.str (Str.ofString "and") (tk + 1 + 1), Value.str (Str.ofString "or") (tk + 1 + 1 + 1),
            Value.str (Str.ofString "xor") (tk + 1 + 1 + 1 + 1),
            Value.str (Str.ofString "mux") (tk + 1 + 1 + 1 + 1 + 1),
            Value.str (Str.ofString "nand") (tk + 1 + 1 + 1 + 1 + 1 + 1),
            Value.str (Str.ofString "nor") (tk + 1 + 1 + 1 + 1 + 1 + 1 + 1),
            Value.str (Str.ofString "xnor") (tk + 1 + 1 + 1 + 1 + 1 + 1 + 1 + 1),
            Value.str (Str.ofString "lut") (tk + 1 + 1 + 1 + 1 + 1 + 1 + 1 + 1 + 1),
            Value.str (Str.ofString "cell") (tk + 1 + 1 + 1 + 1 + 1 + 1 + 1 + 1 + 1 + 1)]
theorem kinds_at {v : Int} (tk : Nat) (h0 : 0 ≤ v) (h1 : v < 11) : ∃ kd tkd, (kinds11 tk)[v.toNat]? = some (Value.str (Kind.str kd) tkd) := by
  obtain ⟨n, rfl⟩ : ∃ n : Nat, v = (n : Int) := ⟨v.toNat, by omega⟩
  rw [Int.toNat_natCast]
  have hn : n < 11 := by omega
  clear h0 h1
  match n, hn with
  | 0, _ => exact ⟨.buf, _, rfl⟩
  | 1, _ => exact ⟨.not, _, rfl⟩
  | 2, _ => exact ⟨.and, _, rfl⟩
  | 3, _ => exact ⟨.or, _, rfl⟩
  | 4, _ => exact ⟨.xor, _, rfl⟩
  | 5, _ => exact ⟨.mux, _, rfl⟩
  | 6, _ => exact ⟨.nand, _, rfl⟩
  | 7, _ => exact ⟨.nor, _, rfl⟩
  | 8, _ => exact ⟨.xnor, _, rfl⟩
  | 9, _ => exact ⟨.lut, _, rfl⟩
  | 10, _ => exact ⟨.cell, _, rfl⟩
section
variable {M : Model} {A : Around} {E : Value → Shared → Prop} {s : Shared} {env : Env} {Q : Flow → Shared → Prop}
/-- three statements, cut off by what holds behind them -/
theorem cut3 {a b c : Stmt} {post : List Stmt} (P : Shared → Prop)
    (h1 : wpAny M A (exec a env) (fun f s1 => match f with
      | .next => wpAny M A (exec b env) (fun f s2 => match f with
        | .next => wpAny M A (exec c env) (fun f s3 => match f with | .next => P s3 | _ => False) E s2
        | _ => False) E s1
      | _ => False) E s)
    (h2 : ∀ s', P s' → wpAny M A (execs post env) Q E s') : wpAny M A (execs (a :: b :: c :: post) env) Q E s := by
  refine wpAny_execs_cons (wpAny_mono h1 (fun f s1 k1 => ?_) fun _ _ e => e)
  cases f with
  | next =>
    refine wpAny_execs_cons (wpAny_mono k1 (fun f s2 k2 => ?_) fun _ _ e => e)
    cases f with
    | next =>
      refine wpAny_execs_cons (wpAny_mono k2 (fun f s3 k3 => ?_) fun _ _ e => e)
      cases f with
      | next => exact h2 _ k3
      | _ => exact k3.elim
    | _ => exact k2.elim
  | _ => exact k1.elim
/-- one statement -/
theorem cut1 {a : Stmt} {post : List Stmt} (P : Shared → Prop)
    (h1 : wpAny M A (exec a env) (fun f s3 => match f with | .next => P s3 | _ => False) E s)
    (h2 : ∀ s', P s' → wpAny M A (execs post env) Q E s') : wpAny M A (execs (a :: post) env) Q E s := by
  refine wpAny_execs_cons (wpAny_mono h1 (fun f s3 k3 => ?_) fun _ _ e => e)
  cases f with
  | next => exact h2 _ k3
  | _ => exact k3.elim
end
/-- what holds behind the statements that choose wide and table -/
def WideP (g : Heap) (L : Addr) (m : Str → Option Value) (kd : Kind) (lo hi : Int) (s0 : Shared) (led : Int → Tok → Nat → List (Addr × Obj)) (s : Shared) : Prop :=
  ∃ h tk tw tv tb at' t' n' wd, s = { s0 with heap := h, toks := tk } ∧ Fr g L h (fun y => if y = Str.ofString "table" then some tv else if y = Str.ofString "wide" then some (.int ((wd : Nat) : Int) tw) else m y) ∧ News g L h (led at' t' n') ∧
    cellArity kd wd ∧ IsNoneOr kd tb tv ∧ 0 ≤ tb ∧ lo ≤ at' ∧ at' ≤ hi
theorem fr_two {g h : Heap} {L : Addr} {m : Str → Option Value} {a b : Str} {va va' vb vb' : Value} (F : Fr g L h (fun y => if y = a then some va else if y = b then some vb else if y = a then some va' else if y = b then some vb' else m y)) :
    Fr g L h (fun y => if y = a then some va else if y = b then some vb else m y) := by
  have e : (fun y => if y = a then some va else if y = b then some vb else if y = a then some va' else if y = b then some vb' else m y) = fun y => if y = a then some va else if y = b then some vb else m y := by
    funext y
    by_cases h1 : y = a
    · simp [h1]
    · by_cases h2 : y = b
      · subst h2; simp [h1]
      · simp [h1, h2]
  rw [e] at F; exact F
theorem WideP.intro {g : Heap} {L : Addr} {m : Str → Option Value} {kd : Kind} {lo hi : Int} {s0 : Shared} {led : Int → Tok → Nat → List (Addr × Obj)} {h : Heap} {tk : Nat} {tw : Tok} {tv : Value} {tb at' : Int} {t' : Tok} {n' wd : Nat} {news : List (Addr × Obj)}
    (F : Fr g L h (fun y => if y = Str.ofString "table" then some tv else if y = Str.ofString "wide" then some (.int ((wd : Nat) : Int) tw) else m y)) (N : News g L h news) (hs : ∀ p ∈ led at' t' n', p ∈ news)
    (ha : cellArity kd wd) (hp : IsNoneOr kd tb tv) (ht : 0 ≤ tb) (h1 : lo ≤ at') (h2 : at' ≤ hi) : WideP g L m kd lo hi s0 led { s0 with heap := h, toks := tk } :=
  ⟨h, tk, tw, tv, tb, at', t', n', wd, rfl, F, fun p hp => N p (hs p hp), ha, hp, ht, h1, h2⟩

theorem wide_cut {M : Model} {A : Around} {E : Value → Shared → Prop} {sh : Shared} {env : Env} {Q : Flow → Shared → Prop} {g : Heap} {L : Addr} {m : Str → Option Value} {a b c : Stmt} {post : List Stmt} (F : Fr g L sh.heap m) (kd : Kind) (lo hi : Int) (led : Int → Tok → Nat → List (Addr × Obj))
    (h1 : wpAny M A (exec a env) (fun f s1 => match f with
      | .next => wpAny M A (exec b env) (fun f s2 => match f with
        | .next => wpAny M A (exec c env) (fun f s3 => match f with | .next => WideP g L m kd lo hi sh led s3 | _ => False) E s2
        | _ => False) E s1
      | _ => False) E sh)
    (h2 : ∀ h tk tw tv tb at' t' n' wd, Fr g L h (fun y => if y = Str.ofString "table" then some tv else if y = Str.ofString "wide" then some (.int ((wd : Nat) : Int) tw) else m y) → News g L h (led at' t' n') →
      cellArity kd wd → IsNoneOr kd tb tv → 0 ≤ tb → lo ≤ at' → at' ≤ hi → wpAny M A (execs post env) Q E { sh with heap := h, toks := tk }) :
    wpAny M A (execs (a :: b :: c :: post) env) Q E sh :=
  cut3 (WideP g L m kd lo hi sh led) h1 fun s' ⟨h, tk, tw, tv, tb, at', t', n', wd, e, F, N, x1, x2, x3, x4, x5⟩ => e ▸ h2 h tk tw tv tb at' t' n' wd F N x1 x2 x3 x4 x5
theorem bnd3 {v : Int} (h : Bnd v 3) : v = 0 ∨ v = 1 ∨ v = 2 := by
  have := h.lo; have := h.hi; omega
theorem news_ne {g h : Heap} {L a b : Addr} {news : List (Addr × Obj)} {o o' : Obj} (N : News g L h news) (h1 : (a, o) ∈ news) (h2 : (b, o') ∈ news) (ho : o ≠ o') : NEq a b := by
  intro e
  have e' : a = b := e
  subst e'
  have x := (N _ h1).1
  have y := (N _ h2).1
  rw [x] at y
  exact ho (Option.some.inj y)
theorem dict_ne_tup {o : Obj} {its : Array Value} {prog : Program} {w : World} {kvs : List (Int × Value)} (h : o.IsDictOf (intKind prog w) kvs) : o ≠ TupO its := by
  rintro rfl
  obtain ⟨es, ep, _, h1, _⟩ := h
  cases h1
theorem cell_ne_tup {o : Obj} {its : Array Value} {ov : Option Value} (h : o.data = .cell ov) : o ≠ TupO its := by
  rintro rfl
  cases h
theorem list_ne_tup {vs its : Array Value} {n : Nat} : W.listOf vs n ≠ TupO its := fun h => by
  have := congrArg Obj.cls h
  simp [W.listOf, TupO] at this
theorem dictO_ne_tup {es : List DictEntry} {its : Array Value} {n : Nat} : dictOf es n ≠ TupO its := fun h => by
  have := congrArg Obj.cls h
  simp [dictOf, TupO] at this
end
section
def OffI (I : Addr) (l : List (Addr × Obj)) : Prop := ∀ p ∈ l, p.1 ≠ I
theorem OffI.build {I : Addr} {X X' T CL : List (Addr × Obj)} (h : OffI I (X ++ CL)) (e : X'.map (·.1) = X.map (·.1)) (hT : OffI I T) : OffI I (X' ++ (T ++ CL)) := by
  intro p hp
  rcases List.mem_append.mp hp with q | q
  · have : p.1 ∈ X.map (·.1) := e ▸ List.mem_map.mpr ⟨p, q, rfl⟩
    obtain ⟨p', hp', e'⟩ := List.mem_map.mp this
    rw [← e']
    exact h p' (List.mem_append_left _ hp')
  · rcases List.mem_append.mp q with q | q
    · exact hT p q
    · exact h p (List.mem_append_right _ q)
theorem allLt_I {d I : Addr} {oI : Obj} {CL : List (Addr × Obj)} (h : AllLt d (CL ++ [(I, oI)])) : d ≠ I := fun e =>
  allLt_mem h (I, oI) (List.mem_append_right _ (.head _)) e.symm
theorem OwnOff.cons {a : Addr} {o : Obj} {l : List (Addr × Obj)} {adr : List Addr} (h1 : ∀ b ∈ adr, a ≠ b) (h2 : OwnOff l adr) : OwnOff ((a, o) :: l) adr := by
  intro q hq b hb
  rcases List.mem_cons.mp hq with rfl | hq
  · exact h1 b hb
  · exact h2 q hq b hb
theorem above5 {a b1 b2 b3 b4 b5 : Nat} (h1 : b1 < a) (h2 : b2 < a) (h3 : b3 < a) (h4 : b4 < a) (h5 : b5 < a) : ∀ b ∈ [b1, b2, b3, b4, b5], a ≠ b := by
  intro b hb
  simp only [List.mem_cons, List.not_mem_nil, or_false] at hb
  rcases hb with rfl | rfl | rfl | rfl | rfl <;> omega
theorem param_lut {T : Addr → Array Value → Prop} {kd : Kind} {tb : Int} {tv : Value} (h : (kd.str == Str.ofString "lut") = true) (x : IsNoneOr kd tb tv) : ParamP T kd tb tv := by
  cases kd <;> first | exact x | exact absurd h (by decide)
theorem param_cell {T : Addr → Array Value → Prop} {kd : Kind} {tb : Int} {tv : Value} {pt : Addr} {s : Str} {t : Tok} (h : (kd.str == Str.ofString "cell") = true) (x : IsNoneOr kd tb tv) (hT : T pt #[.str s t, tv]) : ParamP T kd tb (.ref pt) := by
  cases kd <;> first | (obtain ⟨u, rfl⟩ := x; exact ⟨pt, s, t, u, rfl, hT⟩) | exact absurd h (by decide)
theorem param_none {T : Addr → Array Value → Prop} {kd : Kind} {tb : Int} (h : (kd.str == Str.ofString "lut") = false) (h2 : (kd.str == Str.ofString "cell") = false) : ParamP T kd tb .none := by
  cases kd <;> first | rfl | exact absurd h (by decide) | exact absurd h2 (by decide)
theorem valueAt_off {kvs : List (Int × Value)} {k : Int} (h : ∀ x ∈ kvs.map (·.1), x ≠ k) : valueAt kvs k = none := by
  induction kvs with
  | nil => rfl
  | cons a r ih =>
    obtain ⟨a1, a2⟩ := a
    rw [valueAt_cons, if_neg (h a1 (by simp))]
    exact ih fun x hx => h x (List.mem_cons_of_mem _ hx)
theorem build_step {prog : Program} {w : World} {c i : Nat} {cs0 : List CellD} {rkvs : List (Int × Value)} {ro' : Obj} {wvs : List Value} {CL CL' : List (Addr × Obj)} {x : CellD} {rt wt : Addr}
    (hgen : GenOK c cs0) (hlc : cs0.length = i) (hro : ro'.IsDictOf (intKind prog w) (stored rkvs x.out (.ref rt))) (hrw : Each (RowP (InCL CL)) rkvs cs0) (hwt : Each (WaitP (InCL CL)) wvs cs0) (hsub : ∀ p ∈ CL, p ∈ CL')
    (h1 : x.out = 2 + (c : Int) + (i : Int)) (h2 : ∀ n ∈ x.ins, 0 ≤ n ∧ n < (c : Int) + 2 + (i : Int)) (h3 : cellArity x.kind x.ins.length) (h4 : 0 ≤ x.tb) (hR : RowP (InCL CL') (x.out, .ref rt) x) (hW : WaitP (InCL CL') (.ref wt) x) :
    GenOK c (cs0 ++ [x]) ∧ (cs0 ++ [x]).length = i + 1 ∧ ro'.IsDictOf (intKind prog w) (rkvs ++ [(x.out, .ref rt)]) ∧ Each (RowP (InCL CL')) (rkvs ++ [(x.out, .ref rt)]) (cs0 ++ [x]) ∧ Each (WaitP (InCL CL')) (wvs ++ [.ref wt]) (cs0 ++ [x]) := by
  have hn : valueAt rkvs x.out = none := valueAt_off fun k hk => by
    rw [rows_outs hrw] at hk
    obtain ⟨y, hy, rfl⟩ := List.mem_map.mp hk
    obtain ⟨j, hj, e, _⟩ := hgen.get hy
    omega
  rw [stored_absent hn] at hro
  exact ⟨hgen.snoc (by rw [hlc, h1]; omega) (by rw [hlc]; exact h2) h3 h4, by rw [List.length_append, hlc]; rfl, hro, (hrw.mono fun a b p => p.mono (InCL.mono hsub)).snoc hR, (hwt.mono fun a b p => p.mono (InCL.mono hsub)).snoc hW⟩
theorem above6 {a b1 b2 b3 b4 b5 b6 : Nat} (h1 : b1 < a) (h2 : b2 < a) (h3 : b3 < a) (h4 : b4 < a) (h5 : b5 < a) (h6 : b6 < a) : ∀ b ∈ [b1, b2, b3, b4, b5, b6], a ≠ b := by
  intro b hb
  simp only [List.mem_cons, List.not_mem_nil, or_false] at hb
  rcases hb with rfl | rfl | rfl | rfl | rfl | rfl <;> omega
end
section
theorem cut_at : ∀ (l : List Value) (k : Nat) (y : Value), l[k]? = some y → kl_cut l k = some (l.take k, y, l.drop (k + 1))
  | [], k, y, h => by simp at h
  | x :: r, 0, y, h => by simp at h; subst h; rfl
  | x :: r, k + 1, y, h => by
    have := cut_at r k y (by simpa using h)
    simp only [kl_cut, this, List.take_succ_cons, List.drop_succ_cons]
section
variable {prog : Program} {w : World} {A : Around} {E : Value → Shared → Prop} {s : Shared} {h₀ : Heap} {L : Addr} {m : Str → Option Value} {news news' : List (Addr × Obj)} {Q : Value → Shared → Prop}
theorem ne_nil {a b : Addr} {vs : List Value} (hl : s.heap.IsList a vs.toArray) (hb : s.heap.IsList b #[]) (hu : A.units < cLine) (h : Q (.bool (!vs.isEmpty)) s) : wpAny (model prog w) A (compareOp .NotEq (.ref a) (.ref b)) Q E s := by
  show wpAny (model prog w) A (richCompare .NotEq (.ref a) (.ref b)) Q E s
  cases vs with
  | nil => exact SeqAt.RcNeAt.lists (e := fun _ => true) hl hb rfl hu (fun j h1 => absurd h1 (Nat.not_lt_zero _)) prog w E Q h
  | cons v r => exact SeqAt.RcNeAt.lists_lengths hl hb (by simp) hu prog w E Q h
theorem pop_at {D : Addr} {its : List Value} {n : Nat} {i : Int} {u : Tok} {y : Value} (F : Fr h₀ L s.heap m) (N : News h₀ L s.heap news) (h0 : 0 ≤ i) (h1 : i < (its.length : Int)) (hz : its.length ≤ 60) (hy : its[i.toNat]? = some y)
    (U : Upd D (listOf its.toArray n) (listOf (its.eraseIdx i.toNat).toArray (n + 1)) news news') (h : ∀ h', Fr h₀ L h' m → News h₀ L h' news' → Q y { s with heap := h' }) : wpAny (model prog w) A (call (.builtin "list.pop") [.ref D, .int i u]) Q E s := by
  have hi : i.toNat < its.length := by omega
  have e1 : its.eraseIdx i.toNat = its.take i.toNat ++ its.drop (i.toNat + 1) := List.eraseIdx_eq_take_drop_succ ..
  rw [e1] at U
  refine kl_popAt (k := i.toNat) (p := its.take i.toNat) (q := its.drop (i.toNat + 1)) F N ?_ ?_ ?_ U (by rw [sizeLine_eq]; simpa using (by omega : its.length ≤ _)) h
  · unfold Builtin.List.listFitsIndex
    rw [Bool.and_eq_true]
    exact ⟨decide_eq_true (by omega), decide_eq_true (by omega)⟩
  · unfold seqIndex?
    have e : (if i < 0 then i + (its.length : Int) else i) = i := if_neg (by omega)
    simp only [List.size_toArray]
    rw [e]
    rw [if_pos (by rw [Bool.and_eq_true]; exact ⟨decide_eq_true h0, decide_eq_true h1⟩)]
  · exact cut_at its i.toNat y hy
end
end
section
def vecs (c n : Nat) (bs : List Int) : List Int := [0, 1] ++ bs ++ List.replicate (c + n - bs.length) 0
theorem vecs_start (c n : Nat) : (List.replicate (2 + (c : Int) + (n : Int)).toNat [(0 : Int)]).flatten.set (Int.toNat 1) 1 = vecs c n [] := by
  have e : (2 + (c : Int) + (n : Int)).toNat = (c + n) + 1 + 1 := by omega
  rw [e, List.replicate_succ, List.replicate_succ, List.flatten_cons, List.flatten_cons]
  have e2 : (List.replicate (c + n) [(0 : Int)]).flatten = List.replicate (c + n) 0 := by simp
  rw [e2]
  rfl
theorem vecs_length {c n : Nat} {bs : List Int} (h : bs.length ≤ c) : (vecs c n bs).length = 2 + c + n := by
  simp [vecs]; omega
theorem vecs_set {c n : Nat} {bs : List Int} {b : Int} (h : bs.length < c) : (vecs c n bs).set (2 + bs.length) b = vecs c n (bs ++ [b]) := by
  unfold vecs
  have e : c + n - bs.length = (c + n - (bs ++ [b]).length) + 1 := by simp; omega
  rw [e, List.replicate_succ, List.set_append_right _ _ (by simp; omega)]
  have e2 : 2 + bs.length - ([0, 1] ++ bs).length = 0 := by simp; omega
  rw [e2, List.set_cons_zero]
  simp
theorem vecs_full {c n : Nat} {bs : List Int} (h : bs.length = c) : vecs c n bs = ([0, 1] ++ bs) ++ List.replicate n 0 := by
  unfold vecs
  rw [h, Nat.add_sub_cancel_left]
theorem OffI.same {I : Addr} {l l' : List (Addr × Obj)} (h : OffI I l) (e : l'.map (·.1) = l.map (·.1)) : OffI I l' := by
  intro p hp
  have : p.1 ∈ l.map (·.1) := e ▸ List.mem_map.mpr ⟨p, hp, rfl⟩
  obtain ⟨p', hp', e'⟩ := List.mem_map.mp this
  rw [← e']
  exact h p' hp'
theorem bits_step {bkvs : List (Int × Value)} {bs : List Int} {i : Nat} {v : Int} {t : Tok} (hbl : bs.length = i) (h : ∀ j : Nat, j < i → ∃ t, valueAt bkvs (2 + (j : Int)) = some (.int (bs.getD j 0) t)) :
    ∀ j : Nat, j < i + 1 → ∃ u, valueAt (stored bkvs (2 + (i : Int)) (.int v t)) (2 + (j : Int)) = some (.int ((bs ++ [v]).getD j 0) u) := by
  intro j hj
  rw [valueAt_stored]
  by_cases e : j = i
  · subst e
    rw [if_pos rfl]
    refine ⟨t, ?_⟩
    rw [List.getD_eq_getElem?_getD, List.getElem?_append_right (by omega), hbl, Nat.sub_self]; rfl
  · rw [if_neg (by omega)]
    obtain ⟨u, hu⟩ := h j (by omega)
    refine ⟨u, ?_⟩
    rw [hu, List.getD_eq_getElem?_getD, List.getD_eq_getElem?_getD, List.getElem?_append_left (by omega)]
def DueOK (kvs : List (Int × Value)) (dv : Int → Int) (k : Nat) : Prop := ∀ j : Nat, j < k → ∃ t, valueAt kvs (j : Int) = some (.int (dv j) t)
theorem DueOK.step {kvs : List (Int × Value)} {dv : Int → Int} {k : Nat} {key v : Int} {t : Tok} (h : DueOK kvs dv k) (hk : key = (k : Int)) (hv : v = dv (k : Int)) : DueOK (stored kvs key (.int v t)) dv (k + 1) := by
  subst hk hv
  intro j hj
  rw [valueAt_stored]
  by_cases e : j = k
  · subst e; rw [if_pos rfl]; exact ⟨t, rfl⟩
  · rw [if_neg (by omega)]; exact h j (by omega)
theorem DueOK.base {dv : Int → Int} {t0 t1 : Tok} (h0 : dv 0 = 0) (h1 : dv 1 = 1) : DueOK [(0, .int 0 t0), (1, .int 1 t1)] dv 2 := by
  intro j hj
  match j, hj with
  | 0, _ => exact ⟨t0, by rw [show ((0 : Nat) : Int) = 0 from rfl, h0]; rfl⟩
  | 1, _ => exact ⟨t1, by rw [show ((1 : Nat) : Int) = 1 from rfl, h1]; rfl⟩
theorem DueOK.at {kvs : List (Int × Value)} {dv : Int → Int} {k : Nat} {n : Int} (h : DueOK kvs dv k) (h0 : 0 ≤ n) (h1 : n < (k : Int)) : ∃ t, valueAt kvs n = some (.int (dv n) t) := by
  obtain ⟨j, rfl⟩ : ∃ j : Nat, n = (j : Int) := ⟨n.toNat, by omega⟩
  exact h j (by omega)
theorem base_get {bs : List Int} {i : Nat} : ([0, 1] ++ bs).getD (2 + i) 0 = bs.getD i 0 := by
  rw [List.getD_eq_getElem?_getD, List.getD_eq_getElem?_getD, List.getElem?_append_right (by simp)]
  simp
theorem valueAt_asc : ∀ {kvs : List (Int × Value)} {i : Nat} {k : Int} {v : Value}, (kvs.map (·.1)).Pairwise (· < ·) → kvs[i]? = some (k, v) → valueAt kvs k = some v
  | [], i, k, v, _, h => by simp at h
  | a :: r, 0, k, v, _, h => by
    have : a = (k, v) := by simpa using h
    subst this
    rw [valueAt_cons, if_pos rfl]
  | a :: r, i + 1, k, v, hp, h => by
    obtain ⟨a1, a2⟩ := a
    have h' : r[i]? = some (k, v) := by simpa using h
    rw [List.map_cons, List.pairwise_cons] at hp
    have hlt := hp.1 k (List.mem_map.mpr ⟨(k, v), List.mem_of_getElem? h', rfl⟩)
    have hlt' : a1 < k := hlt
    rw [valueAt_cons, if_neg (by omega)]
    exact valueAt_asc hp.2 h'
theorem netsOf_eq (c : Nat) : netsOf c = (List.range c).map fun (i : Nat) => (2 : Int) + (i : Int) := by
  unfold netsOf
  refine List.map_congr_left fun i _ => Int.add_comm _ _
theorem vals_first {c n : Nat} {bs : List Int} (hbl : bs.length = c + 1) (h01 : ∀ b ∈ bs, b = 0 ∨ b = 1) (cs0 : List CellD) :
    (vecs (c + 1) n bs).length = c + 1 + 2 + n ∧ (∀ v ∈ vecs (c + 1) n bs, v = 0 ∨ v = 1) ∧ ∀ k : Nat, k < c + 1 + 2 → (vecs (c + 1) n bs).getD k 0 = dvL ([0, 1] ++ bs) cs0 (k : Int) := by
  refine ⟨by rw [vecs_length (by omega)]; omega, fun v hv => ?_, fun k hk => ?_⟩
  · rw [vecs_full hbl] at hv
    rcases List.mem_append.mp hv with q | q
    · rcases List.mem_append.mp q with q | q
      · simpa using q
      · exact h01 v q
    · left; exact (List.mem_replicate.mp q).2
  · have hl : k < ([0, 1] ++ bs).length := by simp; omega
    rw [dvL_low _ _ hl, vecs_full hbl, List.getD_eq_getElem?_getD, List.getD_eq_getElem?_getD, List.getElem?_append_left hl]
end
section
def WideQ (kd : Kind) (wd : Nat) : Prop := match kd with
  | .lut => True
  | .cell => True
  | k => cellArity k wd
def WideP1 (g : Heap) (L : Addr) (m : Str → Option Value) (kd : Kind) (s0 : Shared) (led : List (Addr × Obj)) (s : Shared) : Prop :=
  ∃ h tk tw wd, s = { s0 with heap := h, toks := tk } ∧ Fr g L h (fun y => if y = Str.ofString "wide" then some (.int ((wd : Nat) : Int) tw) else m y) ∧ News g L h led ∧ WideQ kd wd
theorem WideP1.intro {g : Heap} {L : Addr} {m : Str → Option Value} {kd : Kind} {s0 : Shared} {led news : List (Addr × Obj)} {h : Heap} {tk : Nat} {tw : Tok} {wd : Nat}
    (F : Fr g L h (fun y => if y = Str.ofString "wide" then some (.int ((wd : Nat) : Int) tw) else m y)) (N : News g L h news) (hs : ∀ p ∈ led, p ∈ news) (hq : WideQ kd wd) : WideP1 g L m kd s0 led { s0 with heap := h, toks := tk } :=
  ⟨h, tk, tw, wd, rfl, F, fun p hp => N p (hs p hp), hq⟩
section
variable {M : Model} {A : Around} {E : Value → Shared → Prop} {sh : Shared} {env : Env} {Q : Flow → Shared → Prop} {g : Heap} {L : Addr} {m : Str → Option Value}
theorem wide_cut1 {a : Stmt} {post : List Stmt} (_F : Fr g L sh.heap m) (kd : Kind) (led : List (Addr × Obj))
    (h1 : wpAny M A (exec a env) (fun f s1 => match f with | .next => WideP1 g L m kd sh led s1 | _ => False) E sh)
    (h2 : ∀ h tk tw wd, Fr g L h (fun y => if y = Str.ofString "wide" then some (.int ((wd : Nat) : Int) tw) else m y) → News g L h led → WideQ kd wd → wpAny M A (execs post env) Q E { sh with heap := h, toks := tk }) :
    wpAny M A (execs (a :: post) env) Q E sh :=
  cut1 (WideP1 g L m kd sh led) h1 fun _ ⟨h, tk, tw, wd, e, F, N, hq⟩ => e ▸ h2 h tk tw wd F N hq
theorem cut2 {a b : Stmt} {post : List Stmt} {s : Shared} (P : Shared → Prop)
    (h1 : wpAny M A (exec a env) (fun f s1 => match f with
      | .next => wpAny M A (exec b env) (fun f s2 => match f with | .next => P s2 | _ => False) E s1
      | _ => False) E s)
    (h2 : ∀ s', P s' → wpAny M A (execs post env) Q E s') : wpAny M A (execs (a :: b :: post) env) Q E s := by
  refine wpAny_execs_cons (wpAny_mono h1 (fun f s1 k1 => ?_) fun _ _ e => e)
  cases f with
  | next =>
    refine wpAny_execs_cons (wpAny_mono k1 (fun f s2 k2 => ?_) fun _ _ e => e)
    cases f with
    | next => exact h2 _ k2
    | _ => exact k2.elim
  | _ => exact k1.elim
theorem wide_cut2 {b c : Stmt} {post : List Stmt} {wd0 : Nat} {tw0 : Tok} (_F : Fr g L sh.heap (fun y => if y = Str.ofString "wide" then some (.int ((wd0 : Nat) : Int) tw0) else m y)) (kd : Kind) (lo hi : Int) (led : Int → Tok → Nat → List (Addr × Obj))
    (h1 : wpAny M A (exec b env) (fun f s2 => match f with
        | .next => wpAny M A (exec c env) (fun f s3 => match f with | .next => WideP g L m kd lo hi sh led s3 | _ => False) E s2
        | _ => False) E sh)
    (h2 : ∀ h tk tw tv tb at' t' n' wd, Fr g L h (fun y => if y = Str.ofString "table" then some tv else if y = Str.ofString "wide" then some (.int ((wd : Nat) : Int) tw) else m y) → News g L h (led at' t' n') →
      cellArity kd wd → IsNoneOr kd tb tv → 0 ≤ tb → lo ≤ at' → at' ≤ hi → wpAny M A (execs post env) Q E { sh with heap := h, toks := tk }) :
    wpAny M A (execs (b :: c :: post) env) Q E sh :=
  cut2 (WideP g L m kd lo hi sh led) h1 fun _ ⟨h, tk, tw, tv, tb, at', t', n', wd, e, F, N, x1, x2, x3, x4, x5⟩ => e ▸ h2 h tk tw tv tb at' t' n' wd F N x1 x2 x3 x4 x5
end
theorem pow2_le8 {v : Int} (h0 : 0 ≤ v) (h1 : v < 3) : 0 ≤ (2 : Int) ^ (1 + v).toNat ∧ (2 : Int) ^ (1 + v).toNat ≤ 8 := by
  have : v = 0 ∨ v = 1 ∨ v = 2 := by omega
  rcases this with rfl | rfl | rfl <;> exact ⟨by decide, by decide⟩
theorem pow2_pos9 (n : Nat) : 0 < (2 : Int) ^ n := Int.pow_pos (by decide)
theorem none_kind {kd : Kind} (h : (kd.str == Str.ofString "lut") = false) (h2 : (kd.str == Str.ofString "cell") = false) {wd : Nat} (hq : WideQ kd wd) : cellArity kd wd ∧ IsNoneOr kd 0 .none := by
  cases kd <;> first | exact ⟨hq, rfl⟩ | exact absurd h (by decide) | exact absurd h2 (by decide)
theorem lut_kind {kd : Kind} (h : (kd.str == Str.ofString "lut") = true) {wd : Nat} (hw : 1 ≤ wd ∧ wd ≤ 3) (tb : Int) (t : Tok) : cellArity kd wd ∧ IsNoneOr kd tb (.int tb t) := by
  cases kd <;> first | exact ⟨hw, t, rfl⟩ | exact absurd h (by decide)
theorem cell_kind {kd : Kind} (h : (kd.str == Str.ofString "cell") = true) {wd : Nat} (hw : 1 ≤ wd ∧ wd ≤ 3) (tb : Int) (t : Tok) : cellArity kd wd ∧ IsNoneOr kd tb (.int tb t) := by
  cases kd <;> first | exact ⟨hw, t, rfl⟩ | exact absurd h (by decide)
theorem wq1 {kd : Kind} (h : ([Str.ofString "buf", Str.ofString "not"].any fun x => x == kd.str) = true) : WideQ kd 1 := by
  cases kd <;> first | trivial | rfl | exact absurd h (by decide)
theorem wq3 {kd : Kind} (h : (kd.str == Str.ofString "mux") = true) : WideQ kd 3 := by
  cases kd <;> first | trivial | rfl | exact absurd h (by decide)
theorem wq2 {kd : Kind} (h : ([Str.ofString "buf", Str.ofString "not"].any fun x => x == kd.str) = false) (h2 : (kd.str == Str.ofString "mux") = false) : WideQ kd 2 := by
  cases kd <;> first | trivial | rfl | exact absurd h (by decide) | exact absurd h2 (by decide)
theorem fr_two9 {g h : Heap} {L : Addr} {m : Str → Option Value} {a b : Str} {va va' vb' : Value} {v1 : Int} {tw : Tok} (h0 : 0 ≤ v1) (F : Fr g L h (fun y => if y = a then some va else if y = b then some (.int (1 + v1) tw) else if y = a then some va' else if y = b then some vb' else m y)) :
    Fr g L h (fun y => if y = a then some va else if y = b then some (.int (((1 + v1).toNat : Nat) : Int) tw) else m y) := by
  have e : (((1 + v1).toNat : Nat) : Int) = 1 + v1 := by omega
  rw [e]
  exact fr_two F
end
section
def bodyOf : Stmt → List Stmt
  | .FunctionDef _ _ b _ _ _ _ _ _ _ => b
  | .For _ _ b _ _ => b
  | .While _ b _ _ => b
  | _ => []
def scopeOf : Stmt → Scope
  | .FunctionDef _ _ _ _ _ _ s _ _ _ => s
  | _ => default
def lawDef : Stmt := PySem.Challenge.pw_on0104_01.main.body.getLastD default
def lawB : List Stmt := bodyOf lawDef
def lawScope : Scope := scopeOf lawDef
def atS : Nat → List Stmt → Stmt
  | _, [] => default
  | 0, a :: _ => a
  | n + 1, _ :: r => atS n r
def turnB : List Stmt := bodyOf (atS 6 lawB)
def drvB : List Stmt := bodyOf (atS 7 lawB)
def MW (w : World) : Model := model PySem.Challenge.rw_on0104_01.row.prog w
def upF (m : Str → Option Value) (x : String) (v : Value) : Str → Option Value := fun y => if y = Str.ofString x then some v else m y
theorem fr_in1 {g h : Heap} {L : Addr} {m : Str → Option Value} {a : Str} {va : Value} (F : Fr g L h m) (h1 : m a = some va) : Fr g L h (fun y => if y = a then some va else m y) := by
  have e : (fun y => if y = a then some va else m y) = m := by
    funext y
    by_cases q : y = a
    · subst q; rw [if_pos rfl, h1]
    · rw [if_neg q]
  rw [e]; exact F
theorem fr_out1 {g h : Heap} {L : Addr} {m : Str → Option Value} {a : Str} {va : Value} (h1 : m a = some va) (F : Fr g L h (fun y => if y = a then some va else m y)) : Fr g L h m := by
  have e : (fun y => if y = a then some va else m y) = m := by
    funext y
    by_cases q : y = a
    · subst q; rw [if_pos rfl, h1]
    · rw [if_neg q]
  rw [← e]; exact F
/-- the value of a name, behind others -/
theorem m_at {m : Str → Option Value} {a : Str} {v : Value} {m' : Str → Option Value} (h : m' a = some v) (e : m a = m' a) : m a = some v := e.trans h
theorem fr_eq {g h : Heap} {L : Addr} {m m' : Str → Option Value} (F : Fr g L h m) (e : ∀ y, m y = m' y) : Fr g L h m' := by
  have : m = m' := funext e
  rw [← this]; exact F
theorem ltne {news : List (Addr × Obj)} {d a : Nat} {o : Obj} (h : ∀ p ∈ news, p.1 < d) (m : (a, o) ∈ news) : a ≠ d := Nat.ne_of_lt (h _ m)
section
variable {g h : Heap} {L : Addr} {m : Str → Option Value} {a b c d x z : Str} {va vb vc vd : Value} {vx vz : Option Value}
theorem m_in {m : Str → Option Value} (h1 : m a = some va) : (fun y => if y = a then some va else m y) = m := by
  funext y
  by_cases q : y = a
  · subst q; rw [if_pos rfl, h1]
  · rw [if_neg q]
theorem m_in2 (h1 : m a = some va) (h2 : m b = some vb) : (fun y => if y = a then some va else if y = b then some vb else m y) = m := by
  have e := m_in h2
  have e' : (fun y => if y = a then some va else if y = b then some vb else m y) = fun y => if y = a then some va else (fun y => if y = b then some vb else m y) y := rfl
  rw [e', e]; exact m_in h1
theorem m_in3 (h1 : m a = some va) (h2 : m b = some vb) (h3 : m c = some vc) : (fun y => if y = a then some va else if y = b then some vb else if y = c then some vc else m y) = m := by
  have e := m_in2 h2 h3
  have e' : (fun y => if y = a then some va else if y = b then some vb else if y = c then some vc else m y) = fun y => if y = a then some va else (fun y => if y = b then some vb else if y = c then some vc else m y) y := rfl
  rw [e', e]; exact m_in h1
theorem m_in4 (h1 : m a = some va) (h2 : m b = some vb) (h3 : m c = some vc) (h4 : m d = some vd) : (fun y => if y = a then some va else if y = b then some vb else if y = c then some vc else if y = d then some vd else m y) = m := by
  have e := m_in3 h2 h3 h4
  have e' : (fun y => if y = a then some va else if y = b then some vb else if y = c then some vc else if y = d then some vd else m y) = fun y => if y = a then some va else (fun y => if y = b then some vb else if y = c then some vc else if y = d then some vd else m y) y := rfl
  rw [e', e]; exact m_in h1
theorem fr_in2 (F : Fr g L h m) (h1 : m a = some va) (h2 : m b = some vb) : Fr g L h (fun y => if y = a then some va else if y = b then some vb else m y) := by rw [m_in2 h1 h2]; exact F
theorem fr_in3 (F : Fr g L h m) (h1 : m a = some va) (h2 : m b = some vb) (h3 : m c = some vc) : Fr g L h (fun y => if y = a then some va else if y = b then some vb else if y = c then some vc else m y) := by rw [m_in3 h1 h2 h3]; exact F
theorem fr_in4 (F : Fr g L h m) (h1 : m a = some va) (h2 : m b = some vb) (h3 : m c = some vc) (h4 : m d = some vd) : Fr g L h (fun y => if y = a then some va else if y = b then some vb else if y = c then some vc else if y = d then some vd else m y) := by rw [m_in4 h1 h2 h3 h4]; exact F
theorem fr_o1 (h1 : m a = some va) (F : Fr g L h (fun y => if y = a then some va else m y)) : Fr g L h m := by rw [m_in h1] at F; exact F
theorem fr_o2 (h1 : m a = some va) (h2 : m b = some vb) (F : Fr g L h (fun y => if y = a then some va else if y = b then some vb else m y)) : Fr g L h m := by rw [m_in2 h1 h2] at F; exact F
theorem fr_o3 (h1 : m a = some va) (h2 : m b = some vb) (h3 : m c = some vc) (F : Fr g L h (fun y => if y = a then some va else if y = b then some vb else if y = c then some vc else m y)) : Fr g L h m := by rw [m_in3 h1 h2 h3] at F; exact F
theorem fr_o4 (h1 : m a = some va) (h2 : m b = some vb) (h3 : m c = some vc) (h4 : m d = some vd) (F : Fr g L h (fun y => if y = a then some va else if y = b then some vb else if y = c then some vc else if y = d then some vd else m y)) : Fr g L h m := by rw [m_in4 h1 h2 h3 h4] at F; exact F
theorem fr_x1 (h1 : m a = some va) (F : Fr g L h (fun y => if y = x then vx else if y = a then some va else m y)) : Fr g L h (fun y => if y = x then vx else m y) := by
  have e : (fun y => if y = x then vx else if y = a then some va else m y) = fun y => if y = x then vx else (fun y => if y = a then some va else m y) y := rfl
  rw [e, m_in h1] at F; exact F
theorem fr_x2 (h1 : m a = some va) (h2 : m b = some vb) (F : Fr g L h (fun y => if y = x then vx else if y = a then some va else if y = b then some vb else m y)) : Fr g L h (fun y => if y = x then vx else m y) := by
  have e : (fun y => if y = x then vx else if y = a then some va else if y = b then some vb else m y) = fun y => if y = x then vx else (fun y => if y = a then some va else if y = b then some vb else m y) y := rfl
  rw [e, m_in2 h1 h2] at F; exact F
theorem fr_x3 (h1 : m a = some va) (h2 : m b = some vb) (h3 : m c = some vc) (F : Fr g L h (fun y => if y = x then vx else if y = a then some va else if y = b then some vb else if y = c then some vc else m y)) : Fr g L h (fun y => if y = x then vx else m y) := by
  have e : (fun y => if y = x then vx else if y = a then some va else if y = b then some vb else if y = c then some vc else m y) = fun y => if y = x then vx else (fun y => if y = a then some va else if y = b then some vb else if y = c then some vc else m y) y := rfl
  rw [e, m_in3 h1 h2 h3] at F; exact F
end
theorem fr_wide9 {g h : Heap} {L : Addr} {m : Str → Option Value} {a b c : Str} {va vc : Value} {v1 : Int} {tw : Tok} (hm : m c = some vc) (h0 : 0 ≤ v1) (F : Fr g L h (fun y => if y = a then some va else if y = b then some (.int (1 + v1) tw) else if y = c then some vc else m y)) :
    Fr g L h (fun y => if y = a then some va else if y = b then some (.int (((1 + v1).toNat : Nat) : Int) tw) else m y) := by
  have e : (((1 + v1).toNat : Nat) : Int) = 1 + v1 := by omega
  have e2 : (fun y => if y = a then some va else if y = b then some (.int (1 + v1) tw) else if y = c then some vc else m y) = fun y => if y = a then some va else if y = b then some (.int (1 + v1) tw) else (fun y => if y = c then some vc else m y) y := rfl
  rw [e2, m_in hm] at F
  rw [e]; exact F
theorem wide_bnd {v1 : Int} (h0 : 0 ≤ v1) (h1 : v1 < 3) : 1 ≤ (1 + v1).toNat ∧ (1 + v1).toNat ≤ 3 := by omega
section
variable {g h : Heap} {L : Addr} {m : Str → Option Value} {a b c d e x : Str} {va vb vc vd ve : Value} {vx : Option Value}
theorem m_in5 (h1 : m a = some va) (h2 : m b = some vb) (h3 : m c = some vc) (h4 : m d = some vd) (h5 : m e = some ve) : (fun y => if y = a then some va else if y = b then some vb else if y = c then some vc else if y = d then some vd else if y = e then some ve else m y) = m := by
  have q := m_in4 h2 h3 h4 h5
  have q' : (fun y => if y = a then some va else if y = b then some vb else if y = c then some vc else if y = d then some vd else if y = e then some ve else m y) = fun y => if y = a then some va else (fun y => if y = b then some vb else if y = c then some vc else if y = d then some vd else if y = e then some ve else m y) y := rfl
  rw [q', q]; exact m_in h1
theorem fr_in5 (F : Fr g L h m) (h1 : m a = some va) (h2 : m b = some vb) (h3 : m c = some vc) (h4 : m d = some vd) (h5 : m e = some ve) : Fr g L h (fun y => if y = a then some va else if y = b then some vb else if y = c then some vc else if y = d then some vd else if y = e then some ve else m y) := by rw [m_in5 h1 h2 h3 h4 h5]; exact F
theorem fr_o5 (h1 : m a = some va) (h2 : m b = some vb) (h3 : m c = some vc) (h4 : m d = some vd) (h5 : m e = some ve) (F : Fr g L h (fun y => if y = a then some va else if y = b then some vb else if y = c then some vc else if y = d then some vd else if y = e then some ve else m y)) : Fr g L h m := by rw [m_in5 h1 h2 h3 h4 h5] at F; exact F
end
theorem inCL_nil_param {kd : Kind} {tb : Int} {pv : Value} (h : ∀ T, ParamP T kd tb pv) : ParamP (InCL []) kd tb pv := h _
def testOf : Stmt → Expr
  | .While t _ _ _ => t
  | .If t _ _ _ => t
  | _ => default
def iterOf : Stmt → Expr
  | .For _ i _ _ _ => i
  | _ => default
def targetOf : Stmt → Expr
  | .For t _ _ _ _ => t
  | _ => default
theorem fr_y41 {g h : Heap} {L : Addr} {m : Str → Option Value} {x1 x2 x3 x4 a : Str} {v1 v2 v3 v4 : Option Value} {va : Value} (h1 : m a = some va) (F : Fr g L h (fun y => if y = x1 then v1 else if y = x2 then v2 else if y = x3 then v3 else if y = x4 then v4 else if y = a then some va else m y)) :
    Fr g L h (fun y => if y = x1 then v1 else if y = x2 then v2 else if y = x3 then v3 else if y = x4 then v4 else m y) := by
  have e : (fun y => if y = x1 then v1 else if y = x2 then v2 else if y = x3 then v3 else if y = x4 then v4 else if y = a then some va else m y) = fun y => if y = x1 then v1 else if y = x2 then v2 else if y = x3 then v3 else if y = x4 then v4 else (fun y => if y = a then some va else m y) y := rfl
  rw [e, m_in h1] at F; exact F
theorem turn_map {g h : Heap} {L : Addr} {x : Str} {v : Value} {stored : List Str} {m₁ m₀ : Str → Option Value} (F : Fr g L h (fun y => if y = x then some v else if stored.contains y then m₁ y else m₀ y)) :
    ∃ m2, Fr g L h m2 ∧ m2 x = some v ∧ ∀ z, z ≠ x → stored.contains z = false → m2 z = m₀ z :=
  ⟨_, F, if_pos rfl, fun z h1 h2 => by
    show (if z = x then some v else if stored.contains z then m₁ z else m₀ z) = m₀ z
    rw [if_neg h1, h2]; rfl⟩
theorem done_map {g h : Heap} {L : Addr} {stored : List Str} {m₁ m₀ : Str → Option Value} (F : Fr g L h (fun y => if stored.contains y then m₁ y else m₀ y)) :
    ∃ m2, Fr g L h m2 ∧ ∀ z, stored.contains z = false → m2 z = m₀ z :=
  ⟨_, F, fun z h2 => by
    show (if stored.contains z then m₁ z else m₀ z) = m₀ z
    rw [h2]; rfl⟩
theorem keep_one {m₀ m2 : Str → Option Value} {x : Str} (h : ∀ z, z ≠ x → [x].contains z = false → m2 z = m₀ z) : KeepM [x] m₀ m2 := fun z hz => h z (fun e => by subst e; simp at hz) hz
theorem vecs0 (c n : Nat) : (List.replicate (2 + (c : Int) + (n : Int)).toNat [(0 : Int)]).flatten = List.replicate (2 + c + n) 0 := by
  have e : (2 + (c : Int) + (n : Int)).toNat = 2 + c + n := by omega
  rw [e]; simp
theorem vecs1 (c n : Nat) : (List.replicate (2 + c + n) (0 : Int)).set 1 1 = vecs c n [] := by
  have := vecs_start c n
  rw [vecs0] at this
  exact this
theorem rk9 (n : Nat) : rangeKs 0 ((n : Int) - 0).toNat = castL (List.range n) := by
  have e : ((n : Int) - 0).toNat = n := by omega
  rw [e]
  exact List.map_congr_left fun i _ => Int.zero_add _
theorem turnB_eq : turnB = [atS 0 turnB, atS 1 turnB, atS 2 turnB, atS 3 turnB, atS 4 turnB, atS 5 turnB, atS 6 turnB, atS 7 turnB, atS 8 turnB, atS 9 turnB] := rfl
theorem drvB_eq : drvB = [atS 0 drvB, atS 1 drvB] := rfl
theorem finB_eq : bodyOf (atS 17 lawB) = [atS 0 (bodyOf (atS 17 lawB)), atS 1 (bodyOf (atS 17 lawB))] := rfl
theorem lawB_eq : lawB = [atS 0 lawB, atS 1 lawB, atS 2 lawB, atS 3 lawB, atS 4 lawB, atS 5 lawB, atS 6 lawB, atS 7 lawB, atS 8 lawB, atS 9 lawB, atS 10 lawB, atS 11 lawB, atS 12 lawB, atS 13 lawB, atS 14 lawB, atS 15 lawB, atS 16 lawB, atS 17 lawB, atS 18 lawB] := rfl
theorem own1 {a x : Addr} {o : Obj} {l : List (Addr × Obj)} (h : a ≠ x) (h2 : OwnOff l [x]) : OwnOff ((a, o) :: l) [x] := OwnOff.cons (fun b hb => by rw [List.mem_singleton.mp hb]; exact h) h2
theorem own_nil {adr : List Addr} : OwnOff [] adr := fun p hp => nomatch hp
theorem own_app {x : Addr} {X l : List (Addr × Obj)} (h : ∀ p ∈ X, p.1 ≠ x) (h2 : OwnOff l [x]) : OwnOff (X ++ l) [x] := fun p hp b hb => by
  rcases List.mem_append.mp hp with q | q
  · rw [List.mem_singleton.mp hb]; exact h p q
  · exact h2 p q b hb
theorem own_sub {l : List (Addr × Obj)} {adr : List Addr} {x : Addr} (h : OwnOff l adr) (hx : x ∈ adr) : OwnOff l [x] := fun p hp b hb => by rw [List.mem_singleton.mp hb]; exact h p hp x hx
theorem app_mid {α : Type} {A X R : List α} {p : α} (h : p ∈ A ++ (X ++ R)) : p ∈ X ++ (A ++ R) := by
  rcases List.mem_append.mp h with q | q
  · exact List.mem_append_right _ (List.mem_append_left _ q)
  · rcases List.mem_append.mp q with q | q
    · exact List.mem_append_left _ q
    · exact List.mem_append_right _ (List.mem_append_right _ q)
theorem lt8 {l : List (Addr × Obj)} {d a1 a2 a3 a4 a5 a6 a7 a8 : Addr} {o1 o2 o3 o4 o5 o6 o7 o8 : Obj} (h : ∀ p ∈ l, p.1 < d) (m1 : (a1, o1) ∈ l) (m2 : (a2, o2) ∈ l) (m3 : (a3, o3) ∈ l) (m4 : (a4, o4) ∈ l) (m5 : (a5, o5) ∈ l) (m6 : (a6, o6) ∈ l) (m7 : (a7, o7) ∈ l) (m8 : (a8, o8) ∈ l) :
    ∀ a ∈ [a1, a2, a3, a4, a5, a6, a7, a8], a < d := by
  intro a ha
  simp only [List.mem_cons, List.not_mem_nil, or_false] at ha
  rcases ha with rfl | rfl | rfl | rfl | rfl | rfl | rfl | rfl
  · exact h _ m1
  · exact h _ m2
  · exact h _ m3
  · exact h _ m4
  · exact h _ m5
  · exact h _ m6
  · exact h _ m7
  · exact h _ m8
theorem sub_e8 {α : Type} {A T CL RS Z : List α} : ∀ p ∈ A ++ (T ++ CL ++ RS), p ∈ A ++ (T ++ (CL ++ RS ++ Z)) := by
  intro p hp
  simp only [List.mem_append] at hp ⊢
  rcases hp with h | (h | h) | h <;> simp [h]
theorem off_e8 {I : Addr} {A T CL RS : List (Addr × Obj)} {A8 : List Addr} (e : A.map (·.1) = A8) (hA : ∀ b ∈ A8, b ≠ I) (hT : ∀ p ∈ T, p.1 ≠ I) (hR : ∀ p ∈ CL ++ RS, p.1 ≠ I) : ∀ p ∈ A ++ (T ++ CL ++ RS), p.1 ≠ I := by
  intro p hp
  subst e
  simp only [List.mem_append] at hp
  rcases hp with h | (h | h) | h
  · exact hA _ (List.mem_map.mpr ⟨p, h, rfl⟩)
  · exact hT p h
  · exact hR p (List.mem_append_left _ h)
  · exact hR p (List.mem_append_right _ h)
end
section
/-- addresses told apart by their places in one list -/
theorem nd_at {l : List Addr} (h : l.Nodup) {i j : Nat} (hi : i < l.length) (hj : j < l.length) (hne : i ≠ j) : l.getD i 0 ≠ l.getD j 0 := by
  rw [List.getD_eq_getElem?_getD, List.getD_eq_getElem?_getD, List.getElem?_eq_getElem hi, List.getElem?_eq_getElem hj]
  exact fun e => hne ((List.getElem_inj h).mp e)
theorem ne_ix {l : List Addr} (h : l.Nodup) (i j : Nat) (d : (Nat.blt i l.length && Nat.blt j l.length && !Nat.beq i j) = true) : l.getD i 0 ≠ l.getD j 0 := by
  simp only [Bool.and_eq_true, Bool.not_eq_true'] at d
  refine nd_at h (Nat.blt_eq.mp d.1.1) (Nat.blt_eq.mp d.1.2) fun e => ?_
  have := d.2
  rw [e, Nat.beq_refl] at this
  cases this
theorem nd_ix {l adr : List Addr} (h : l.Nodup) (js : List Nat) (e : adr = js.map fun i => l.getD i 0) (d : js.Nodup) (d2 : (js.all fun j => Nat.blt j l.length) = true) : adr.Nodup := by
  subst e
  rw [List.Nodup, List.pairwise_map]
  rw [List.all_eq_true] at d2
  refine List.Pairwise.imp_of_mem (fun {a b} ha hb hab => ?_) d
  exact nd_at h (Nat.blt_eq.mp (d2 a ha)) (Nat.blt_eq.mp (d2 b hb)) hab
theorem own_ix {l adr : List Addr} {RS Y : List (Addr × Obj)} (nd : l.Nodup) (oR : OwnOff RS l) (is js : List Nat) (e1 : Y.map (·.1) = (is.map fun i => l.getD i 0) ++ RS.map (·.1)) (e2 : adr = js.map fun i => l.getD i 0)
    (d : (is.all fun i => Nat.blt i l.length && js.all fun j => !Nat.beq i j) = true) (d2 : (js.all fun j => Nat.blt j l.length) = true) : OwnOff Y adr := by
  subst e2
  rw [List.all_eq_true] at d d2
  intro p hp b hb
  obtain ⟨j, hj, rfl⟩ := List.mem_map.mp hb
  have hj2 := Nat.blt_eq.mp (d2 j hj)
  have hp2 : p.1 ∈ Y.map (·.1) := List.mem_map.mpr ⟨p, hp, rfl⟩
  rw [e1] at hp2
  rcases List.mem_append.mp hp2 with q | q
  · obtain ⟨i, hi, e⟩ := List.mem_map.mp q
    have di := d i hi
    rw [Bool.and_eq_true, List.all_eq_true] at di
    rw [← e]
    refine nd_at nd (Nat.blt_eq.mp di.1) hj2 fun e' => ?_
    have := di.2 j hj
    rw [e', Nat.beq_refl] at this
    cases this
  · obtain ⟨p', hp', e⟩ := List.mem_map.mp q
    rw [← e]
    refine oR p' hp' _ ?_
    rw [List.getD_eq_getElem?_getD, List.getElem?_eq_getElem hj2]
    exact List.getElem_mem hj2
theorem nd_grow {l : List Addr} {RS Y : List (Addr × Obj)} {x : Addr} (nd : l.Nodup) (oR : OwnOff RS l) (h : ∀ p ∈ Y, p.1 ≠ x) (is : List Nat) (e1 : Y.map (·.1) = (is.map fun i => l.getD i 0) ++ RS.map (·.1))
    (d : ((List.range l.length).all fun i => is.contains i) = true) : (x :: l).Nodup ∧ OwnOff RS (x :: l) := by
  rw [List.all_eq_true] at d
  have h2 : ∀ a ∈ Y.map (·.1), a ≠ x := fun a ha => by
    obtain ⟨p, hp, rfl⟩ := List.mem_map.mp ha
    exact h p hp
  rw [e1] at h2
  refine ⟨List.nodup_cons.mpr ⟨fun hx => ?_, nd⟩, fun p hp b hb => ?_⟩
  · obtain ⟨i, hi, e⟩ := List.mem_iff_getElem.mp hx
    refine h2 x (List.mem_append_left _ (List.mem_map.mpr ⟨i, ?_, ?_⟩)) rfl
    · exact List.contains_iff_mem.mp (d i (List.mem_range.mpr hi))
    · rw [List.getD_eq_getElem?_getD, List.getElem?_eq_getElem hi]; exact e
  · rcases List.mem_cons.mp hb with rfl | hb
    · exact h2 p.1 (List.mem_append_right _ (List.mem_map.mpr ⟨p, hp, rfl⟩))
    · exact oR p hp b hb
theorem own_more {l : List Addr} {RS : List (Addr × Obj)} {a : Addr} {o : Obj} (h : ∀ b ∈ l, a ≠ b) (oR : OwnOff RS l) : OwnOff ((a, o) :: RS) l := fun p hp b hb => by
  rcases List.mem_cons.mp hp with rfl | q
  · exact h b hb
  · exact oR p q b hb
theorem own_both {l : List Addr} {A RS : List (Addr × Obj)} (h : OwnOff A l) (oR : OwnOff RS l) : OwnOff (A ++ RS) l := fun p hp b hb => by
  rcases List.mem_append.mp hp with q | q
  · exact h p q b hb
  · exact oR p q b hb
theorem lt_ne {Y : List (Addr × Obj)} {x : Addr} (h : ∀ p ∈ Y, p.1 < x) : ∀ p ∈ Y, p.1 ≠ x := fun p hp => Nat.ne_of_lt (h p hp)
theorem own_nil9 {l : List Addr} : OwnOff [] l := fun _ hp => nomatch hp
theorem news_ix {g h : Heap} {L : Addr} {old : List (Addr × Obj)} (N : News g L h old) (is : List Nat) (j : Nat) : News g L h ((is.filterMap fun i => old[i]?) ++ old.drop j) := fun p hp => by
  refine N p ?_
  rcases List.mem_append.mp hp with q | q
  · obtain ⟨i, _, e⟩ := List.mem_filterMap.mp q
    exact List.mem_of_getElem? e
  · exact List.mem_of_mem_drop q
theorem sub_ix {α : Type} {old : List α} (is : List Nat) (j : Nat) : ∀ p ∈ (is.filterMap fun i => old[i]?) ++ old.drop j, p ∈ old := fun p hp => by
  rcases List.mem_append.mp hp with q | q
  · obtain ⟨i, _, e⟩ := List.mem_filterMap.mp q
    exact List.mem_of_getElem? e
  · exact List.mem_of_mem_drop q
theorem ar1 {n : Nat} (h : n = 1) : 1 ≤ n ∧ n ≤ 3 := ⟨Nat.le_of_eq h.symm, Nat.le_trans (Nat.le_of_eq h) (by decide)⟩
theorem ar2 {n : Nat} (h : n = 2) : 1 ≤ n ∧ n ≤ 3 := by subst h; exact ⟨by decide, by decide⟩
theorem ar3 {n : Nat} (h : n = 3) : 1 ≤ n ∧ n ≤ 3 := by subst h; exact ⟨by decide, by decide⟩
theorem arity13 {kd : Kind} {n : Nat} (h : cellArity kd n) : 1 ≤ n ∧ n ≤ 3 := by
  cases kd <;> first | exact h | exact ar1 h | exact ar2 h | exact ar3 h
end
section
local macro_rules | `(tactic| walk_at "GOL") => `(tactic| repeat' (first | k_unfold | walk1 | fail "no step"))
local macro_rules | `(tactic| walk_at "call ref") => `(tactic| ((fail_if_success (with_reducible show wpAny _ _ (call (Value.ref 199) _ _) _ _ _)); (with_reducible show wpAny _ _ (call (Value.ref _) _ _) _ _ _); k_dflt (refine wp_stop ?_)))
local macro_rules | `(tactic| walk_at "call ref") => `(tactic| ((with_reducible show wpAny _ _ (call (Value.ref 199) _ _) _ _ _); k_dflt (refine wpAny_call (take_spec (by assumption) (At.of (by k_asm) (by k_asm) (by k_allIn)) (by first | exact Nat.lt_trans (by assumption) (by decide : 500 < 900) | (dsimp only; decide)) rfl (by first | exact Nat.lt_trans (by assumption) (by decide : 1500 < 2000) | (dsimp only; decide)) (islist_of (by k_asm) (by k_mem)) (by assumption) (by assumption) (by assumption) (by first | assumption | omega) (by first | assumption | omega) (by first | assumption | decide | exact pow2_pos9 _ | omega) ?_)); (intro v t₁ t₂ n' h' tk' hv0 hv1 hd kb); (obtain ⟨F', N'⟩ := after_upd (by assumption) (by assumption) (by k_upd) kb hd); (have hbd := Bnd.mk hv0 hv1); clear hd kb hv0 hv1))
local macro_rules | `(tactic| walk_at "binaryOp Add ref ref") => `(tactic| (k_dflt (refine' kmk_add_ints ?F ?N ?a ?b ?i ?j ?_ ?z; (case F => k_asm); (case N => k_asm); (case a => exact islist_of (by k_asm) (by k_mem)); (case b => exact islist_of (by k_asm) (by k_mem)); (case i => first | assumption | l_ints); (case j => first | assumption | l_ints); (case z => (rw [sizeLine_eq]; (try simp only [List.length_map, List.length_range, List.length_append, List.length_cons, List.length_nil]); omega))); intro D' ws' h' F' N' l1 hI'; (try k_lt l1)))
local macro_rules | `(tactic| walk_at "call builtin:sorted") => `(tactic| ((with_reducible show wpAny _ _ (call (Value.builtin "sorted") [Value.ref _]) _ _ _); k_dflt (refine sorted_dict (by rfl) (by k_asm) (by k_asm) (by k_mem) (by assumption) (by assumption) (by assumption) ?_); intro D' vs' ks' c' h' tk' F' N' l1 hI' hp' hs'; (have he9 := keys_same hp' hs' (by assumption)); subst he9; clear hp' hs'; (try k_lt l1)))
local macro_rules | `(tactic| walk_at "subscriptTail") => `(tactic| ((with_reducible show wpAny _ _ (subscriptTail _ _ (Value.ref _) (Value.int _ _)) _ _ _); plain_pass; (refine wp_stop ?_)))
local macro_rules | `(tactic| walk_at "SUBL") => `(tactic| (repeat' (first | exact List.forall_mem_nil _ | (refine List.forall_mem_cons.mpr ⟨by k_mem, ?_⟩) | (intro p hp; (repeat (first | exact hp | exact List.mem_append_left _ hp | apply List.Mem.tail))))))
local macro_rules | `(tactic| walk_at "binaryOp Pow int int") => `(tactic| (rename Bnd _ 3 => hb9; (have hb91 := hb9.lo); (have hb92 := hb9.hi); (have hp9 := pow2_le8 hb91 hb92); refine pow_int_small (by omega) (by omega) (by decide) ?_))
local macro_rules | `(tactic| walk_at "eval ListComp") => `(tactic| (k_dflt (refine LCg.ListComp_U (F₀ := by k_asm) (by with_unfolding_all rfl) (by decide) (by rfl) (by decide) (by rfl) ?_)))
local macro_rules | `(tactic| walk_at "CompSrc") => `(tactic| refine compsrc_stop ?_)
local macro_rules | `(tactic| walk_at "call type:tuple") => `(tactic| ((with_reducible show wpAny _ _ (call (Value.type _) [Value.ref _]) _ _ _); k_dflt (refine kde_tupleOf (by k_asm) (by k_asm) (islist_of (by k_asm) (by k_mem)) (by simp only [List.size_toArray]; omega) rfl ?_); intro D' h' F' N' l1; (try k_lt l1)))
local macro_rules | `(tactic| walk_at "exec While Compare cons nil") => `(tactic| (refine while_stop ?_))
local macro_rules | `(tactic| walk_at "compareOp NotEq ref ref") => `(tactic| ((with_reducible show wpAny _ _ (compareOp CmpOp.NotEq (Value.ref _) (Value.ref _)) _ _ _); k_dflt (refine ne_nil (islist_of (by k_asm) (by k_mem)) (islist_of (by k_asm) (by k_mem)) (by first | assumption | exact Nat.le_of_ble_eq_true rfl) ?_)))
local macro_rules | `(tactic| walk_at "call builtin:list.pop") => `(tactic| (plain_pass; (with_reducible show wpAny _ _ (call (Value.builtin _) [Value.ref _, Value.int _ _]) _ _ _); (refine wp_stop ?_)))
local macro_rules | `(tactic| k_lt $_h:ident) => `(tactic| skip)
local macro_rules | `(tactic| k_ne) => `(tactic| (refine neN ?_; (try dsimp only); first | assumption | exact Ne.symm (by assumption) | exact NEq.ne (by assumption) | exact NEq.ne (NEq.symm (by assumption)) | exact ltne (by assumption) (by k_mem) | exact Ne.symm (ltne (by assumption) (by k_mem)) | exact Nat.ne_of_lt (by assumption) | exact Nat.ne_of_gt (by assumption) | (trace "OMEGA-NE"; omega)))
local macro_rules | `(tactic| walk_at "SEG") => `(tactic| (show wpAny (model PySem.Challenge.rw_on0104_01.row.prog _) _ _ _ _ _; (conv in atS _ _ => whnf); (conv in lawScope => whnf)))
local macro_rules | `(tactic| k_mem) => `(tactic| first | exact List.Mem.head _ | assumption | (refine' List.Mem.tail _ ?_; k_mem))
local macro_rules | `(tactic| walk_at "SEGT") => `(tactic| (show wpAny (model PySem.Challenge.rw_on0104_01.row.prog _) _ _ _ _ _; (conv in testOf (atS _ _) => whnf); (conv in lawScope => whnf)))
local macro_rules | `(tactic| walk_at "NEE") => `(tactic| first | with_reducible assumption | exact Ne.symm (by with_reducible assumption) | exact NEq.ne (by with_reducible assumption) | exact NEq.ne (NEq.symm (by with_reducible assumption)) | exact ltne (by with_reducible assumption) (by k_mem) | exact Ne.symm (ltne (by with_reducible assumption) (by k_mem)) | exact Nat.ne_of_lt (Nat.lt_succ_self _) | exact Nat.ne_of_gt (Nat.lt_succ_self _))
local macro_rules | `(tactic| walk_at "OWN") => `(tactic| (repeat' (first | with_reducible assumption | (refine own1 (by walk_at "NEE") ?_))))
local macro_rules | `(tactic| walk_at "NXT") => `(tactic| (show wpAny _ _ (execs _ _) _ _ _; refine wpAny_execs_cons ?_))
local macro_rules | `(tactic| walk_at "NM") => `(tactic| (repeat' (first | with_reducible assumption | exact if_pos rfl | (refine (if_neg (by decide)).trans ?_))))
local macro_rules | `(tactic| walk_at "KEEP9") => `(tactic| (repeat' (first | with_reducible rfl | with_reducible assumption | (refine (if_neg (contains_ne (by with_reducible assumption) (by k_mem))).trans ?_))))
section
section
variable {w : World} {s : Shared} {g : Heap} {mean : ExcName → Option Value} {mg mb : Str → Option Value} {dd uu : Nat} {L fa : Addr} {cdv : Value} {m : Str → Option Value} {RS : List (Addr × Obj)} {Q : Flow → Shared → Prop}
theorem s_known {fr gs} {nt rd : Addr} {ro ok : Obj} {ov : Option Value} {ys : List Value} {ks : List Int} {rkvs : List (Int × Value)} (G : Gd w mean mg mb g) (hroom : dd < 500) (hu : uu < 1500)
    (F : Fr g L s.heap m) (hm1 : m (Str.ofString "nets") = some (.ref nt)) (hm2 : m (Str.ofString "rows") = some (.ref rd))
    (N : News g L s.heap ((rd, ro) :: (nt, LCg.lst ys) :: (L + 1 + 1, ok) :: RS)) (hok : ok.data = .cell ov) (hRS : OwnOff RS [L + 1 + 1]) (n1 : NEq rd (L + 1 + 1)) (n2 : NEq nt (L + 1 + 1))
    (hys : IntsAre ys ks) (hro : ro.IsDictOf (intKind PySem.Challenge.rw_on0104_01.row.prog w) rkvs) (hasc : (rkvs.map (·.1)).Pairwise (· < ·)) (hkl : rkvs.length < 60) (hyl : ks.length < 60) (lord : (rd == sysModules) = false)
    (k : ∀ h' tk' kn kws okc, Fr g L h' m → News g L h' ((kn, W.listOf kws.toArray 0) :: (rd, ro) :: (nt, LCg.lst ys) :: (L + 1 + 1, okc) :: RS) → (∀ p ∈ (rd, ro) :: (nt, LCg.lst ys) :: (L + 1 + 1, ok) :: RS, p.1 < kn) → okc.data = .cell (some (.ref kn)) → IntsAre kws ([0, 1] ++ ks ++ rkvs.map (·.1)) → Q .next { s with heap := h', toks := tk' }) :
    wpAny (MW w) { handled := none, depth := dd, frames := fr, guards := gs, units := uu } (exec (atS 0 turnB) (envOfC (Str.ofString "law") lawScope L fa cdv)) Q (fun _ _ => False) s := by
  have X' := G.X
  have T' := G.T
  replace F := fr_in2 F hm1 hm2
  walk_at "SEG"
  walk_at "GOL"
  rename_i kn kws h9 l9 hI9 h8 o8 F8 N8 d8
  exact k _ _ kn kws o8 (fr_o2 hm1 hm2 F8) (kst_newsOf N8 (List.forall_mem_cons.mpr ⟨.head _, fun p hp => .tail _ (.tail _ (.tail _ (.tail _ hp)))⟩)) (fun p hp => l9 p (.tail _ (.tail _ (.tail _ hp)))) d8 hI9
end
end
section
section
variable {w : World} {s : Shared} {g : Heap} {mean : ExcName → Option Value} {mg mb : Str → Option Value} {dd uu : Nat} {L fa : Addr} {cdv : Value} {m : Str → Option Value} {RS : List (Addr × Obj)} {Q : Flow → Shared → Prop}
theorem s_kind {fr gs} {st D : Addr} {oc : Obj} {at_ : Int} {ta : Tok} {na : Nat} {ws : List Value} {ns : List Int} (G : Gd w mean mg mb g) (hroom : dd < 500) (hu : uu < 1500)
    (F : Fr g L s.heap m) (N : News g L s.heap ((st, StList D at_ ta na) :: (L + 1, oc) :: RS)) (hoc : oc.data = .cell (some (.ref st))) (hD : (D, W.listOf ws.toArray 0) ∈ RS) (hDst : @Ne Nat D st) (hI : IntsAre ws ns) (hlen : ns.length ≤ 63) (h0 : 0 ≤ at_) (h1 : at_ < 1000) (hRS : OwnOff RS [st]) (n1 : NEq st (L + 1))
    (k : ∀ h' tk' kd tkd t n, Fr g L h' (fun y => if y = Str.ofString "kind" then some (.str (Kind.str kd) tkd) else m y) → News g L h' ((st, StList D (at_ + 1) t n) :: (L + 1, oc) :: RS) → Q .next { s with heap := h', toks := tk' }) :
    wpAny (MW w) { handled := none, depth := dd, frames := fr, guards := gs, units := uu } (exec (atS 1 turnB) (envOfC (Str.ofString "law") lawScope L fa cdv)) Q (fun _ _ => False) s := by
  have X' := G.X
  have T' := G.T
  walk_at "SEG"
  walk_at "GOL"
  unfold Stop
  rename Bnd _ 11 => hbd
  rename News _ _ _ _ => NN
  have hk0 := hbd.lo
  have hk1 := hbd.hi
  rename_i lk h1x l1k v tv1 tv2 nv hv tkv FV
  obtain ⟨kd, tkd, hkd⟩ : ∃ kd tkd, (kinds11 s.toks)[v.toNat]? = some (Value.str (Kind.str kd) tkd) := kinds_at _ hk0 hk1
  k_dflt (refine item_list_any (islist_of (vs := (kinds11 s.toks).toArray) NN (by k_mem)) hk0 (Int.lt_trans hk1 (by decide)) hkd ?_)
  clear hk0 hk1 hbd hkd
  walk_at "GOL"
  exact k _ _ kd tkd _ _ (by assumption) (kst_newsOf (by assumption) fun p hp => .tail _ hp)
theorem s_wide {fr gs} {kd : Kind} {tkd : Tok} (G : Gd w mean mg mb g) (hroom : dd < 500) (hu : uu < 1500)
    (F : Fr g L s.heap m) (hm : m (Str.ofString "kind") = some (.str kd.str tkd)) (N : News g L s.heap RS)
    (k : ∀ h' tk' tw wd, Fr g L h' (fun y => if y = Str.ofString "wide" then some (.int ((wd : Nat) : Int) tw) else m y) → News g L h' RS → WideQ kd wd → Q .next { s with heap := h', toks := tk' }) :
    wpAny (MW w) { handled := none, depth := dd, frames := fr, guards := gs, units := uu } (exec (atS 2 turnB) (envOfC (Str.ofString "law") lawScope L fa cdv)) Q (fun _ _ => False) s := by
  have X' := G.X
  have T' := G.T
  replace F := fr_in1 F hm
  walk_at "SEG"
  walk_at "GOL"
  all_goals rename Fr _ _ _ _ => FZ
  all_goals rename News _ _ _ _ => NZ
  · exact k _ _ _ 1 (fr_x1 hm FZ) (kst_newsOf NZ (by walk_at "SUBL")) (wq1 (by assumption))
  · exact k _ _ _ 3 (fr_x1 hm FZ) (kst_newsOf NZ (by walk_at "SUBL")) (wq3 (by assumption))
  · exact k _ _ _ 2 (fr_x1 hm FZ) (kst_newsOf NZ (by walk_at "SUBL")) (wq2 (by assumption) (by assumption))
theorem s_table {fr gs} (G : Gd w mean mg mb g) (hroom : dd < 500) (hu : uu < 1500) (F : Fr g L s.heap m) (N : News g L s.heap RS)
    (k : ∀ h' tk', Fr g L h' (fun y => if y = Str.ofString "table" then some .none else m y) → News g L h' RS → Q .next { s with heap := h', toks := tk' }) :
    wpAny (MW w) { handled := none, depth := dd, frames := fr, guards := gs, units := uu } (exec (atS 3 turnB) (envOfC (Str.ofString "law") lawScope L fa cdv)) Q (fun _ _ => False) s := by
  have X' := G.X
  have T' := G.T
  walk_at "SEG"
  walk_at "GOL"
  exact k _ _ (by assumption) (by assumption)
theorem s_if {fr gs} {st D : Addr} {oc : Obj} {at_ : Int} {ta : Tok} {na wd0 : Nat} {tw0 tkd : Tok} {kd : Kind} {ws : List Value} {ns : List Int} (G : Gd w mean mg mb g) (hroom : dd < 500) (hu : uu < 1500)
    (F : Fr g L s.heap m) (hm : m (Str.ofString "kind") = some (.str kd.str tkd)) (hm2 : m (Str.ofString "wide") = some (.int ((wd0 : Nat) : Int) tw0)) (hm3 : m (Str.ofString "table") = some .none) (N : News g L s.heap ((st, StList D at_ ta na) :: (L + 1, oc) :: RS)) (hoc : oc.data = .cell (some (.ref st))) (hD : (D, W.listOf ws.toArray 0) ∈ RS) (hDst : @Ne Nat D st) (hI : IntsAre ws ns) (hlen : ns.length ≤ 63) (h0 : 0 ≤ at_) (h1 : at_ < 900) (hRS : OwnOff RS [st]) (n1 : NEq st (L + 1)) (hq : WideQ kd wd0)
    (k : ∀ h' tk' tw tv tb at' t n wd, Fr g L h' (fun y => if y = Str.ofString "table" then some tv else if y = Str.ofString "wide" then some (.int ((wd : Nat) : Int) tw) else m y) → News g L h' ((st, StList D at' t n) :: (L + 1, oc) :: RS) → cellArity kd wd → IsNoneOr kd tb tv → 0 ≤ tb → at_ ≤ at' → at' ≤ at_ + 2 → Q .next { s with heap := h', toks := tk' }) :
    wpAny (MW w) { handled := none, depth := dd, frames := fr, guards := gs, units := uu } (exec (atS 4 turnB) (envOfC (Str.ofString "law") lawScope L fa cdv)) Q (fun _ _ => False) s := by
  have X' := G.X
  have T' := G.T
  have h2 : 0 ≤ at_ + 1 := by omega
  have h3 : at_ + 1 < 1000 := by omega
  have h4 : at_ < 1000 := by omega
  have h5 : at_ ≤ at_ + 1 + 1 := by omega
  have h6 : at_ + 1 + 1 ≤ at_ + 2 := by omega
  have h7 : at_ ≤ at_ + 2 := by omega
  clear h1
  have F0 := F
  replace F := fr_in1 F hm
  walk_at "SEG"
  walk_at "GOL"
  all_goals rename Fr _ _ _ _ => FZ
  all_goals rename News _ _ _ _ => NZ
  · rename (Kind.str _ == _) = true => hA
    rename Bnd _ (2 ^ _) => hbt
    rename Bnd _ 3 => hb3
    have K := lut_kind hA (wide_bnd hb3.lo hb3.hi) 0 0
    exact k _ _ _ _ _ _ _ _ _ (fr_wide9 hm hb3.lo FZ) NZ K.1 (lut_kind (wd := 1) hA ⟨by decide, by decide⟩ _ _).2 hbt.lo h5 h6
  · rename (Kind.str _ == _) = true => hA
    rename Bnd _ (2 ^ _) => hbt
    rename Bnd _ 3 => hb3
    have K := cell_kind hA (wide_bnd hb3.lo hb3.hi) 0 0
    exact k _ _ _ _ _ _ _ _ _ (fr_wide9 hm hb3.lo FZ) NZ K.1 (cell_kind (wd := 1) hA ⟨by decide, by decide⟩ _ _).2 hbt.lo h5 h6
  · have K := none_kind (by assumption) (by assumption) hq
    exact k _ _ _ _ 0 _ _ _ _ (fr_in2 (fr_o1 hm FZ) hm3 hm2) NZ K.1 K.2 (Int.le_refl 0) (Int.le_refl _) h7
end
end
section
section
variable {w : World} {s : Shared} {g : Heap} {mean : ExcName → Option Value} {mg mb : Str → Option Value} {dd uu : Nat} {L fa : Addr} {cdv : Value} {m : Str → Option Value} {RS : List (Addr × Obj)} {Q : Flow → Shared → Prop}
theorem s_ins {fr gs} {st D kn : Addr} {oc okc : Obj} {at_ : Int} {ta tw : Tok} {na wd : Nat} {ws kws : List Value} {ns kl : List Int} (G : Gd w mean mg mb g) (hroom : dd < 500) (hu : uu < 1500)
    (F : Fr g L s.heap m) (hm : m (Str.ofString "wide") = some (.int ((wd : Nat) : Int) tw)) (N : News g L s.heap ((kn, W.listOf kws.toArray 0) :: (st, StList D at_ ta na) :: (L + 1, oc) :: (L + 1 + 1, okc) :: RS)) (hoc : oc.data = .cell (some (.ref st))) (hokc : okc.data = .cell (some (.ref kn)))
    (hD : (D, W.listOf ws.toArray 0) ∈ RS) (hDst : @Ne Nat D st) (hI : IntsAre ws ns) (hlen : ns.length ≤ 63) (h0 : 0 ≤ at_) (h1 : at_ < 900) (hRS : OwnOff RS [st]) (n1 : NEq st (L + 1)) (n2 : NEq st (L + 1 + 1)) (n3 : NEq st kn)
    (hwd : 1 ≤ wd ∧ wd ≤ 3) (hkn : IntsAre kws kl) (hkl : 0 < kws.length) (hkl2 : kws.length < 100)
    (k : ∀ h' tk' ia ivs ks at' t n, Fr g L h' (fun y => if y = Str.ofString "ins" then some (.ref ia) else m y) → News g L h' ((ia, TupO ivs.toArray) :: (st, StList D at' t n) :: (L + 1, oc) :: (L + 1 + 1, okc) :: RS) → (∀ p ∈ (st, StList D at' t n) :: (L + 1, oc) :: (L + 1 + 1, okc) :: RS, p.1 < ia) →
      IntsAre ivs ks → ks.length = wd → (∀ x ∈ ks, x ∈ kl) → at_ ≤ at' → at' ≤ at_ + 3 → Q .next { s with heap := h', toks := tk' }) :
    wpAny (MW w) { handled := none, depth := dd, frames := fr, guards := gs, units := uu } (exec (atS 5 turnB) (envOfC (Str.ofString "law") lawScope L fa cdv)) Q (fun _ _ => False) s := by
  have X' := G.X
  have T' := G.T
  replace F := fr_in1 F hm
  walk_at "SEG"
  walk_at "GOL"
  unfold Stop
  rename News _ _ _ _ => NN
  rename Fr _ _ _ _ => FF
  have hsz : Builtin.Range.rangeSize 0 (wd : Int) 1 = (wd : Int) := by
    have := rangeSize_nat 0 (wd : Int)
    simpa using this
  refine LCg.CompSrc.range rfl FF NN (by assumption) (n := wd) (small_one (by omega) (by omega) (by omega) (by omega)) hsz (by rw [sizeLine_eq]; omega) fun g₂ => ?_
  refine comp_rest (fun j ys' news => ∃ a ta na ks, news = (kn, W.listOf kws.toArray 0) :: (st, StList D a ta na) :: (L + 1, oc) :: (L + 1 + 1, okc) :: RS ∧
      at_ ≤ a ∧ a ≤ at_ + (j : Int) ∧ IntsAre ys' ks ∧ ks.length = j ∧ ∀ x ∈ ks, x ∈ kl) ⟨_, _, _, [], rfl, Int.le_refl _, by omega, .nil, rfl, fun _ h => nomatch h⟩ ?_ ?_
  · clear FF NN k hsz
    rintro j v J oJ C oC Dl m₃ ys' news h2 tk2 E' hj hP ⟨a, ta, na, ks, rfl, ha0, ha1, hys', hks, hkb2⟩ hC hx F N off ne
    obtain ⟨tvj, rfl⟩ := hP
    have ofS : NEq st J ∧ NEq st C ∧ NEq st Dl := off.2.1
    obtain ⟨of1, of2, of3⟩ := ofS
    have h2a : 0 ≤ a := Int.le_trans h0 ha0
    have h3a : a < 1000 := by omega
    have ha2 : a + 1 ≤ at_ + ((j + 1 : Nat) : Int) := by omega
    have hkp : (0 : Int) < (kws.length : Int) := by omega
    clear ha1 hwd h1 hj hkl
    walk_at "GOL"
    unfold Stop
    rename Bnd _ _ => hbd
    rename News _ _ _ _ => NN
    rename Fr _ _ _ _ => FF
    rename_i vq t1q t2q nq hq2 tkq
    have hb0 := hbd.lo
    have hb1 := hbd.hi
    have hkll := hkn.length
    obtain ⟨q, hq⟩ : ∃ q, kl[vq.toNat]? = some q := ⟨_, List.getElem?_eq_getElem (by omega)⟩
    obtain ⟨tq, hq1⟩ := hkn.get _ _ hq
    k_dflt (refine item_list_any (islist_of NN (by k_mem)) hb0 (by omega) hq1 ?_)
    refine ⟨_, _, _, rfl, FF, NN, off, trivial, a + 1, t2q, nq, ks ++ [q], rfl, Int.le_trans ha0 (Int.le_add_of_nonneg_right (by decide)), ha2, IntsAre.append hys' (.cons _ _ .nil), by rw [List.length_append, hks]; rfl, fun x hx => ?_⟩
    rcases List.mem_append.mp hx with hx | hx
    · exact hkb2 x hx
    · rw [List.mem_singleton.mp hx]
      exact List.mem_of_getElem? hq
  · clear FF NN
    rintro ys' news ⟨a, ta, na, ks, rfl, ha0, ha1, hys', hks, hkb2⟩
    intro Dl h2 tk2 F N o1
    have hyl : ys'.length = wd := by rw [hys'.length, hks]
    have ha2 : a ≤ at_ + 3 := by omega
    clear o1
    walk_at "GOL"
    rename_i ia hz1 lia hz2 FZ NZ
    exact k _ _ ia ys' ks a ta na (fr_x1 hm FZ) (kst_newsOf NZ (List.forall_mem_cons.mpr ⟨.head _, fun p hp => .tail _ (.tail _ (.tail _ hp))⟩)) (fun p hp => lia p (.tail _ (.tail _ hp))) hys' hks hkb2 ha0 ha2
end
end
section
section
variable {w : World} {s : Shared} {g : Heap} {mean : ExcName → Option Value} {mg mb : Str → Option Value} {dd uu : Nat} {L fa : Addr} {cdv : Value} {m : Str → Option Value} {RS : List (Addr × Obj)} {Q : Flow → Shared → Prop}
theorem s_out {fr gs} {nl dx inp outp cel : Addr} {k1 k2 k3 k4 k5 ct : Tok} {nm : Value} {cnt : Int} (G : Gd w mean mg mb g) (hroom : dd < 500) (hu : uu < 1500)
    (F : Fr g L s.heap m) (hm : m (Str.ofString "netlist") = some (.ref nl)) (N : News g L s.heap ((nl, instObj 134 dx) :: (dx, dictOf (nlEs w.params k1 k2 k3 k4 k5 nm cnt ct inp outp cel) 5) :: RS)) (hne : @Ne Nat nl dx) (hRS : OwnOff RS [dx])
    (k : ∀ h' tk' t ct', Fr g L h' (fun y => if y = Str.ofString "out" then some (.int cnt t) else m y) → News g L h' ((nl, instObj 134 dx) :: (dx, dictOf (nlEs w.params k1 k2 k3 k4 k5 nm (cnt + 1) ct' inp outp cel) 5) :: RS) → Q .next { s with heap := h', toks := tk' }) :
    wpAny (MW w) { handled := none, depth := dd, frames := fr, guards := gs, units := uu } (exec (atS 6 turnB) (envOfC (Str.ofString "law") lawScope L fa cdv)) Q (fun _ _ => False) s := by
  have X' := G.X
  have T' := G.T
  replace F := fr_in1 F hm
  walk_at "SEG"
  walk_at "GOL"
  unfold Stop
  rename News _ _ _ _ => NN
  rename Fr _ _ _ _ => FF
  refine wpAny_call ?_
  refine newnet_spec G (At.of FF NN (by k_allIn)) (Nat.lt_trans hroom (by decide)) rfl (Nat.lt_trans hu (by decide)) hne ?_
  intro t2 ct2 h3 tk3 kb hd
  obtain ⟨F3, N3⟩ := after_upd FF NN (by k_upd) kb hd
  clear kb hd FF NN
  walk_at "GOL"
  exact k _ _ t2 ct2 (fr_x1 hm (by assumption)) (by assumption)
theorem s_row {fr gs} {rd ia : Addr} {ro : Obj} {rkvs : List (Int × Value)} {kd : Kind} {tkd to : Tok} {o : Int} {tv : Value} (G : Gd w mean mg mb g) (hroom : dd < 500) (hu : uu < 1500)
    (F : Fr g L s.heap m) (hm1 : m (Str.ofString "kind") = some (.str kd.str tkd)) (hm2 : m (Str.ofString "ins") = some (.ref ia)) (hm3 : m (Str.ofString "table") = some tv) (hm4 : m (Str.ofString "rows") = some (.ref rd)) (hm5 : m (Str.ofString "out") = some (.int o to))
    (N : News g L s.heap ((rd, ro) :: RS)) (hRS : OwnOff RS [rd]) (hro : ro.IsDictOf (intKind PySem.Challenge.rw_on0104_01.row.prog w) rkvs) (hkl : rkvs.length < 60)
    (k : ∀ h' tk' rt ro', Fr g L h' m → News g L h' ((rt, TupO #[.str kd.str tkd, .ref ia, tv]) :: (rd, ro') :: RS) → (∀ p ∈ (rd, ro) :: RS, p.1 < rt) → ro'.IsDictOf (intKind PySem.Challenge.rw_on0104_01.row.prog w) (stored rkvs o (.ref rt)) → Q .next { s with heap := h', toks := tk' }) :
    wpAny (MW w) { handled := none, depth := dd, frames := fr, guards := gs, units := uu } (exec (atS 7 turnB) (envOfC (Str.ofString "law") lawScope L fa cdv)) Q (fun _ _ => False) s := by
  have X' := G.X
  have T' := G.T
  replace F := fr_in5 F hm1 hm2 hm3 hm4 hm5
  walk_at "SEG"
  walk_at "GOL"
  rename_i rt hq Fq Nq lrt hz ro' FZ NZ hd'
  exact k _ _ rt ro' (fr_o5 hm1 hm2 hm3 hm4 hm5 FZ) NZ lrt hd'
theorem s_param {fr gs} {kd : Kind} {tkd : Tok} {tb : Int} {tv : Value} (G : Gd w mean mg mb g) (hroom : dd < 500) (hu : uu < 1500)
    (F : Fr g L s.heap m) (hm1 : m (Str.ofString "kind") = some (.str kd.str tkd)) (hm2 : m (Str.ofString "table") = some tv) (N : News g L s.heap RS) (hno : IsNoneOr kd tb tv)
    (k : ∀ h' tk' pv X, Fr g L h' (fun y => if y = Str.ofString "param" then some pv else m y) → News g L h' (X ++ RS) → (∀ p ∈ X, ∀ q ∈ RS, q.1 < p.1) → ParamP (InCL X) kd tb pv → Q .next { s with heap := h', toks := tk' }) :
    wpAny (MW w) { handled := none, depth := dd, frames := fr, guards := gs, units := uu } (exec (atS 8 turnB) (envOfC (Str.ofString "law") lawScope L fa cdv)) Q (fun _ _ => False) s := by
  have X' := G.X
  have T' := G.T
  replace F := fr_in2 F hm1 hm2
  walk_at "SEG"
  walk_at "GOL"
  · exact k _ _ tv [] (fr_x2 hm1 hm2 (by assumption)) (by assumption) (fun p hp => nomatch hp) (param_lut (by assumption) hno)
  · rename_i hA hB pt hq lpt hz FZ NZ
    exact k _ _ _ [(pt, TupO #[.str (Str.ofString "C") (s.toks + 1 + 1), tv])] (fr_x2 hm1 hm2 FZ) NZ (fun p hp q hq => by rw [List.mem_singleton.mp hp]; exact lpt q hq) (param_cell hB hno (.head _))
  · exact k _ _ .none [] (fr_x2 hm1 hm2 (by assumption)) (by assumption) (fun p hp => nomatch hp) (param_none (by assumption) (by assumption))
theorem s_app {fr gs} {wl ia : Addr} {wvs : List Value} {wn : Nat} {kd : Kind} {tkd to : Tok} {o : Int} {pv : Value} (G : Gd w mean mg mb g) (hroom : dd < 500) (hu : uu < 1500)
    (F : Fr g L s.heap m) (hm1 : m (Str.ofString "waiting") = some (.ref wl)) (hm2 : m (Str.ofString "out") = some (.int o to)) (hm3 : m (Str.ofString "kind") = some (.str kd.str tkd)) (hm4 : m (Str.ofString "ins") = some (.ref ia)) (hm5 : m (Str.ofString "param") = some pv)
    (N : News g L s.heap ((wl, W.listOf wvs.toArray wn) :: RS)) (hRS : OwnOff RS [wl]) (hwl : wvs.length < 60)
    (k : ∀ h' tk' wt, Fr g L h' m → News g L h' ((wt, TupO #[.int o to, .str kd.str tkd, .ref ia, pv]) :: (wl, W.listOf (wvs ++ [Value.ref wt]).toArray (wn + 1)) :: RS) → (∀ p ∈ (wl, W.listOf wvs.toArray wn) :: RS, p.1 < wt) → Q .next { s with heap := h', toks := tk' }) :
    wpAny (MW w) { handled := none, depth := dd, frames := fr, guards := gs, units := uu } (exec (atS 9 turnB) (envOfC (Str.ofString "law") lawScope L fa cdv)) Q (fun _ _ => False) s := by
  have X' := G.X
  have T' := G.T
  replace F := fr_in5 F hm1 hm2 hm3 hm4 hm5
  walk_at "SEG"
  walk_at "GOL"
  rename_i wt hq Fq Nq lwt hz FZ NZ
  rw [List.push_toArray] at NZ
  exact k _ _ wt (fr_o5 hm1 hm2 hm3 hm4 hm5 FZ) NZ lwt
end
end
section
section
variable {w : World} {s : Shared} {g : Heap} {mean : ExcName → Option Value} {mg mb : Str → Option Value} {dd uu : Nat} {L fa : Addr} {cdv : Value} {m : Str → Option Value} {RS : List (Addr × Obj)}
theorem s_test {fr gs} {Q : Bool → Shared → Prop} {wl : Addr} {wvs : List Value} {wn : Nat} (G : Gd w mean mg mb g) (hroom : dd < 500) (hu : uu < 1500)
    (F : Fr g L s.heap m) (hm1 : m (Str.ofString "waiting") = some (.ref wl)) (N : News g L s.heap ((wl, W.listOf wvs.toArray wn) :: RS))
    (k : ∀ h' tk', Fr g L h' m → News g L h' ((wl, W.listOf wvs.toArray wn) :: RS) → Q (!wvs.isEmpty) { s with heap := h', toks := tk' }) :
    wpAny (MW w) { handled := none, depth := dd, frames := fr, guards := gs, units := uu } (isTrue (testOf (atS 7 lawB)) (envOfC (Str.ofString "law") lawScope L fa cdv) (eval (testOf (atS 7 lawB)) (envOfC (Str.ofString "law") lawScope L fa cdv))) Q (fun _ _ => False) s := by
  have X' := G.X
  have T' := G.T
  replace F := fr_in1 F hm1
  have hu2 : uu < cLine := by rw [cLine_is]; omega
  walk_at "SEGT"
  walk_at "GOL"
  exact k _ _ (fr_o1 hm1 (by assumption)) (kst_newsOf (by assumption) fun p hp => .tail _ hp)
theorem s_pop {fr gs} {P : Nat → Addr → Int → Tok → Kind → Tok → Addr → Value → Prop} {Q : Flow → Shared → Prop} {wl st D : Addr} {oc : Obj} {at_ : Int} {ta : Tok} {na : Nat} {ws : List Value} {ns : List Int} {wvs : List Value} {wn : Nat} (G : Gd w mean mg mb g) (hroom : dd < 500) (hu : uu < 1500)
    (F : Fr g L s.heap m) (hm1 : m (Str.ofString "waiting") = some (.ref wl)) (N : News g L s.heap ((wl, W.listOf wvs.toArray wn) :: (st, StList D at_ ta na) :: (L + 1, oc) :: RS))
    (hoc : oc.data = .cell (some (.ref st))) (hD : (D, W.listOf ws.toArray 0) ∈ RS) (hDst : @Ne Nat D st) (hI : IntsAre ws ns) (hlen : ns.length ≤ 63) (h0 : 0 ≤ at_) (h1 : at_ < 1000) (hRS : OwnOff RS [st, wl]) (n1 : NEq st (L + 1)) (n2 : NEq st wl) (n3 : NEq wl (L + 1))
    (hp : (0 : Int) < (wvs.length : Int)) (hlw : wvs.length ≤ 60)
    (hw : ∀ i, i < wvs.length → ∃ a o t1 kd t2 ia pv, wvs[i]? = some (.ref a) ∧ (a, TupO #[.int o t1, .str (Kind.str kd) t2, .ref ia, pv]) ∈ RS ∧ P i a o t1 kd t2 ia pv)
    (k : ∀ h' tk' i a o t1 kd t2 ia pv t n, i < wvs.length → wvs[i]? = some (.ref a) → (a, TupO #[.int o t1, .str (Kind.str kd) t2, .ref ia, pv]) ∈ RS → P i a o t1 kd t2 ia pv →
      Fr g L h' (fun y => if y = Str.ofString "param" then some pv else if y = Str.ofString "ins" then some (.ref ia) else if y = Str.ofString "kind" then some (.str (Kind.str kd) t2) else if y = Str.ofString "out" then some (.int o t1) else m y) →
      News g L h' ((wl, W.listOf (wvs.eraseIdx i).toArray (wn + 1)) :: (st, StList D (at_ + 1) t n) :: (L + 1, oc) :: RS) → Q .next { s with heap := h', toks := tk' }) :
    wpAny (MW w) { handled := none, depth := dd, frames := fr, guards := gs, units := uu } (exec (atS 0 drvB) (envOfC (Str.ofString "law") lawScope L fa cdv)) Q (fun _ _ => False) s := by
  have X' := G.X
  have T' := G.T
  replace F := fr_in1 F hm1
  walk_at "SEG"
  walk_at "GOL"
  unfold Stop
  rename Bnd _ _ => hbd
  have hb0 := hbd.lo
  have hb1 := hbd.hi
  rename News _ _ _ _ => NN
  rename Fr _ _ _ _ => FF
  rename_i vd td1 td2 nd hq2 tkd
  have hlt : vd.toNat < wvs.length := by omega
  obtain ⟨a, o, t1, kd, t2, ia, pv, hvv, hct, hP⟩ := hw _ hlt
  refine pop_at FF NN hb0 hb1 hlw hvv (by k_upd) ?_
  intro h3 F3 N3
  clear FF NN hbd hb0 hb1
  replace N3 : News g L _ ((a, ({ cls := .type "tuple", data := .seq #[.int o t1, .str (Kind.str kd) t2, .ref ia, pv] } : Obj)) :: (wl, W.listOf (wvs.eraseIdx vd.toNat).toArray (wn + 1)) :: (st, StList D (at_ + 1) td2 nd) :: (L + 1, oc) :: RS) := fun p hp => by
    rcases List.mem_cons.mp hp with rfl | hp
    · exact N3 _ (.tail _ (.tail _ (.tail _ hct)))
    · exact N3 _ hp
  walk_at "GOL"
  exact k _ _ _ a o t1 kd t2 ia pv _ _ hlt hvv hct hP (fr_y41 hm1 (by assumption)) (kst_newsOf (by assumption) fun p hp => .tail _ hp)
theorem s_drive {fr gs} {Q : Flow → Shared → Prop} {nl dx inp outp cel ia : Addr} {k1 k2 k3 k4 k5 ct : Tok} {nm pv : Value} {cnt o : Int} {kd : Kind} {tkd to : Tok} {cvs ivs : List Value} {cn : Nat} (G : Gd w mean mg mb g) (hroom : dd < 500) (hu : uu < 1500)
    (F : Fr g L s.heap m) (hm1 : m (Str.ofString "netlist") = some (.ref nl)) (hm2 : m (Str.ofString "out") = some (.int o to)) (hm3 : m (Str.ofString "kind") = some (.str kd.str tkd)) (hm4 : m (Str.ofString "ins") = some (.ref ia)) (hm5 : m (Str.ofString "param") = some pv)
    (N : News g L s.heap ((cel, W.listOf cvs.toArray cn) :: (nl, instObj 134 dx) :: (dx, dictOf (nlEs w.params k1 k2 k3 k4 k5 nm cnt ct inp outp cel) 5) :: RS)) (hne : @Ne Nat nl dx) (hni : @Ne Nat cel nl ∧ @Ne Nat cel dx) (hRS : OwnOff RS [cel]) (hit : (ia, TupO ivs.toArray) ∈ RS) (hlc : cvs.length ≤ 100)
    (k : ∀ h' tk' tq cn', Fr g L h' m → News g L h' ((tq, TupO #[.str kd.str tkd, .int o to, .ref ia, pv]) :: (cel, W.listOf (cvs ++ [Value.ref tq]).toArray cn') :: (nl, instObj 134 dx) :: (dx, dictOf (nlEs w.params k1 k2 k3 k4 k5 nm cnt ct inp outp cel) 5) :: RS) →
      (∀ p ∈ (cel, W.listOf cvs.toArray cn) :: (nl, instObj 134 dx) :: (dx, dictOf (nlEs w.params k1 k2 k3 k4 k5 nm cnt ct inp outp cel) 5) :: RS, NEq p.1 tq) → Q .next { s with heap := h', toks := tk' }) :
    wpAny (MW w) { handled := none, depth := dd, frames := fr, guards := gs, units := uu } (exec (atS 1 drvB) (envOfC (Str.ofString "law") lawScope L fa cdv)) Q (fun _ _ => False) s := by
  have X' := G.X
  have T' := G.T
  replace F := fr_in5 F hm1 hm2 hm3 hm4 hm5
  have hc1 : @Ne Nat cel nl := hni.1
  have hc2 : @Ne Nat cel dx := hni.2
  walk_at "SEG"
  walk_at "GOL"
  unfold Stop
  rename News _ _ _ _ => NN
  rename Fr _ _ _ _ => FF
  have hia : IsTup _ ia ivs.toArray := ⟨_, (NN _ (.tail _ (.tail _ (.tail _ hit)))).1, rfl, _, rfl⟩
  refine wpAny_call ?_
  refine drive_spec (kd := kd) (cel := cel) (cvs := cvs) (cn := cn) G (At.of FF NN (by k_allIn)) (Nat.lt_trans hroom (by decide)) rfl (Nat.lt_trans hu (by decide)) hne hni hia hlc ?_
  intro tq cn2 h5 tk5 hn1 kb e1 e2
  obtain ⟨F5, N5⟩ := after_upd FF NN (by k_upd) kb e2
  obtain ⟨N6, o6⟩ := news_add FF NN N5 hn1 e1
  clear N5 kb e1 e2 hn1 hia FF NN
  walk_at "GOL"
  exact k _ _ tq cn2 (fr_o5 hm1 hm2 hm3 hm4 hm5 (by assumption)) (by assumption) o6
end
end
section
section
variable {w : World} {s : Shared} {g : Heap} {mean : ExcName → Option Value} {mg mb : Str → Option Value} {dd uu : Nat} {L fa : Addr} {cdv : Value} {m : Str → Option Value} {RS : List (Addr × Obj)} {Q : Flow → Shared → Prop}
theorem s_vals {fr gs} {nl dx inp outp cel : Addr} {k1 k2 k3 k4 k5 ct : Tok} {nm : Value} {c n : Nat} (G : Gd w mean mg mb g) (hroom : dd < 500) (hu : uu < 1500)
    (F : Fr g L s.heap m) (hm : m (Str.ofString "netlist") = some (.ref nl)) (N : News g L s.heap ((nl, instObj 134 dx) :: (dx, dictOf (nlEs w.params k1 k2 k3 k4 k5 nm (2 + (c : Int) + (n : Int)) ct inp outp cel) 5) :: RS)) (hc : c ≤ 10) (hn : n ≤ 10)
    (k : ∀ h' tk' va vvs, Fr g L h' (fun y => if y = Str.ofString "values" then some (.ref va) else m y) → News g L h' ((va, W.listOf vvs.toArray 0) :: (nl, instObj 134 dx) :: (dx, dictOf (nlEs w.params k1 k2 k3 k4 k5 nm (2 + (c : Int) + (n : Int)) ct inp outp cel) 5) :: RS) →
      (∀ p ∈ (nl, instObj 134 dx) :: (dx, dictOf (nlEs w.params k1 k2 k3 k4 k5 nm (2 + (c : Int) + (n : Int)) ct inp outp cel) 5) :: RS, p.1 < va) → IntsAre vvs (List.replicate (2 + c + n) 0) → Q .next { s with heap := h', toks := tk' }) :
    wpAny (MW w) { handled := none, depth := dd, frames := fr, guards := gs, units := uu } (exec (atS 8 lawB) (envOfC (Str.ofString "law") lawScope L fa cdv)) Q (fun _ _ => False) s := by
  have X' := G.X
  have T' := G.T
  replace F := fr_in1 F hm
  walk_at "SEG"
  walk_at "GOL"
  rename_i va hq lva iv n1 s1 e1 e2 e3 hz FZ NZ
  rw [vecs0] at iv
  exact k _ _ va _ (fr_x1 hm FZ) (kst_newsOf NZ (List.forall_mem_cons.mpr ⟨.head _, fun p hp => .tail _ (.tail _ hp)⟩)) (fun p hp => lva p (.tail _ hp)) iv
theorem s_vals1 {fr gs} {va : Addr} {vvs : List Value} {V : List Int} {vn : Nat} (G : Gd w mean mg mb g) (hroom : dd < 500) (hu : uu < 1500)
    (F : Fr g L s.heap m) (hm : m (Str.ofString "values") = some (.ref va)) (N : News g L s.heap ((va, W.listOf vvs.toArray vn) :: RS)) (hvi : IntsAre vvs V) (h2 : 2 ≤ vvs.length) (h3 : vvs.length ≤ 100) (hRS : OwnOff RS [va])
    (k : ∀ h' tk' vvs' vn', Fr g L h' m → News g L h' ((va, W.listOf vvs'.toArray vn') :: RS) → IntsAre vvs' (V.set 1 1) → Q .next { s with heap := h', toks := tk' }) :
    wpAny (MW w) { handled := none, depth := dd, frames := fr, guards := gs, units := uu } (exec (atS 9 lawB) (envOfC (Str.ofString "law") lawScope L fa cdv)) Q (fun _ _ => False) s := by
  have X' := G.X
  have T' := G.T
  have hvl := hvi.length
  replace F := fr_in1 F hm
  walk_at "SEG"
  walk_at "GOL"
  rename_i hz FZ NZ hi2 hl2 hs2
  exact k _ _ _ _ (fr_o1 hm FZ) NZ hi2
theorem s_bitsd {fr gs} (G : Gd w mean mg mb g) (hroom : dd < 500) (hu : uu < 1500) (F : Fr g L s.heap m) (N : News g L s.heap RS)
    (k : ∀ h' tk' bd bo, Fr g L h' (fun y => if y = Str.ofString "bits" then some (.ref bd) else m y) → News g L h' ((bd, bo) :: RS) → (∀ p ∈ RS, p.1 < bd) → bo.IsDictOf (intKind PySem.Challenge.rw_on0104_01.row.prog w) [] → Q .next { s with heap := h', toks := tk' }) :
    wpAny (MW w) { handled := none, depth := dd, frames := fr, guards := gs, units := uu } (exec (atS 10 lawB) (envOfC (Str.ofString "law") lawScope L fa cdv)) Q (fun _ _ => False) s := by
  have X' := G.X
  have T' := G.T
  walk_at "SEG"
  walk_at "GOL"
  rename_i bd hq bo lbd lob hs fs hi fi hz FZ NZ
  exact k _ _ bd bo FZ NZ lbd hi
inductive BitsInv (w : World) (L nt bd va st D : Addr) (ys : List Value) (oc : Obj) (c n : Nat) (at_ : Int) (RS : List (Addr × Obj)) (i : Nat) (nx : List (Addr × Obj)) : Prop
  | mk (vvs : List Value) (vn : Nat) (bo : Obj) (bkvs : List (Int × Value)) (a : Int) (t : Tok) (na : Nat) (bs : List Int) (e : nx = (nt, LCg.lst ys) :: (bd, bo) :: (va, W.listOf vvs.toArray vn) :: (st, StList D a t na) :: (L + 1, oc) :: RS) (hvi : IntsAre vvs (vecs c n bs)) (hbl : bs.length = i) (hb01 : ∀ b ∈ bs, b = 0 ∨ b = 1)
      (hbi : bo.IsDictOf (intKind PySem.Challenge.rw_on0104_01.row.prog w) bkvs) (hbk : bkvs.length ≤ i) (hbv : ∀ j : Nat, j < i → ∃ t, valueAt bkvs (2 + (j : Int)) = some (.int (bs.getD j 0) t)) (ha0 : at_ ≤ a) (ha1 : a ≤ at_ + (i : Int)) : BitsInv w L nt bd va st D ys oc c n at_ RS i nx
theorem s_bits {fr gs} {nt bd va st D : Addr} {oc bo : Obj} {at_ : Int} {ta : Tok} {na vn c n : Nat} {ws ys vvs : List Value} {ns : List Int} (G : Gd w mean mg mb g) (hroom : dd < 500) (hu : uu < 1500)
    (F : Fr g L s.heap m) (hm1 : m (Str.ofString "nets") = some (.ref nt)) (hm2 : m (Str.ofString "bits") = some (.ref bd)) (hm3 : m (Str.ofString "values") = some (.ref va))
    (N : News g L s.heap ((nt, LCg.lst ys) :: (bd, bo) :: (va, W.listOf vvs.toArray vn) :: (st, StList D at_ ta na) :: (L + 1, oc) :: RS)) (hoc : oc.data = .cell (some (.ref st))) (hD : (D, W.listOf ws.toArray 0) ∈ RS) (hDst : @Ne Nat D st) (hI : IntsAre ws ns) (hlen : ns.length ≤ 63) (h0 : 0 ≤ at_) (h1 : at_ < 900)
    (hRS : OwnOff RS [bd, va, st]) (n1 : NEq st (L + 1)) (n2 : NEq bd va) (n3 : NEq bd st) (n4 : NEq bd (L + 1)) (n5 : NEq va st) (n6 : NEq va (L + 1)) (n7 : NEq bd nt) (n8 : NEq va nt) (n9 : NEq st nt)
    (hys : IntsAre ys ((List.range c).map fun (i : Nat) => (2 : Int) + (i : Int))) (hvi : IntsAre vvs (vecs c n [])) (hbo : bo.IsDictOf (intKind PySem.Challenge.rw_on0104_01.row.prog w) []) (hc : c ≤ 10) (hn : n ≤ 10)
    (k : ∀ h' tk' m' vvs vn bo bkvs at' t na bs, Fr g L h' m' → (∀ z, [Str.ofString "net"].contains z = false → m' z = m z) → News g L h' ((nt, LCg.lst ys) :: (bd, bo) :: (va, W.listOf vvs.toArray vn) :: (st, StList D at' t na) :: (L + 1, oc) :: RS) →
      IntsAre vvs (vecs c n bs) → bs.length = c → (∀ b ∈ bs, b = 0 ∨ b = 1) → bo.IsDictOf (intKind PySem.Challenge.rw_on0104_01.row.prog w) bkvs → bkvs.length ≤ c → (∀ j : Nat, j < c → ∃ t, valueAt bkvs (2 + (j : Int)) = some (.int (bs.getD j 0) t)) → Q .next { s with heap := h', toks := tk' }) :
    wpAny (MW w) { handled := none, depth := dd, frames := fr, guards := gs, units := uu } (exec (atS 11 lawB) (envOfC (Str.ofString "law") lawScope L fa cdv)) Q (fun _ _ => False) s := by
  have X' := G.X
  have T' := G.T
  have hyl : ys.length = c := by rw [hys.length, List.length_map, List.length_range]
  replace F := fr_in1 F hm1
  walk_at "SEG"
  walk_at "GOL"
  unfold Stop
  rename Fr _ _ _ _ => FF
  rename News _ _ _ _ => NN
  replace FF := fr_o1 hm1 FF
  refine iter_list_S (lo := LCg.lst ys) [Str.ofString "net"] (fun i _ nx => BitsInv w L nt bd va st D ys oc c n at_ RS i nx)
    rfl ⟨rfl, _, rfl⟩ (fun j m nx => by rintro ⟨_, _, _, _, _, _, _, _, rfl, _, _, _, _, _, _, _, _⟩; exact .head _) FF NN ⟨vvs, vn, bo, [], at_, ta, na, [], rfl, hvi, rfl, (fun _ h => nomatch h), hbo, Nat.le_refl _, (fun j h => absurd h (Nat.not_lt_zero _)), Int.le_refl _, by omega⟩ ?_ ?_
  · clear FF NN hvi hbo k hm1
    rintro i v m₃ news₃ h tk I oI hi hv ⟨vvs, vn, bo, bkvs, a, tA, n', bs, rfl, hvi, hbl, hb01, hbi, hbk, hbv, ha0, ha1⟩ hnI F N
    obtain ⟨m4, F4, e1, e2⟩ := turn_map F
    clear F
    have e3 := (e2 (Str.ofString "bits") (by decide) (by decide)).trans hm2
    have e4 := (e2 (Str.ofString "values") (by decide) (by decide)).trans hm3
    have hic : i < c := by simpa [hyl] using hi
    obtain ⟨tv, hvt⟩ := hys.get i (2 + (i : Int)) (by simp [hic])
    have hve : v = .int (2 + (i : Int)) tv := by
      have hv' : ys[i]? = some v := by simpa using hv
      rw [hvt] at hv'; exact (Option.some.inj hv').symm
    subst hve
    have hJ0 : NEq bd I := hnI (bd, _) (by k_mem)
    have hJ1 : NEq va I := hnI (va, _) (by k_mem)
    have hJ2 : NEq st I := hnI (st, _) (by k_mem)
    have hoff : OwnOff (RS ++ [(I, oI)]) [bd, va, st] := by
      intro q hq b hb
      rcases List.mem_append.mp hq with q1 | q1
      · exact hRS q q1 b hb
      · rw [List.mem_singleton.mp q1]
        simp only [List.mem_cons, List.not_mem_nil, or_false] at hb
        rcases hb with rfl | rfl | rfl <;> (exact Ne.symm (by assumption))
    have hD2 : (D, W.listOf ws.toArray 0) ∈ RS ++ [(I, oI)] := List.mem_append_left _ hD
    replace N : News g L h ((nt, LCg.lst ys) :: (bd, bo) :: (va, W.listOf vvs.toArray vn) :: (st, StList D a tA n') :: (L + 1, oc) :: (RS ++ [(I, oI)])) := N
    replace hnI : OffI I _ := hnI
    have hvl := hvi.length
    rw [vecs_length (by omega)] at hvl
    have h2a : 0 ≤ a := Int.le_trans h0 ha0
    have h3a : a < 1000 := by omega
    have ha2 : a + 1 ≤ at_ + ((i + 1 : Nat) : Int) := by omega
    have ha3 : at_ ≤ a + 1 := Int.le_trans ha0 (Int.le_add_of_nonneg_right (by decide))
    have hbk2 : bkvs.length < 60 := by omega
    clear hv hvt ha0 ha1 h0 h1 hm2 hm3 hi
    replace F4 : Fr g L h _ := fr_in3 F4 e1 e3 e4
    walk_at "GOL"
    unfold Stop
    rename_i v tq1 tq2 nq hq1 tkq Fq Nq hbd hq2 bo2 FF NN hd2
    k_dflt (refine item_dict (kda_dict NN (by k_mem) hd2) (valueAt_self _ _ _) ?_)
    clear Fq Nq
    have hb0 := hbd.lo
    have hb1 := hbd.hi
    clear hbd
    walk_at "GOL"
    rename_i hq3 FZ NZ hvi2 hvl2 hvs2
    have e5 : (2 + (i : Int)).toNat = 2 + bs.length := by omega
    rw [e5] at hvi2 NZ
    rw [vecs_set (by omega)] at hvi2
    clear hvl2 hvs2
    refine InvEndX.intro (nx := (nt, LCg.lst ys) :: (bd, bo2) :: (va, W.listOf (vvs.set (2 + bs.length) (Value.int v tq1)).toArray _) :: (st, StList D (a + 1) tq2 nq) :: (L + 1, oc) :: RS) (fr_o3 e1 e3 e4 FZ) NZ
      ⟨⟨_, _, bo2, _, a + 1, tq2, nq, bs ++ [v], rfl, hvi2, by rw [List.length_append, hbl]; rfl, fun b hb => ?_, hd2, Nat.le_trans (stored_length_le _ _ _) (Nat.succ_le_succ hbk), bits_step hbl hbv, ha3, ha2⟩, keep_one e2⟩ (by walk_at "SUBL") (by repeat (first | exact .head _ | exact List.mem_append_right _ (.head _) | apply List.Mem.tail)) (hnI.same rfl)
    rcases List.mem_append.mp hb with q | q
    · exact hb01 b q
    · rw [List.mem_singleton.mp q]; omega
  · clear FF NN hvi hbo
    rintro m₃ news₃ h tk ⟨vvs, vn, bo, bkvs, a, tA, n', bs, rfl, hvi, hbl, hb01, hbi, hbk, hbv, ha0, ha1⟩ F N
    obtain ⟨m4, F4, e2⟩ := done_map F
    simp only [List.size_toArray, hyl] at hbl hbk hbv
    exact k _ _ m4 vvs vn bo bkvs a tA n' bs F4 e2 N hvi hbl hb01 hbi hbk hbv
end
end
section
section
variable {w : World} {s : Shared} {g : Heap} {mean : ExcName → Option Value} {mg mb : Str → Option Value} {dd uu : Nat} {L fa : Addr} {cdv : Value} {m : Str → Option Value} {RS : List (Addr × Obj)} {Q : Flow → Shared → Prop}
theorem s_dued {fr gs} (G : Gd w mean mg mb g) (hroom : dd < 500) (hu : uu < 1500) (F : Fr g L s.heap m) (N : News g L s.heap RS)
    (k : ∀ h' tk' du od t0 t1, Fr g L h' (fun y => if y = Str.ofString "due" then some (.ref du) else m y) → News g L h' ((du, od) :: RS) → (∀ p ∈ RS, p.1 ≠ du) → od.IsDictOf (intKind PySem.Challenge.rw_on0104_01.row.prog w) [(0, .int 0 t0), (1, .int 1 t1)] → Q .next { s with heap := h', toks := tk' }) :
    wpAny (MW w) { handled := none, depth := dd, frames := fr, guards := gs, units := uu } (exec (atS 12 lawB) (envOfC (Str.ofString "law") lawScope L fa cdv)) Q (fun _ _ => False) s := by
  have X' := G.X
  have T' := G.T
  walk_at "SEG"
  walk_at "GOL"
  rename_i hz od l1 lod hdd hfd apd h2 FZ NZ
  have hD0 : od.IsDictOf (intKind PySem.Challenge.rw_on0104_01.row.prog w) [(0, .int 0 _), (1, .int 1 _)] := hdd
  exact k _ _ _ od _ _ FZ NZ apd hD0
theorem s_duea {fr gs} {nt bd du : Addr} {bo od : Obj} {c : Nat} {ys : List Value} {bs : List Int} {bkvs dkvs : List (Int × Value)} {dv : Int → Int} (G : Gd w mean mg mb g) (hroom : dd < 500) (hu : uu < 1500)
    (F : Fr g L s.heap m) (hm1 : m (Str.ofString "nets") = some (.ref nt)) (hm2 : m (Str.ofString "bits") = some (.ref bd)) (hm3 : m (Str.ofString "due") = some (.ref du))
    (N : News g L s.heap ((nt, LCg.lst ys) :: (bd, bo) :: (du, od) :: RS)) (hRS : OwnOff RS [du]) (n1 : NEq du nt) (n2 : NEq du bd)
    (hys : IntsAre ys ((List.range c).map fun (i : Nat) => (2 : Int) + (i : Int))) (hbi : bo.IsDictOf (intKind PySem.Challenge.rw_on0104_01.row.prog w) bkvs) (hbv : ∀ j : Nat, j < c → ∃ t, valueAt bkvs (2 + (j : Int)) = some (.int (bs.getD j 0) t))
    (hdv : ∀ j : Nat, j < c → bs.getD j 0 = dv ((2 + j : Nat) : Int)) (hdo : od.IsDictOf (intKind PySem.Challenge.rw_on0104_01.row.prog w) dkvs) (hdk : dkvs.length ≤ 2) (hdu : DueOK dkvs dv 2) (hc : c ≤ 10)
    (k : ∀ h' tk' m' od dkvs, Fr g L h' m' → (∀ z, [Str.ofString "net"].contains z = false → m' z = m z) → News g L h' ((nt, LCg.lst ys) :: (bd, bo) :: (du, od) :: RS) → od.IsDictOf (intKind PySem.Challenge.rw_on0104_01.row.prog w) dkvs → dkvs.length ≤ 2 + c → DueOK dkvs dv (2 + c) → Q .next { s with heap := h', toks := tk' }) :
    wpAny (MW w) { handled := none, depth := dd, frames := fr, guards := gs, units := uu } (exec (atS 13 lawB) (envOfC (Str.ofString "law") lawScope L fa cdv)) Q (fun _ _ => False) s := by
  have X' := G.X
  have T' := G.T
  have hyl : ys.length = c := by rw [hys.length, List.length_map, List.length_range]
  replace F := fr_in1 F hm1
  walk_at "SEG"
  walk_at "GOL"
  unfold Stop
  rename Fr _ _ _ _ => FF
  rename News _ _ _ _ => NN
  replace FF := fr_o1 hm1 FF
  refine iter_list_S (lo := LCg.lst ys) [Str.ofString "net"] (fun i _ nx => ∃ od dkvs, nx = (nt, LCg.lst ys) :: (bd, bo) :: (du, od) :: RS ∧ od.IsDictOf (intKind PySem.Challenge.rw_on0104_01.row.prog w) dkvs ∧ dkvs.length ≤ 2 + i ∧ DueOK dkvs dv (2 + i))
    rfl ⟨rfl, _, rfl⟩ (fun j m nx => by rintro ⟨_, _, rfl, _⟩; exact .head _) FF NN ⟨od, _, rfl, hdo, hdk, hdu⟩ ?_ ?_
  · clear FF NN hdo hdk hdu k hm1
    rintro i v m₃ news₃ h tk I oI hi hv ⟨od, dkvs, rfl, hdo, hdk, hdu⟩ hnI F N
    obtain ⟨m4, F4, e1, e2⟩ := turn_map F
    clear F
    have e3 := (e2 (Str.ofString "bits") (by decide) (by decide)).trans hm2
    have e4 := (e2 (Str.ofString "due") (by decide) (by decide)).trans hm3
    have hic : i < c := by simpa [hyl] using hi
    obtain ⟨tv, hvt⟩ := hys.get i (2 + (i : Int)) (by simp [hic])
    have hve : v = .int (2 + (i : Int)) tv := by
      have hv' : ys[i]? = some v := by simpa using hv
      rw [hvt] at hv'; exact (Option.some.inj hv').symm
    subst hve
    obtain ⟨tb, hb⟩ := hbv i hic
    have hJ0 : NEq du I := hnI (du, _) (by k_mem)
    have hoff : OwnOff (RS ++ [(I, oI)]) [du] := by
      intro q hq b hb
      rcases List.mem_append.mp hq with q1 | q1
      · exact hRS q q1 b hb
      · rw [List.mem_singleton.mp q1, List.mem_singleton.mp hb]
        exact Ne.symm (by assumption)
    replace N : News g L h ((nt, LCg.lst ys) :: (bd, bo) :: (du, od) :: (RS ++ [(I, oI)])) := N
    replace hnI : OffI I _ := hnI
    have hdk2 : dkvs.length < 60 := by omega
    have hdvi := hdv i hic
    have ek : 2 + (i : Int) = ((2 + i : Nat) : Int) := by omega
    clear hv hvt hi hm2 hm3
    replace F4 : Fr g L h _ := fr_in3 F4 e1 e3 e4
    walk_at "GOL"
    unfold Stop
    k_dflt (refine item_dict (kda_dict N (by k_mem) hbi) hb ?_)
    walk_at "GOL"
    rename_i hz1 od2 FZ NZ hd2
    exact InvEndX.intro (nx := (nt, LCg.lst ys) :: (bd, bo) :: (du, od2) :: RS) (fr_o3 e1 e3 e4 FZ) NZ
      ⟨⟨od2, _, rfl, hd2, Nat.le_trans (stored_length_le _ _ _) (Nat.succ_le_succ hdk), hdu.step ek hdvi⟩, keep_one e2⟩ (by walk_at "SUBL") (by repeat (first | exact .head _ | exact List.mem_append_right _ (.head _) | apply List.Mem.tail)) (hnI.same rfl)
  · clear FF NN hdo hdk hdu
    rintro m₃ news₃ h tk ⟨od, dkvs, rfl, hdo, hdk, hdu⟩ F N
    obtain ⟨m4, F4, e2⟩ := done_map F
    simp only [List.size_toArray, hyl] at hdk hdu
    exact k _ _ m4 od dkvs F4 e2 N hdo hdk hdu
theorem s_dueb {fr gs} {rd du : Addr} {ro od : Obj} {c : Nat} {rkvs dkvs : List (Int × Value)} {cs0 : List CellD} {dv : Int → Int} (G : Gd w mean mg mb g) (hroom : dd < 500) (hu : uu < 1500)
    (F : Fr g L s.heap m) (hm1 : m (Str.ofString "rows") = some (.ref rd)) (hm3 : m (Str.ofString "due") = some (.ref du))
    (N : News g L s.heap ((rd, ro) :: (du, od) :: RS)) (hRS : OwnOff RS [du]) (n1 : NEq du rd) (lord : (rd == sysModules) = false)
    (hro : ro.IsDictOf (intKind PySem.Challenge.rw_on0104_01.row.prog w) rkvs) (hgen : GenOK c cs0) (hrw : Each (RowP (InCL RS)) rkvs cs0) (hl : cs0.length ≤ 10) (hc : c ≤ 10)
    (hdv : ∀ x ∈ cs0, dv x.out = cellVal x.kind x.tb (x.ins.map dv)) (h01 : ∀ n, dv n = 0 ∨ dv n = 1) (hdo : od.IsDictOf (intKind PySem.Challenge.rw_on0104_01.row.prog w) dkvs) (hdk : dkvs.length ≤ 2 + c) (hdu : DueOK dkvs dv (2 + c))
    (k : ∀ h' tk' m' od dkvs, Fr g L h' m' → (∀ z, [Str.ofString "net"].contains z = false → m' z = m z) → News g L h' ((rd, ro) :: (du, od) :: RS) → od.IsDictOf (intKind PySem.Challenge.rw_on0104_01.row.prog w) dkvs → DueOK dkvs dv (2 + c + cs0.length) → Q .next { s with heap := h', toks := tk' }) :
    wpAny (MW w) { handled := none, depth := dd, frames := fr, guards := gs, units := uu } (exec (atS 14 lawB) (envOfC (Str.ofString "law") lawScope L fa cdv)) Q (fun _ _ => False) s := by
  have X' := G.X
  have T' := G.T
  have hasc : (rkvs.map (·.1)).Pairwise (· < ·) := by rw [rows_outs hrw]; exact outs_asc hgen
  have hkl : rkvs.length < 60 := by have := hrw.length; omega
  replace F := fr_in1 F hm1
  walk_at "SEG"
  walk_at "GOL"
  unfold Stop
  rename_i sl svl scn hq1 tkq FF NN lsl hsi
  replace FF := fr_o1 hm1 FF
  have hso : svl.length = cs0.length := by
    rw [hsi.length, List.length_map, hrw.length]
  have nsl : NEq du sl := ltne lsl (.tail _ (.head _))
  refine iter_list_S (lo := W.listOf svl.toArray scn) [Str.ofString "net"] (fun i _ nx => ∃ od dkvs, nx = (sl, W.listOf svl.toArray scn) :: (rd, ro) :: (du, od) :: RS ∧ od.IsDictOf (intKind PySem.Challenge.rw_on0104_01.row.prog w) dkvs ∧ dkvs.length ≤ 2 + c + i ∧ DueOK dkvs dv (2 + c + i))
    rfl ⟨rfl, _, rfl⟩ (fun j m nx => by rintro ⟨_, _, rfl, _⟩; exact .head _) FF NN ⟨od, _, rfl, hdo, hdk, hdu⟩ ?_ ?_
  · clear FF NN hdo hdk hdu k lsl F
    rintro i v m₄ news₄ h tk I oI hi hv ⟨od, dkvs, rfl, hdo, hdk, hdu2⟩ hnI F N
    obtain ⟨m4, F4, e1, e2⟩ := turn_map F
    clear F
    have e3 := (e2 (Str.ofString "rows") (by decide) (by decide)).trans hm1
    have e4 := (e2 (Str.ofString "due") (by decide) (by decide)).trans hm3
    have hil : i < cs0.length := by simpa [hso] using hi
    obtain ⟨hxo, hxi, hxa, hxt⟩ := hgen i hil
    obtain ⟨kv, hkv, a, tka, ia, tvv, ivs, rfl, hct, hit, hii, hnn⟩ := hrw.get i hil
    have hrv := valueAt_asc hasc hkv
    obtain ⟨tv, hvt⟩ := hsi.get i (cs0[i]).out (by rw [rows_outs hrw]; simp [hil])
    have hve : v = .int (cs0[i]).out tv := by
      have hv' : svl[i]? = some v := by simpa using hv
      rw [hvt] at hv'; exact (Option.some.inj hv').symm
    subst hve
    have hdvo := hdv _ (List.getElem_mem hil)
    generalize cs0[i] = x at *
    have hJ0 : NEq du I := hnI (du, _) (by k_mem)
    have hoff : OwnOff (RS ++ [(I, oI)]) [du] := by
      intro q hq b hb
      rcases List.mem_append.mp hq with q1 | q1
      · exact hRS q q1 b hb
      · rw [List.mem_singleton.mp q1, List.mem_singleton.mp hb]
        exact Ne.symm (by assumption)
    replace N : News g L h ((sl, W.listOf svl.toArray scn) :: (rd, ro) :: (du, od) :: (RS ++ [(I, oI)])) := N
    replace hnI : OffI I _ := hnI
    have hdk2 : dkvs.length < 60 := by omega
    have ek : x.out = ((2 + c + i : Nat) : Int) := by omega
    have hx2 : ∀ n ∈ x.ins, n < ((2 + c + i : Nat) : Int) := fun n hn => by have := (hxi n hn).2; omega
    have hkl3 : 2 + c + i + 1 < 60 := by omega
    clear hv hvt hkv hi hil hasc hkl hxo hl hc hsi hrw hgen hdv
    replace F4 : Fr g L h _ := fr_in3 F4 e1 e3 e4
    walk_at "GOL"
    unfold Stop
    k_dflt (refine item_dict (kda_dict N (by k_mem) hro) hrv ?_)
    walk_at "GOL"
    unfold Stop
    rename Fr _ _ _ _ => FF
    refine wpAny_call ?_
    refine out_spec (kd := x.kind) (val := dv) G (At.nil FF) (Nat.lt_trans hroom (by decide)) rfl (Nat.lt_trans hu (by decide)) (InCL.tup hct N fun p hp => .tail _ (.tail _ (.tail _ (List.mem_append_left _ hp)))) (InCL.tup hit N fun p hp => .tail _ (.tail _ (.tail _ (List.mem_append_left _ hp)))) hii (kda_dict N (.tail _ (.tail _ (.head _))) hdo)
      (fun n hn => hdu2.at (hxi n hn).1 (hx2 n hn)) hxa (fun n hn => h01 n) hxt hnn ?_
    intro t2 h2 tk2 kb
    obtain ⟨F2, N2⟩ := after_pure FF N kb
    clear kb FF N
    rw [← hdvo]
    walk_at "GOL"
    rename_i hz1 od2 FZ NZ hd2
    exact InvEndX.intro (nx := (sl, W.listOf svl.toArray scn) :: (rd, ro) :: (du, od2) :: RS) (fr_o3 e1 e3 e4 FZ) NZ
      ⟨⟨od2, _, rfl, hd2, Nat.le_trans (stored_length_le _ _ _) (Nat.succ_le_succ hdk), hdu2.step ek (by rw [ek])⟩, keep_one e2⟩ (by walk_at "SUBL") (by repeat (first | exact .head _ | exact List.mem_append_right _ (.head _) | apply List.Mem.tail)) (hnI.same rfl)
  · clear FF NN hdo hdk hdu
    rintro m₃ news₃ h tk ⟨od, dkvs, rfl, hdo, hdk, hdu⟩ F N
    obtain ⟨m4, F4, e2⟩ := done_map F
    simp only [List.size_toArray, hso] at hdu
    exact k _ _ m4 od dkvs F4 e2 (fun p hp => N p (.tail _ hp)) hdo hdu
end
end
section
section
variable {w : World} {s : Shared} {g : Heap} {mean : ExcName → Option Value} {mg mb : Str → Option Value} {dd uu : Nat} {L fa : Addr} {cdv : Value} {m : Str → Option Value} {RS : List (Addr × Obj)} {Q : Flow → Shared → Prop}
theorem s_ord {fr gs} {nl dx inp outp cel tp bl : Addr} {k1 k2 k3 k4 k5 ct : Tok} {nm tn : Value} {cnt : Int} {cvs ys : List Value} {cn m1 m2 c : Nat} {cs : List CellD} (G : Gd w mean mg mb g) (hroom : dd < 500) (hu : uu < 1500)
    (F : Fr g L s.heap m) (hm : m (Str.ofString "netlist") = some (.ref nl)) (N : News g L s.heap ((nl, instObj 134 dx) :: (dx, dictOf (nlEs w.params k1 k2 k3 k4 k5 nm cnt ct inp outp cel) 5) :: RS)) (hne : @Ne Nat nl dx)
    (hcl : (cel, W.listOf cvs.toArray cn) ∈ RS) (hinp : (inp, W.listOf #[Value.ref tp] m2) ∈ RS) (htp : (tp, TupO #[tn, .ref bl]) ∈ RS) (hbl : (bl, W.listOf ys.toArray m1) ∈ RS) (hRS : OwnOff RS [nl, dx]) (hcv : CellsP (InCL RS) cvs cs) (hys : IntsAre ys ((List.range c).map fun (i : Nat) => (2 : Int) + (i : Int))) (hN : Net cs c)
    (k : ∀ h' tk' oa rvs rn r, Fr g L h' (fun y => if y = Str.ofString "order_of" then some (.ref oa) else m y) → News g L h' ((oa, W.listOf rvs.toArray rn) :: (nl, instObj 134 dx) :: (dx, dictOf (nlEs w.params k1 k2 k3 k4 k5 nm cnt ct inp outp cel) 5) :: RS) →
      (∀ p ∈ (nl, instObj 134 dx) :: (dx, dictOf (nlEs w.params k1 k2 k3 k4 k5 nm cnt ct inp outp cel) 5) :: RS, p.1 ≠ oa) → IntsAre rvs (castL r) → r.Nodup → (∀ j, j ∈ r ↔ j < cs.length) → (∀ k (h : k < r.length), ∀ b ∈ deps cs (r[k]), b ∈ r.take k) → Q .next { s with heap := h', toks := tk' }) :
    wpAny (MW w) { handled := none, depth := dd, frames := fr, guards := gs, units := uu } (exec (atS 15 lawB) (envOfC (Str.ofString "law") lawScope L fa cdv)) Q (fun _ _ => False) s := by
  have X' := G.X
  have T' := G.T
  have f1 : ∀ {a : Addr} {o : Obj}, (a, o) ∈ RS → a ≠ nl ∧ a ≠ dx := fun {a o} h => ⟨hRS _ h nl (.head _), hRS _ h dx (.tail _ (.head _))⟩
  replace F := fr_in1 F hm
  walk_at "SEG"
  walk_at "GOL"
  unfold Stop
  rename News _ _ _ _ => NN
  rename Fr _ _ _ _ => FF
  have hcs1 : CellsAt _ cvs cs := hcv.mono fun a its x => InCL.tup x NN (fun p hp => .tail _ (.tail _ hp))
  refine wpAny_call ?_
  refine comb_spec (cel := cel) (inp := inp) (tp := tp) (bl := bl) (cvs := cvs) (bvs := ys) (c := c) (tn := tn) G (At.of FF NN (by k_allIn)) (Nat.lt_trans hroom (by decide)) rfl (Nat.lt_trans hu (by decide)) hne (islist_of NN (.tail _ (.tail _ hcl))) (f1 hcl) hcs1
    (islist_of NN (.tail _ (.tail _ hinp))) (f1 hinp) ⟨_, (NN _ (.tail _ (.tail _ htp))).1, rfl, _, rfl⟩ (islist_of NN (.tail _ (.tail _ hbl))) (f1 hbl) (by rw [netsOf_eq]; exact hys) hN ?_
  intro oa rvs rn r h3 tk3 han hao hrv hnd hmem htopo kb3
  obtain ⟨F3, N3, off3⟩ := after_new FF NN kb3 han hao
  clear FF NN kb3 han hao hcs1
  walk_at "GOL"
  exact k _ _ oa rvs rn r (fr_x1 hm (by assumption)) (by assumption) off3 hrv hnd hmem htopo
theorem s_chk {fr gs} {nl dx inp outp cel oa : Addr} {k1 k2 k3 k4 k5 ct : Tok} {nm : Value} {cnt : Int} {cvs rvs : List Value} {cn rn : Nat} {r : List Nat} (G : Gd w mean mg mb g) (hroom : dd < 500) (hu : uu < 1500)
    (F : Fr g L s.heap m) (hm1 : m (Str.ofString "order_of") = some (.ref oa)) (hm2 : m (Str.ofString "netlist") = some (.ref nl)) (N : News g L s.heap ((oa, W.listOf rvs.toArray rn) :: (nl, instObj 134 dx) :: (dx, dictOf (nlEs w.params k1 k2 k3 k4 k5 nm cnt ct inp outp cel) 5) :: (cel, W.listOf cvs.toArray cn) :: RS))
    (hrv : IntsAre rvs (castL r)) (hnd : r.Nodup) (hmem : ∀ j, j ∈ r ↔ j < cvs.length) (hcl : cvs.length ≤ 10) (hrl : rvs.length ≤ 10)
    (k : ∀ h' tk', Fr g L h' m → News g L h' ((oa, W.listOf rvs.toArray rn) :: (nl, instObj 134 dx) :: (dx, dictOf (nlEs w.params k1 k2 k3 k4 k5 nm cnt ct inp outp cel) 5) :: (cel, W.listOf cvs.toArray cn) :: RS) → Q .next { s with heap := h', toks := tk' }) :
    wpAny (MW w) { handled := none, depth := dd, frames := fr, guards := gs, units := uu } (exec (atS 16 lawB) (envOfC (Str.ofString "law") lawScope L fa cdv)) Q (fun _ _ => False) s := by
  have X' := G.X
  have T' := G.T
  have hu2 : uu < cLine := by rw [cLine_is]; omega
  have hu3 : uu + 64 < cLine := by rw [cLine_is]; omega
  replace F := fr_in2 F hm1 hm2
  walk_at "SEG"
  walk_at "GOL"
  · exact k _ _ (fr_o2 hm1 hm2 (by assumption)) (kst_newsOf (by assumption) fun p hp => .tail _ (.tail _ hp))
  · rename ¬ _ = _ => hne
    rename List.Perm _ _ => hp
    rename List.Pairwise _ _ => ho
    exact absurd ((sorted_order hp ho hnd hmem).trans (rk9 _).symm) hne
end
end
section
section
variable {w : World} {s : Shared} {g : Heap} {mean : ExcName → Option Value} {mg mb : Str → Option Value} {dd uu : Nat} {L fa : Addr} {cdv : Value} {m : Str → Option Value} {RS : List (Addr × Obj)} {Q : Flow → Shared → Prop}
theorem s_eval {fr gs} {nl dx inp outp cel oa va : Addr} {k1 k2 k3 k4 k5 ct : Tok} {nm : Value} {cnt : Int} {cvs rvs vvs : List Value} {cn rn vn : Nat} {cs : List CellD} {V r : List Int} (G : Gd w mean mg mb g) (hroom : dd < 500) (hu : uu < 1500)
    (F : Fr g L s.heap m) (hm1 : m (Str.ofString "netlist") = some (.ref nl)) (hm2 : m (Str.ofString "order_of") = some (.ref oa)) (hm3 : m (Str.ofString "values") = some (.ref va))
    (N : News g L s.heap ((va, W.listOf vvs.toArray vn) :: (nl, instObj 134 dx) :: (dx, dictOf (nlEs w.params k1 k2 k3 k4 k5 nm cnt ct inp outp cel) 5) :: RS)) (hne : @Ne Nat va nl ∧ @Ne Nat va dx ∧ @Ne Nat nl dx) (hRS : OwnOff RS [va, nl, dx])
    (hcl : (cel, W.listOf cvs.toArray cn) ∈ RS) (hol : (oa, W.listOf rvs.toArray rn) ∈ RS) (hcv : CellsP (InCL RS) cvs cs) (hvi : IntsAre vvs V) (hrv : IntsAre rvs r) (hvl : vvs.length ≤ 100) (hcl2 : cs.length ≤ 100)
    (hin : ∀ i ∈ r, 0 ≤ i ∧ i < cs.length) (hall : ∀ cc ∈ cs, cellArity cc.kind cc.ins.length ∧ 0 ≤ cc.tb ∧ 0 ≤ cc.out ∧ cc.out < V.length ∧ ∀ n ∈ cc.ins, 0 ≤ n ∧ n < V.length) (h01 : ∀ v ∈ V, v = 0 ∨ v = 1)
    (k : ∀ h' tk' vvs' vn', Fr g L h' m → News g L h' ((va, W.listOf vvs'.toArray vn') :: (nl, instObj 134 dx) :: (dx, dictOf (nlEs w.params k1 k2 k3 k4 k5 nm cnt ct inp outp cel) 5) :: RS) → IntsAre vvs' (r.foldl (evalStep cs) V) → Q .next { s with heap := h', toks := tk' }) :
    wpAny (MW w) { handled := none, depth := dd, frames := fr, guards := gs, units := uu } (exec (atS 0 (bodyOf (atS 17 lawB))) (envOfC (Str.ofString "law") lawScope L fa cdv)) Q (fun _ _ => False) s := by
  have X' := G.X
  have T' := G.T
  have f1 : ∀ {a : Addr} {o : Obj}, (a, o) ∈ RS → a ≠ va ∧ a ≠ nl ∧ a ≠ dx := fun {a o} h => ⟨hRS _ h va (.head _), hRS _ h nl (.tail _ (.head _)), hRS _ h dx (.tail _ (.tail _ (.head _)))⟩
  have hRV : OwnOff RS [va] := fun p hp b hb => hRS p hp b (by rw [List.mem_singleton.mp hb]; exact .head _)
  have hne1 := hne.1
  have hne2 := hne.2.1
  replace F := fr_in3 F hm1 hm2 hm3
  walk_at "SEG"
  walk_at "GOL"
  unfold Stop
  rename News _ _ _ _ => NN
  rename Fr _ _ _ _ => FF
  have hcs1 : CellsAt _ cvs cs := hcv.mono fun a its x => InCL.tup x NN (fun p hp => .tail _ (.tail _ (.tail _ hp)))
  refine wpAny_call ?_
  refine evalc_spec (va := va) (vvs := vvs) (nv := vn) (vals := V) (order := r) (cs := cs) (cel := cel) (cvs := cvs) (ovs := rvs) G (At.of FF NN (by k_allIn)) (Nat.lt_trans hroom (by decide)) rfl (Nat.lt_trans hu (by decide)) hne hvl hvi (islist_of NN (.tail _ (.tail _ (.tail _ hcl)))) (f1 hcl) hcs1
    (islist_of NN (.tail _ (.tail _ (.tail _ hol)))) (f1 hol) hrv hin hcl2 hall h01 ?_
  intro vvs2 vn2 h2 tk2 hv2 hd kb
  obtain ⟨F2, N2⟩ := after_upd FF NN (by k_upd) kb hd
  clear kb hd FF NN hcs1
  walk_at "GOL"
  exact k _ _ vvs2 vn2 (fr_o3 hm1 hm2 hm3 (by assumption)) (by assumption) hv2
theorem s_cmp {fr gs} {nl dx inp outp cel va du : Addr} {k1 k2 k3 k4 k5 ct : Tok} {nm : Value} {c n : Nat} {vvs : List Value} {vn : Nat} {od : Obj} {dkvs : List (Int × Value)} {dv : Int → Int} (G : Gd w mean mg mb g) (hroom : dd < 500) (hu : uu < 1500)
    (F : Fr g L s.heap m) (hm1 : m (Str.ofString "netlist") = some (.ref nl)) (hm2 : m (Str.ofString "due") = some (.ref du)) (hm3 : m (Str.ofString "values") = some (.ref va))
    (N : News g L s.heap ((va, W.listOf vvs.toArray vn) :: (du, od) :: (nl, instObj 134 dx) :: (dx, dictOf (nlEs w.params k1 k2 k3 k4 k5 nm (2 + (c : Int) + (n : Int)) ct inp outp cel) 5) :: RS))
    (hvi : IntsAre vvs ((List.range (c + 2 + n)).map fun (j : Nat) => dv (j : Int))) (hdo : od.IsDictOf (intKind PySem.Challenge.rw_on0104_01.row.prog w) dkvs) (hdu : DueOK dkvs dv (2 + c + n)) (hc : c ≤ 10) (hn : n ≤ 10)
    (k : ∀ h' tk' m', Fr g L h' m' → (∀ z, [Str.ofString "net"].contains z = false → m' z = m z) → News g L h' ((va, W.listOf vvs.toArray vn) :: (du, od) :: (nl, instObj 134 dx) :: (dx, dictOf (nlEs w.params k1 k2 k3 k4 k5 nm (2 + (c : Int) + (n : Int)) ct inp outp cel) 5) :: RS) → Q .next { s with heap := h', toks := tk' }) :
    wpAny (MW w) { handled := none, depth := dd, frames := fr, guards := gs, units := uu } (exec (atS 1 (bodyOf (atS 17 lawB))) (envOfC (Str.ofString "law") lawScope L fa cdv)) Q (fun _ _ => False) s := by
  have X' := G.X
  have T' := G.T
  have hvl : vvs.length = c + 2 + n := by rw [hvi.length, List.length_map, List.length_range]
  have e2 : 2 + (c : Int) + (n : Int) = ((c + 2 + n : Nat) : Int) := by omega
  have hb0 : (0 : Int) ≤ 2 + (c : Int) + (n : Int) := by omega
  have hb1 : 2 + (c : Int) + (n : Int) < 1000 := by omega
  replace F := fr_in1 F hm1
  walk_at "SEG"
  walk_at "GOL"
  unfold Stop
  rename IsRange _ _ _ _ _ _ _ _ => hr
  rename News _ _ _ _ => NN
  rename Fr _ _ _ _ => FF
  replace FF := fr_o1 hm1 FF
  refine iter_range_S (n := c + 2 + n) [Str.ofString "net"] (fun _ _ nx => nx = (va, W.listOf vvs.toArray vn) :: (du, od) :: (nl, instObj 134 dx) :: (dx, dictOf (nlEs w.params k1 k2 k3 k4 k5 nm (2 + (c : Int) + (n : Int)) ct inp outp cel) 5) :: RS) rfl hr e2 (by omega) FF NN rfl ?_ ?_
  · clear FF NN hr hm1 e2 hb0 hb1 k
    rintro j tj m₆ news₆ h tk I oI hj rfl hnI F N
    obtain ⟨m4, F4, e1, e2⟩ := turn_map F
    clear F
    have e3 := (e2 (Str.ofString "due") (by decide) (by decide)).trans hm2
    have e4 := (e2 (Str.ofString "values") (by decide) (by decide)).trans hm3
    replace N : News g L h ((va, W.listOf vvs.toArray vn) :: (du, od) :: (nl, instObj 134 dx) :: (dx, dictOf (nlEs w.params k1 k2 k3 k4 k5 nm (2 + (c : Int) + (n : Int)) ct inp outp cel) 5) :: (RS ++ [(I, oI)])) := N
    replace hnI : OffI I _ := hnI
    obtain ⟨tw, hwt⟩ := hdu j (by omega)
    obtain ⟨tv, hvt⟩ := hvi.get j (dv (j : Int)) (by simp [hj])
    have hj9 : (j : Int) < 2 ^ 63 := by omega
    have hj8 : (0 : Int) ≤ (j : Int) := Int.natCast_nonneg j
    have hvt2 : vvs[((j : Nat) : Int).toNat]? = some (.int (dv (j : Int)) tv) := by rw [Int.toNat_natCast]; exact hvt
    clear hvt hvl hc hn hj hvi hm2 hm3
    replace F4 : Fr g L h _ := fr_in3 F4 e1 e3 e4
    walk_at "GOL"
    unfold Stop
    k_dflt (refine item_dict (kda_dict N (by k_mem) hdo) hwt ?_)
    walk_at "GOL"
    all_goals first
      | (rename _ ≠ _ => hx9; exact absurd rfl hx9)
      | exact InvEndX.intro (nx := (va, W.listOf vvs.toArray vn) :: (du, od) :: (nl, instObj 134 dx) :: (dx, dictOf (nlEs w.params k1 k2 k3 k4 k5 nm (2 + (c : Int) + (n : Int)) ct inp outp cel) 5) :: RS) (fr_o3 e1 e3 e4 F4) N ⟨rfl, keep_one e2⟩ (by walk_at "SUBL") (by repeat (first | exact .head _ | exact List.mem_append_right _ (.head _) | apply List.Mem.tail)) hnI
  · clear FF NN
    rintro m₆ news₆ h tk rfl F N
    obtain ⟨m4, F4, e2⟩ := done_map F
    exact k _ _ m4 F4 e2 N
end
end
section
section
variable {w : World} {s : Shared} {g : Heap} {mean : ExcName → Option Value} {mg mb : Str → Option Value} {dd uu : Nat} {L fa : Addr} {cdv : Value} {m : Str → Option Value} {RS : List (Addr × Obj)} {Q : Flow → Shared → Prop}
theorem s_state {fr gs} {sc : Addr} {svs : List Value} {ns : List Int} {oc : Obj} {ov : Option Value} (G : Gd w mean mg mb g) (hroom : dd < 500) (hu : uu < 1500)
    (F : Fr g L s.heap m) (hm : m (Str.ofString "script") = some (.ref sc)) (hL : g.IsList sc svs.toArray) (hI : IntsAre svs ns) (hc1 : ¬ ((63 : Nat) : Int) < (ns.length : Int)) (N : News g L s.heap ((L + 1, oc) :: RS)) (hoc : oc.data = .cell ov) (hRS : OwnOff RS [L + 1])
    (k : ∀ h' tk' D st ws oc' t, Fr g L h' m → News g L h' ((st, StList D 0 t 0) :: (D, W.listOf ws.toArray 0) :: (L + 1, oc') :: RS) → (∀ p ∈ (L + 1, oc) :: RS, p.1 < D) → (∀ p ∈ (D, W.listOf ws.toArray 0) :: (L + 1, oc) :: RS, p.1 < st) → oc'.data = .cell (some (.ref st)) → IntsAre ws (ns.take 40) → Q .next { s with heap := h', toks := tk' }) :
    wpAny (MW w) { handled := none, depth := dd, frames := fr, guards := gs, units := uu } (exec (atS 0 lawB) (envOfC (Str.ofString "law") lawScope L fa cdv)) Q (fun _ _ => False) s := by
  have X' := G.X
  have T' := G.T
  replace F := fr_in1 F hm
  walk_at "SEG"
  walk_at "GOL"
  rename_i D ws hq1 lD hI2 hC2 hL2 st hq2 lst hz o9 FZ NZ d9
  exact k _ _ D st ws o9 _ (fr_o1 hm FZ) NZ lD lst d9 hI2
theorem s_count {fr gs} {st D : Addr} {oc : Obj} {at_ : Int} {ta : Tok} {na : Nat} {ws : List Value} {ns : List Int} (G : Gd w mean mg mb g) (hroom : dd < 500) (hu : uu < 1500)
    (F : Fr g L s.heap m) (N : News g L s.heap ((st, StList D at_ ta na) :: (L + 1, oc) :: RS)) (hoc : oc.data = .cell (some (.ref st))) (hD : (D, W.listOf ws.toArray 0) ∈ RS) (hDst : @Ne Nat D st) (hI : IntsAre ws ns) (hlen : ns.length ≤ 63) (h0 : 0 ≤ at_) (h1 : at_ < 1000) (hRS : OwnOff RS [st]) (n1 : NEq st (L + 1))
    (k : ∀ h' tk' (c : Nat) tc t n, c < 4 → Fr g L h' (fun y => if y = Str.ofString "count" then some (.int ((c + 1 : Nat) : Int) tc) else m y) → News g L h' ((st, StList D (at_ + 1) t n) :: (L + 1, oc) :: RS) → Q .next { s with heap := h', toks := tk' }) :
    wpAny (MW w) { handled := none, depth := dd, frames := fr, guards := gs, units := uu } (exec (atS 1 lawB) (envOfC (Str.ofString "law") lawScope L fa cdv)) Q (fun _ _ => False) s := by
  have X' := G.X
  have T' := G.T
  walk_at "SEG"
  walk_at "GOL"
  rename Bnd _ _ => hbd
  rename News _ _ _ _ => NN
  rename Fr _ _ _ _ => FF
  rename_i v t1 t2 n1' hA tkA hz
  have hv0 := hbd.lo
  have hv1 := hbd.hi
  obtain ⟨c, rfl⟩ : ∃ c : Nat, v = (c : Int) := ⟨v.toNat, by omega⟩
  have e1 : (1 : Int) + (c : Int) = ((c + 1 : Nat) : Int) := by omega
  rw [e1] at FF
  exact k _ _ c _ t2 n1' (by omega) FF NN
theorem s_netl {fr gs} (G : Gd w mean mg mb g) (hroom : dd < 500) (hu : uu < 1500) (F : Fr g L s.heap m) (N : News g L s.heap RS)
    (k : ∀ h' tk' nl dx inp outp cel k1 k2 k3 k4 k5 ct nm, Fr g L h' (fun y => if y = Str.ofString "netlist" then some (.ref nl) else m y) → News g L h' ((inp, W.listOf #[] 0) :: (outp, W.listOf #[] 0) :: (cel, W.listOf #[] 0) :: (nl, instObj 134 dx) :: (dx, dictOf (nlEs w.params k1 k2 k3 k4 k5 nm 2 ct inp outp cel) 5) :: RS) →
      (∀ p ∈ RS, NEq p.1 nl ∧ NEq p.1 dx ∧ NEq p.1 inp ∧ NEq p.1 outp ∧ NEq p.1 cel) → NEq nl dx → NEq nl inp ∧ NEq nl outp ∧ NEq nl cel → NEq dx inp ∧ NEq dx outp ∧ NEq dx cel → NEq inp outp ∧ NEq inp cel ∧ NEq outp cel → Q .next { s with heap := h', toks := tk' }) :
    wpAny (MW w) { handled := none, depth := dd, frames := fr, guards := gs, units := uu } (exec (atS 2 lawB) (envOfC (Str.ofString "law") lawScope L fa cdv)) Q (fun _ _ => False) s := by
  have X' := G.X
  have T' := G.T
  walk_at "SEG"
  walk_at "GOL"
  unfold Stop
  rename News _ _ _ _ => NN
  rename Fr _ _ _ _ => FF
  refine call_cls FF X' NN (by k_is) (by k_is) (by k_is) ?_
  intro nl dx h6 F6 N6 lt6 lx6
  clear FF NN
  have lx6' : @Ne Nat nl dx := Nat.ne_of_gt lx6
  refine init_spec G (At.of F6 N6 (by k_allIn)) (Nat.lt_of_lt_of_le (Nat.add_lt_add_of_lt_of_le hroom (Nat.le_of_ble_eq_true rfl : Code.weight _ ≤ 100)) (by decide : 500 + 100 ≤ 700)) rfl (Nat.lt_of_lt_of_le (Nat.add_lt_add_of_lt_of_le hu (Nat.le_of_ble_eq_true rfl : Code.cUnits _ ≤ 100)) (by decide : 1500 + 100 ≤ 1800)) lx6' ?_
  intro k1 k2 k3 k4 k5 ct inp outp cel h7 tk7 hn1 hn2 hn3 q1 q2 q3 kb hd e1 e2 e3
  have hRS : OwnOff RS [dx] := fun p hp b hb => by rw [List.mem_singleton.mp hb]; exact Nat.ne_of_lt (lt6 p hp)
  obtain ⟨F7, N7⟩ := after_upd F6 N6 (by k_upd) kb hd
  obtain ⟨N8, o8⟩ := news_add F6 N6 N7 hn1 e1
  obtain ⟨N9, o9⟩ := news_add F6 N6 N8 hn2 e2
  obtain ⟨N10, o10⟩ := news_add F6 N6 N9 hn3 e3
  clear F6 N6 N7 N8 N9 kb hd e1 e2 e3 hn1 hn2 hn3
  refine ⟨rfl, ?_⟩
  walk_at "GOL"
  rename_i hz FZ NZ
  exact k _ _ nl dx inp outp cel k1 k2 k3 k4 k5 ct _ FZ (kst_newsOf NZ (by walk_at "SUBL"))
    (fun p hp => ⟨fun e => Nat.lt_irrefl _ (Nat.lt_trans (e ▸ lt6 p hp) lx6), Nat.ne_of_lt (lt6 p hp), o8 p (.tail _ (.tail _ hp)), o9 p (.tail _ (.tail _ hp)), o10 p (.tail _ (.tail _ hp))⟩) lx6' ⟨o8 _ (.head _), o9 _ (.head _), o10 _ (.head _)⟩ ⟨o8 _ (.tail _ (.head _)), o9 _ (.tail _ (.head _)), o10 _ (.tail _ (.head _))⟩ ⟨q1, q2, q3⟩
theorem s_rows {fr gs} (G : Gd w mean mg mb g) (hroom : dd < 500) (hu : uu < 1500) (F : Fr g L s.heap m) (N : News g L s.heap RS)
    (k : ∀ h' tk' rd ro, Fr g L h' (fun y => if y = Str.ofString "rows" then some (.ref rd) else m y) → News g L h' ((rd, ro) :: RS) → (∀ p ∈ RS, p.1 < rd) → (rd == sysModules) = false → ro.IsDictOf (intKind PySem.Challenge.rw_on0104_01.row.prog w) [] → Q .next { s with heap := h', toks := tk' }) :
    wpAny (MW w) { handled := none, depth := dd, frames := fr, guards := gs, units := uu } (exec (atS 4 lawB) (envOfC (Str.ofString "law") lawScope L fa cdv)) Q (fun _ _ => False) s := by
  have X' := G.X
  have T' := G.T
  walk_at "SEG"
  walk_at "GOL"
  rename_i bd hq bo lbd lob hs fs hi fi hz FZ NZ
  exact k _ _ bd bo FZ NZ lbd lob hi
theorem s_wait {fr gs} (G : Gd w mean mg mb g) (hroom : dd < 500) (hu : uu < 1500) (F : Fr g L s.heap m) (N : News g L s.heap RS)
    (k : ∀ h' tk' wl, Fr g L h' (fun y => if y = Str.ofString "waiting" then some (.ref wl) else m y) → News g L h' ((wl, W.listOf #[] 0) :: RS) → (∀ p ∈ RS, p.1 < wl) → Q .next { s with heap := h', toks := tk' }) :
    wpAny (MW w) { handled := none, depth := dd, frames := fr, guards := gs, units := uu } (exec (atS 5 lawB) (envOfC (Str.ofString "law") lawScope L fa cdv)) Q (fun _ _ => False) s := by
  have X' := G.X
  have T' := G.T
  walk_at "SEG"
  walk_at "GOL"
  rename_i wl hq lwl hz FZ NZ
  exact k _ _ wl FZ NZ lwl
theorem s_addi {fr gs} {nl dx inp outp cel : Addr} {k1 k2 k3 k4 k5 ct tc : Tok} {nm : Value} {c : Nat} (G : Gd w mean mg mb g) (hroom : dd < 500) (hu : uu < 1500) (F : Fr g L s.heap m) (hm1 : m (Str.ofString "netlist") = some (.ref nl)) (hm2 : m (Str.ofString "count") = some (.int ((c : Nat) : Int) tc)) (hc : c ≤ 10)
    (N : News g L s.heap ((inp, W.listOf #[] 0) :: (nl, instObj 134 dx) :: (dx, dictOf (nlEs w.params k1 k2 k3 k4 k5 nm 2 ct inp outp cel) 5) :: RS)) (hne : @Ne Nat nl dx) (hni : @Ne Nat inp nl ∧ @Ne Nat inp dx) (hRS : OwnOff RS [inp, dx])
    (k : ∀ h' tk' nt bl tp ys m1 m2 ta ct', Fr g L h' (fun y => if y = Str.ofString "nets" then some (.ref nt) else m y) → News g L h' ((tp, TupO #[Value.str (Str.ofString "a") ta, .ref bl]) :: (bl, W.listOf ys.toArray m1) :: (nt, LCg.lst ys) :: (inp, W.listOf #[Value.ref tp] m2) :: (nl, instObj 134 dx) :: (dx, dictOf (nlEs w.params k1 k2 k3 k4 k5 nm (2 + (c : Int)) ct' inp outp cel) 5) :: RS) →
      (∀ p ∈ (inp, W.listOf #[] 0) :: (nl, instObj 134 dx) :: (dx, dictOf (nlEs w.params k1 k2 k3 k4 k5 nm 2 ct inp outp cel) 5) :: RS, NEq p.1 nt ∧ NEq p.1 bl ∧ NEq p.1 tp) → NEq nt bl → IntsAre ys ((List.range c).map fun (i : Nat) => (2 : Int) + (i : Int)) → Q .next { s with heap := h', toks := tk' }) :
    wpAny (MW w) { handled := none, depth := dd, frames := fr, guards := gs, units := uu } (exec (atS 3 lawB) (envOfC (Str.ofString "law") lawScope L fa cdv)) Q (fun _ _ => False) s := by
  have X' := G.X
  have T' := G.T
  have hi1 := hni.1
  have hi2 := hni.2
  replace F := fr_in2 F hm1 hm2
  walk_at "SEG"
  walk_at "GOL"
  unfold Stop
  rename News _ _ _ _ => NN
  rename Fr _ _ _ _ => FF
  refine wpAny_call ?_
  refine addin_spec (c := c) G (At.of FF NN (by k_allIn)) (Nat.lt_trans hroom (by decide)) rfl (Nat.lt_trans hu (by decide)) hne hni hc ?_
  intro nt bl tp ys m1 m2 ot ct' h9 tk9 hn1 hn2 hn3 ab kb hd f1 f2 f3 eot f4 hys
  subst eot
  obtain ⟨F9, N9⟩ := after_upd2 FF NN (by k_upd) (by k_upd) hi2 kb f4 hd
  obtain ⟨N10, o11⟩ := news_add FF NN N9 hn1 f1
  obtain ⟨N11, o12⟩ := news_add FF NN N10 hn2 f2
  obtain ⟨N12, o13⟩ := news_add FF NN N11 hn3 f3
  clear FF NN N9 N10 N11 kb hd f1 f2 f3 f4 hn1 hn2 hn3
  walk_at "GOL"
  exact k _ _ nt bl tp ys m1 m2 _ ct' (fr_x2 hm1 hm2 (by assumption)) (by assumption) (fun p hp => ⟨o11 p hp, o12 p hp, o13 p hp⟩) ab hys
end
end
section
section
variable {w : World} {s : Shared} {g : Heap} {mean : ExcName → Option Value} {mg mb : Str → Option Value} {dd uu : Nat} {L fa : Addr} {cdv : Value} {m : Str → Option Value} {RS : List (Addr × Obj)} {Q : Flow → Shared → Prop}
theorem turn_all {fr gs} {wl rd nt nl dx st D inp outp cel : Addr} {k1 k2 k3 k4 k5 ct : Tok} {nm : Value} {cnt : Int} {oc ok ro : Obj} {ov : Option Value} {at_ : Int} {ta : Tok} {na wn : Nat} {ws ys wvs : List Value} {ns ks0 : List Int} {rkvs : List (Int × Value)}
    (G : Gd w mean mg mb g) (hroom : dd < 500) (hu : uu < 1500) (F : Fr g L s.heap m)
    (hm1 : m (Str.ofString "nets") = some (.ref nt)) (hm2 : m (Str.ofString "rows") = some (.ref rd)) (hm3 : m (Str.ofString "netlist") = some (.ref nl)) (hm4 : m (Str.ofString "waiting") = some (.ref wl))
    (N : News g L s.heap ((wl, W.listOf wvs.toArray wn) :: (rd, ro) :: (nt, LCg.lst ys) :: (nl, instObj 134 dx) :: (dx, dictOf (nlEs w.params k1 k2 k3 k4 k5 nm cnt ct inp outp cel) 5) :: (st, StList D at_ ta na) :: (L + 1, oc) :: (L + 1 + 1, ok) :: RS))
    (hoc : oc.data = .cell (some (.ref st))) (hok : ok.data = .cell ov) (hD : (D, W.listOf ws.toArray 0) ∈ RS) (hDst : @Ne Nat D st) (hI : IntsAre ws ns) (hlen : ns.length ≤ 63) (h0 : 0 ≤ at_) (h1 : at_ < 800)
    (hnd : [wl, rd, nt, nl, dx, st, L + 1, L + 1 + 1].Nodup) (hRS : OwnOff RS [wl, rd, nt, nl, dx, st, L + 1, L + 1 + 1])
    (hys : IntsAre ys ks0) (hkl0 : ks0.length < 20) (hro : ro.IsDictOf (intKind PySem.Challenge.rw_on0104_01.row.prog w) rkvs) (hasc : (rkvs.map (·.1)).Pairwise (· < ·)) (hkl : rkvs.length < 20) (lord : (rd == sysModules) = false) (hwl : wvs.length < 60)
    (k : ∀ h' tk' m' wn' ro' ct' at' t n okc ov' T rt wt kd tb ks, Fr g L h' m' → (∀ z, [Str.ofString "go_of", Str.ofString "kind", Str.ofString "wide", Str.ofString "table", Str.ofString "ins", Str.ofString "out", Str.ofString "param"].contains z = false → m' z = m z) →
      News g L h' ((wl, W.listOf (wvs ++ [Value.ref wt]).toArray wn') :: (rd, ro') :: (nt, LCg.lst ys) :: (nl, instObj 134 dx) :: (dx, dictOf (nlEs w.params k1 k2 k3 k4 k5 nm (cnt + 1) ct' inp outp cel) 5) :: (st, StList D at' t n) :: (L + 1, oc) :: (L + 1 + 1, okc) :: (T ++ RS)) →
      okc.data = .cell ov' → (∀ p ∈ T, (∀ a ∈ [wl, rd, nt, nl, dx, st, L + 1, L + 1 + 1], a < p.1) ∧ ∀ q ∈ RS, q.1 < p.1) → at_ ≤ at' → at' ≤ at_ + 6 → cellArity kd ks.length → 0 ≤ tb → (∀ x ∈ ks, x ∈ [0, 1] ++ ks0 ++ rkvs.map (·.1)) →
      ro'.IsDictOf (intKind PySem.Challenge.rw_on0104_01.row.prog w) (stored rkvs cnt (.ref rt)) → RowP (InCL T) (cnt, .ref rt) ⟨kd, cnt, ks, tb⟩ → WaitP (InCL T) (.ref wt) ⟨kd, cnt, ks, tb⟩ → Q .next { s with heap := h', toks := tk' }) :
    wpAny (MW w) { handled := none, depth := dd, frames := fr, guards := gs, units := uu } (execs turnB (envOfC (Str.ofString "law") lawScope L fa cdv)) Q (fun _ _ => False) s := by
  have r1 := own_sub hRS (x := wl) (by k_mem)
  have r2 := own_sub hRS (x := rd) (by k_mem)
  have r3 := own_sub hRS (x := dx) (by k_mem)
  have r4 := own_sub hRS (x := st) (by k_mem)
  have r5 := own_sub hRS (x := L + 1 + 1) (by k_mem)
  clear hRS
  have a12 : @Ne Nat (wl) (rd) := ne_ix hnd 0 1 rfl
  have a13 : @Ne Nat (wl) (nt) := ne_ix hnd 0 2 rfl
  have a14 : @Ne Nat (wl) (nl) := ne_ix hnd 0 3 rfl
  have a15 : @Ne Nat (wl) (dx) := ne_ix hnd 0 4 rfl
  have a16 : @Ne Nat (wl) (st) := ne_ix hnd 0 5 rfl
  have a17 : @Ne Nat (wl) (L + 1) := ne_ix hnd 0 6 rfl
  have a18 : @Ne Nat (wl) (L + 1 + 1) := ne_ix hnd 0 7 rfl
  have a23 : @Ne Nat (rd) (nt) := ne_ix hnd 1 2 rfl
  have a24 : @Ne Nat (rd) (nl) := ne_ix hnd 1 3 rfl
  have a25 : @Ne Nat (rd) (dx) := ne_ix hnd 1 4 rfl
  have a26 : @Ne Nat (rd) (st) := ne_ix hnd 1 5 rfl
  have a27 : @Ne Nat (rd) (L + 1) := ne_ix hnd 1 6 rfl
  have a28 : @Ne Nat (rd) (L + 1 + 1) := ne_ix hnd 1 7 rfl
  have a34 : @Ne Nat (nt) (nl) := ne_ix hnd 2 3 rfl
  have a35 : @Ne Nat (nt) (dx) := ne_ix hnd 2 4 rfl
  have a36 : @Ne Nat (nt) (st) := ne_ix hnd 2 5 rfl
  have a37 : @Ne Nat (nt) (L + 1) := ne_ix hnd 2 6 rfl
  have a38 : @Ne Nat (nt) (L + 1 + 1) := ne_ix hnd 2 7 rfl
  have a45 : @Ne Nat (nl) (dx) := ne_ix hnd 3 4 rfl
  have a46 : @Ne Nat (nl) (st) := ne_ix hnd 3 5 rfl
  have a47 : @Ne Nat (nl) (L + 1) := ne_ix hnd 3 6 rfl
  have a48 : @Ne Nat (nl) (L + 1 + 1) := ne_ix hnd 3 7 rfl
  have a56 : @Ne Nat (dx) (st) := ne_ix hnd 4 5 rfl
  have a57 : @Ne Nat (dx) (L + 1) := ne_ix hnd 4 6 rfl
  have a58 : @Ne Nat (dx) (L + 1 + 1) := ne_ix hnd 4 7 rfl
  have a67 : @Ne Nat (st) (L + 1) := ne_ix hnd 5 6 rfl
  have a68 : @Ne Nat (st) (L + 1 + 1) := ne_ix hnd 5 7 rfl
  have a78 : @Ne Nat (L + 1) (L + 1 + 1) := ne_ix hnd 6 7 rfl
  clear hnd
  have q0 : at_ + 1 < 900 := by omega
  have q1 : 0 ≤ at_ + 1 := by omega
  have q2 : at_ < 1000 := by omega
  rw [turnB_eq]
  have o1 : OwnOff ((wl, W.listOf wvs.toArray wn) :: (nl, instObj 134 dx) :: (dx, dictOf (nlEs w.params k1 k2 k3 k4 k5 nm cnt ct inp outp cel) 5) :: (st, StList D at_ ta na) :: (L + 1, oc) :: RS) [L + 1 + 1] := by walk_at "OWN"
  have N2 : News g L _ ((rd, ro) :: (nt, LCg.lst ys) :: (L + 1 + 1, ok) :: (wl, W.listOf wvs.toArray wn) :: (nl, instObj 134 dx) :: (dx, dictOf (nlEs w.params k1 k2 k3 k4 k5 nm cnt ct inp outp cel) 5) :: (st, StList D at_ ta na) :: (L + 1, oc) :: RS) := kst_newsOf N (by walk_at "SUBL")
  have t9 := fun Q => s_known (Q := Q) (s := s) (fa := fa) (cdv := cdv) (fr := fr) (gs := gs) (RS := ((wl, W.listOf wvs.toArray wn) :: (nl, instObj 134 dx) :: (dx, dictOf (nlEs w.params k1 k2 k3 k4 k5 nm cnt ct inp outp cel) 5) :: (st, StList D at_ ta na) :: (L + 1, oc) :: RS)) G hroom hu F hm1 hm2 N2 hok o1 a28 a38 hys hro hasc (Nat.lt_trans hkl (by decide)) (Nat.lt_trans hkl0 (by decide)) lord
  refine wpAny_execs_cons ?_
  with_reducible refine t9 _ ?_
  clear t9 N2 N F
  intro h1x tk1x kn kws okc F N lkn hokc hkn
  clear o1
  have bst : NEq kn st := Ne.symm (ltne lkn (by k_mem))
  have bk : kws.length = 2 + ks0.length + rkvs.length := by rw [hkn.length, List.length_append, List.length_append, List.length_map]; rfl
  clear lkn
  have o2 : OwnOff ((kn, W.listOf kws.toArray 0) :: (rd, ro) :: (nt, LCg.lst ys) :: (L + 1 + 1, okc) :: (wl, W.listOf wvs.toArray wn) :: (nl, instObj 134 dx) :: (dx, dictOf (nlEs w.params k1 k2 k3 k4 k5 nm cnt ct inp outp cel) 5) :: RS) [st] := by walk_at "OWN"
  have hD2 : (D, W.listOf ws.toArray 0) ∈ ((kn, W.listOf kws.toArray 0) :: (rd, ro) :: (nt, LCg.lst ys) :: (L + 1 + 1, okc) :: (wl, W.listOf wvs.toArray wn) :: (nl, instObj 134 dx) :: (dx, dictOf (nlEs w.params k1 k2 k3 k4 k5 nm cnt ct inp outp cel) 5) :: RS) := by k_mem
  have N2 : News g L _ ((st, StList D at_ ta na) :: (L + 1, oc) :: (kn, W.listOf kws.toArray 0) :: (rd, ro) :: (nt, LCg.lst ys) :: (L + 1 + 1, okc) :: (wl, W.listOf wvs.toArray wn) :: (nl, instObj 134 dx) :: (dx, dictOf (nlEs w.params k1 k2 k3 k4 k5 nm cnt ct inp outp cel) 5) :: RS) := kst_newsOf N (by walk_at "SUBL")
  have t9 := fun Q => @s_kind w { s with heap := h1x, toks := tk1x } g mean mg mb dd uu L fa cdv m ((kn, W.listOf kws.toArray 0) :: (rd, ro) :: (nt, LCg.lst ys) :: (L + 1 + 1, okc) :: (wl, W.listOf wvs.toArray wn) :: (nl, instObj 134 dx) :: (dx, dictOf (nlEs w.params k1 k2 k3 k4 k5 nm cnt ct inp outp cel) 5) :: RS) Q fr gs st D oc at_ ta na ws ns G hroom hu F N2 hoc hD2 hDst hI hlen h0 q2 o2 a67
  walk_at "NXT"
  with_reducible refine t9 _ ?_
  clear t9 N2 N F
  intro h2x tk2x kd tkd t2x n2x F N
  have N2 : News g L _ ((st, StList D (at_ + 1) t2x n2x) :: (L + 1, oc) :: (kn, W.listOf kws.toArray 0) :: (rd, ro) :: (nt, LCg.lst ys) :: (L + 1 + 1, okc) :: (wl, W.listOf wvs.toArray wn) :: (nl, instObj 134 dx) :: (dx, dictOf (nlEs w.params k1 k2 k3 k4 k5 nm cnt ct inp outp cel) 5) :: RS) := kst_newsOf N (by walk_at "SUBL")
  have t9 := fun Q => s_wide (Q := Q) (s := { s with heap := h2x, toks := tk2x }) (fa := fa) (cdv := cdv) (fr := fr) (gs := gs) (RS := ((st, StList D (at_ + 1) t2x n2x) :: (L + 1, oc) :: (kn, W.listOf kws.toArray 0) :: (rd, ro) :: (nt, LCg.lst ys) :: (L + 1 + 1, okc) :: (wl, W.listOf wvs.toArray wn) :: (nl, instObj 134 dx) :: (dx, dictOf (nlEs w.params k1 k2 k3 k4 k5 nm cnt ct inp outp cel) 5) :: RS)) G hroom hu F (if_pos rfl) N2
  walk_at "NXT"
  with_reducible refine t9 _ ?_
  clear t9 N2 N F
  intro h3x tk3x tw0 wd0 F N hq0
  have N2 : News g L _ ((st, StList D (at_ + 1) t2x n2x) :: (L + 1, oc) :: (kn, W.listOf kws.toArray 0) :: (rd, ro) :: (nt, LCg.lst ys) :: (L + 1 + 1, okc) :: (wl, W.listOf wvs.toArray wn) :: (nl, instObj 134 dx) :: (dx, dictOf (nlEs w.params k1 k2 k3 k4 k5 nm cnt ct inp outp cel) 5) :: RS) := kst_newsOf N (by walk_at "SUBL")
  have t9 := fun Q => s_table (Q := Q) (s := { s with heap := h3x, toks := tk3x }) (fa := fa) (cdv := cdv) (fr := fr) (gs := gs) (RS := ((st, StList D (at_ + 1) t2x n2x) :: (L + 1, oc) :: (kn, W.listOf kws.toArray 0) :: (rd, ro) :: (nt, LCg.lst ys) :: (L + 1 + 1, okc) :: (wl, W.listOf wvs.toArray wn) :: (nl, instObj 134 dx) :: (dx, dictOf (nlEs w.params k1 k2 k3 k4 k5 nm cnt ct inp outp cel) 5) :: RS)) G hroom hu F N2
  walk_at "NXT"
  with_reducible refine t9 _ ?_
  clear t9 N2 N F
  intro h4x tk4x F N
  have N2 : News g L _ ((st, StList D (at_ + 1) t2x n2x) :: (L + 1, oc) :: (kn, W.listOf kws.toArray 0) :: (rd, ro) :: (nt, LCg.lst ys) :: (L + 1 + 1, okc) :: (wl, W.listOf wvs.toArray wn) :: (nl, instObj 134 dx) :: (dx, dictOf (nlEs w.params k1 k2 k3 k4 k5 nm cnt ct inp outp cel) 5) :: RS) := kst_newsOf N (by walk_at "SUBL")
  have t9 := fun Q => s_if (Q := Q) (s := { s with heap := h4x, toks := tk4x }) (fa := fa) (cdv := cdv) (fr := fr) (gs := gs) (RS := ((kn, W.listOf kws.toArray 0) :: (rd, ro) :: (nt, LCg.lst ys) :: (L + 1 + 1, okc) :: (wl, W.listOf wvs.toArray wn) :: (nl, instObj 134 dx) :: (dx, dictOf (nlEs w.params k1 k2 k3 k4 k5 nm cnt ct inp outp cel) 5) :: RS)) G hroom hu F (by walk_at "NM") (by walk_at "NM") (by walk_at "NM") N2 hoc hD2 hDst hI hlen q1 q0 o2 a67 hq0
  walk_at "NXT"
  with_reducible refine t9 _ ?_
  clear t9 N2 N F
  intro h5x tk5x tw tv tb at5 t5x n5x wd F N har hno htb hl5 hu5
  have hwd : 1 ≤ wd ∧ wd ≤ 3 := arity13 har
  have q5 : 0 ≤ at5 := Int.le_trans q1 hl5
  have q6 : at5 < 900 := by omega
  have q7 : 0 < kws.length := by omega
  have q8 : kws.length < 100 := by omega
  have o3 : OwnOff ((rd, ro) :: (nt, LCg.lst ys) :: (wl, W.listOf wvs.toArray wn) :: (nl, instObj 134 dx) :: (dx, dictOf (nlEs w.params k1 k2 k3 k4 k5 nm cnt ct inp outp cel) 5) :: RS) [st] := by walk_at "OWN"
  have hD3 : (D, W.listOf ws.toArray 0) ∈ ((rd, ro) :: (nt, LCg.lst ys) :: (wl, W.listOf wvs.toArray wn) :: (nl, instObj 134 dx) :: (dx, dictOf (nlEs w.params k1 k2 k3 k4 k5 nm cnt ct inp outp cel) 5) :: RS) := by k_mem
  have N2 : News g L _ ((kn, W.listOf kws.toArray 0) :: (st, StList D at5 t5x n5x) :: (L + 1, oc) :: (L + 1 + 1, okc) :: (rd, ro) :: (nt, LCg.lst ys) :: (wl, W.listOf wvs.toArray wn) :: (nl, instObj 134 dx) :: (dx, dictOf (nlEs w.params k1 k2 k3 k4 k5 nm cnt ct inp outp cel) 5) :: RS) := kst_newsOf N (by walk_at "SUBL")
  have t9 := fun Q => s_ins (Q := Q) (s := { s with heap := h5x, toks := tk5x }) (fa := fa) (cdv := cdv) (fr := fr) (gs := gs) (RS := ((rd, ro) :: (nt, LCg.lst ys) :: (wl, W.listOf wvs.toArray wn) :: (nl, instObj 134 dx) :: (dx, dictOf (nlEs w.params k1 k2 k3 k4 k5 nm cnt ct inp outp cel) 5) :: RS)) G hroom hu F (by walk_at "NM") N2 hoc hokc hD3 hDst hI hlen q5 q6 o3 a67 a68 (NEq.symm bst) hwd hkn q7 q8
  walk_at "NXT"
  with_reducible refine t9 _ ?_
  clear t9 N2 N F
  intro h6x tk6x ia ivs ks at6 t6x n6x F N lia hivs hksl hksm hl6 hu6
  clear o2 hD2 o3 hD3 hDst q5 q6 q7 q8 bst
  have o4 : OwnOff ((ia, TupO ivs.toArray) :: (st, StList D at6 t6x n6x) :: (L + 1, oc) :: (L + 1 + 1, okc) :: (wl, W.listOf wvs.toArray wn) :: (rd, ro) :: (nt, LCg.lst ys) :: RS) [dx] := by walk_at "OWN"
  have N2 : News g L _ ((nl, instObj 134 dx) :: (dx, dictOf (nlEs w.params k1 k2 k3 k4 k5 nm cnt ct inp outp cel) 5) :: (ia, TupO ivs.toArray) :: (st, StList D at6 t6x n6x) :: (L + 1, oc) :: (L + 1 + 1, okc) :: (wl, W.listOf wvs.toArray wn) :: (rd, ro) :: (nt, LCg.lst ys) :: RS) := kst_newsOf N (by walk_at "SUBL")
  have t9 := fun Q => s_out (Q := Q) (s := { s with heap := h6x, toks := tk6x }) (fa := fa) (cdv := cdv) (fr := fr) (gs := gs) (RS := ((ia, TupO ivs.toArray) :: (st, StList D at6 t6x n6x) :: (L + 1, oc) :: (L + 1 + 1, okc) :: (wl, W.listOf wvs.toArray wn) :: (rd, ro) :: (nt, LCg.lst ys) :: RS)) G hroom hu F (by walk_at "NM") N2 a45 o4
  walk_at "NXT"
  with_reducible refine t9 _ ?_
  clear t9 N2 N F
  intro h7x tk7x to ct7 F N
  clear o4
  have o5 : OwnOff ((ia, TupO ivs.toArray) :: (nl, instObj 134 dx) :: (dx, dictOf (nlEs w.params k1 k2 k3 k4 k5 nm (cnt + 1) ct7 inp outp cel) 5) :: (st, StList D at6 t6x n6x) :: (L + 1, oc) :: (L + 1 + 1, okc) :: (wl, W.listOf wvs.toArray wn) :: (nt, LCg.lst ys) :: RS) [rd] := by walk_at "OWN"
  have N2 : News g L _ ((rd, ro) :: (ia, TupO ivs.toArray) :: (nl, instObj 134 dx) :: (dx, dictOf (nlEs w.params k1 k2 k3 k4 k5 nm (cnt + 1) ct7 inp outp cel) 5) :: (st, StList D at6 t6x n6x) :: (L + 1, oc) :: (L + 1 + 1, okc) :: (wl, W.listOf wvs.toArray wn) :: (nt, LCg.lst ys) :: RS) := kst_newsOf N (by walk_at "SUBL")
  have t9 := fun Q => s_row (Q := Q) (s := { s with heap := h7x, toks := tk7x }) (fa := fa) (cdv := cdv) (fr := fr) (gs := gs) (RS := ((ia, TupO ivs.toArray) :: (nl, instObj 134 dx) :: (dx, dictOf (nlEs w.params k1 k2 k3 k4 k5 nm (cnt + 1) ct7 inp outp cel) 5) :: (st, StList D at6 t6x n6x) :: (L + 1, oc) :: (L + 1 + 1, okc) :: (wl, W.listOf wvs.toArray wn) :: (nt, LCg.lst ys) :: RS)) G hroom hu F (by walk_at "NM") (by walk_at "NM") (by walk_at "NM") (by walk_at "NM") (by walk_at "NM") N2 o5 hro (Nat.lt_trans hkl (by decide))
  walk_at "NXT"
  with_reducible refine t9 _ ?_
  clear t9 N2 N F
  intro h8x tk8x rt ro' F N lrt hro'
  clear o5
  have N2 : News g L _ ((rt, TupO #[.str kd.str tkd, .ref ia, tv]) :: (rd, ro') :: (ia, TupO ivs.toArray) :: (nl, instObj 134 dx) :: (dx, dictOf (nlEs w.params k1 k2 k3 k4 k5 nm (cnt + 1) ct7 inp outp cel) 5) :: (st, StList D at6 t6x n6x) :: (L + 1, oc) :: (L + 1 + 1, okc) :: (wl, W.listOf wvs.toArray wn) :: (nt, LCg.lst ys) :: RS) := kst_newsOf N (by walk_at "SUBL")
  have t9 := fun Q => s_param (Q := Q) (s := { s with heap := h8x, toks := tk8x }) (fa := fa) (cdv := cdv) (fr := fr) (gs := gs) (RS := ((rt, TupO #[.str kd.str tkd, .ref ia, tv]) :: (rd, ro') :: (ia, TupO ivs.toArray) :: (nl, instObj 134 dx) :: (dx, dictOf (nlEs w.params k1 k2 k3 k4 k5 nm (cnt + 1) ct7 inp outp cel) 5) :: (st, StList D at6 t6x n6x) :: (L + 1, oc) :: (L + 1 + 1, okc) :: (wl, W.listOf wvs.toArray wn) :: (nt, LCg.lst ys) :: RS)) G hroom hu F (by walk_at "NM") (by walk_at "NM") N2 hno
  walk_at "NXT"
  with_reducible refine t9 _ ?_
  clear t9 N2 N F
  intro h9x tk9x pv X F N lX hpv
  have o6 : OwnOff (X ++ ((rt, TupO #[.str kd.str tkd, .ref ia, tv]) :: (rd, ro') :: (ia, TupO ivs.toArray) :: (nl, instObj 134 dx) :: (dx, dictOf (nlEs w.params k1 k2 k3 k4 k5 nm (cnt + 1) ct7 inp outp cel) 5) :: (st, StList D at6 t6x n6x) :: (L + 1, oc) :: (L + 1 + 1, okc) :: (nt, LCg.lst ys) :: RS)) [wl] := own_app (fun p hp => Nat.ne_of_gt (lX p hp (wl, _) (by k_mem))) (by walk_at "OWN")
  have N2 : News g L _ ((wl, W.listOf wvs.toArray wn) :: (X ++ ((rt, TupO #[.str kd.str tkd, .ref ia, tv]) :: (rd, ro') :: (ia, TupO ivs.toArray) :: (nl, instObj 134 dx) :: (dx, dictOf (nlEs w.params k1 k2 k3 k4 k5 nm (cnt + 1) ct7 inp outp cel) 5) :: (st, StList D at6 t6x n6x) :: (L + 1, oc) :: (L + 1 + 1, okc) :: (nt, LCg.lst ys) :: RS))) := fun p hp => by
    rcases List.mem_cons.mp hp with rfl | hp
    · exact N _ (List.mem_append_right _ (by k_mem))
    · rcases List.mem_append.mp hp with q | q
      · exact N _ (List.mem_append_left _ q)
      · exact N _ (List.mem_append_right _ ((show ∀ p ∈ ((rt, TupO #[.str kd.str tkd, .ref ia, tv]) :: (rd, ro') :: (ia, TupO ivs.toArray) :: (nl, instObj 134 dx) :: (dx, dictOf (nlEs w.params k1 k2 k3 k4 k5 nm (cnt + 1) ct7 inp outp cel) 5) :: (st, StList D at6 t6x n6x) :: (L + 1, oc) :: (L + 1 + 1, okc) :: (nt, LCg.lst ys) :: RS), p ∈ ((rt, TupO #[.str kd.str tkd, .ref ia, tv]) :: (rd, ro') :: (ia, TupO ivs.toArray) :: (nl, instObj 134 dx) :: (dx, dictOf (nlEs w.params k1 k2 k3 k4 k5 nm (cnt + 1) ct7 inp outp cel) 5) :: (st, StList D at6 t6x n6x) :: (L + 1, oc) :: (L + 1 + 1, okc) :: (wl, W.listOf wvs.toArray wn) :: (nt, LCg.lst ys) :: RS) from by walk_at "SUBL") p q))
  have t9 := fun Q => s_app (Q := Q) (s := { s with heap := h9x, toks := tk9x }) (fa := fa) (cdv := cdv) (fr := fr) (gs := gs) (RS := (X ++ ((rt, TupO #[.str kd.str tkd, .ref ia, tv]) :: (rd, ro') :: (ia, TupO ivs.toArray) :: (nl, instObj 134 dx) :: (dx, dictOf (nlEs w.params k1 k2 k3 k4 k5 nm (cnt + 1) ct7 inp outp cel) 5) :: (st, StList D at6 t6x n6x) :: (L + 1, oc) :: (L + 1 + 1, okc) :: (nt, LCg.lst ys) :: RS))) G hroom hu F (by walk_at "NM") (by walk_at "NM") (by walk_at "NM") (by walk_at "NM") (if_pos rfl) N2 o6 hwl
  walk_at "NXT"
  with_reducible refine t9 _ ?_
  clear t9 N2 N F o6
  intro h10 tk10 wt F N lwt
  have N3 : News g L _ ((wt, TupO #[.int cnt to, .str kd.str tkd, .ref ia, pv]) :: (wl, W.listOf (wvs ++ [Value.ref wt]).toArray (wn + 1)) :: (rt, TupO #[.str kd.str tkd, .ref ia, tv]) :: (rd, ro') :: (ia, TupO ivs.toArray) :: (nl, instObj 134 dx) :: (dx, dictOf (nlEs w.params k1 k2 k3 k4 k5 nm (cnt + 1) ct7 inp outp cel) 5) :: (st, StList D at6 t6x n6x) :: (L + 1, oc) :: (L + 1 + 1, okc) :: (nt, LCg.lst ys) :: (X ++ RS)) := fun p hp => by
    rcases List.mem_cons.mp hp with rfl | hp
    · exact N _ (.head _)
    · rcases List.mem_cons.mp hp with rfl | hp
      · exact N _ (.tail _ (.head _))
      · exact N _ (.tail _ (.tail _ (app_mid (A := [(rt, TupO #[.str kd.str tkd, .ref ia, tv]), (rd, ro'), (ia, TupO ivs.toArray), (nl, instObj 134 dx), (dx, dictOf (nlEs w.params k1 k2 k3 k4 k5 nm (cnt + 1) ct7 inp outp cel) 5), (st, StList D at6 t6x n6x), (L + 1, oc), (L + 1 + 1, okc), (nt, LCg.lst ys)]) hp)))
  have lwt2 : ∀ p ∈ ((wl, W.listOf wvs.toArray wn) :: (rt, TupO #[.str kd.str tkd, .ref ia, tv]) :: (rd, ro') :: (ia, TupO ivs.toArray) :: (nl, instObj 134 dx) :: (dx, dictOf (nlEs w.params k1 k2 k3 k4 k5 nm (cnt + 1) ct7 inp outp cel) 5) :: (st, StList D at6 t6x n6x) :: (L + 1, oc) :: (L + 1 + 1, okc) :: (nt, LCg.lst ys) :: RS), p.1 < wt := fun p hp => lwt p (by rcases List.mem_cons.mp hp with rfl | hp; exact .head _; exact .tail _ (List.mem_append_right _ hp))
  have hT : ∀ p ∈ ((wt, TupO #[.int cnt to, .str kd.str tkd, .ref ia, pv]) :: (rt, TupO #[.str kd.str tkd, .ref ia, tv]) :: (ia, TupO ivs.toArray) :: X), (∀ a ∈ [wl, rd, nt, nl, dx, st, L + 1, L + 1 + 1], a < p.1) ∧ ∀ q ∈ RS, q.1 < p.1 := by
    refine List.forall_mem_cons.mpr ⟨⟨lt8 lwt2 (by k_mem) (by k_mem) (by k_mem) (by k_mem) (by k_mem) (by k_mem) (by k_mem) (by k_mem), fun q hq => lwt2 q (by repeat (first | exact hq | apply List.Mem.tail))⟩, ?_⟩
    refine List.forall_mem_cons.mpr ⟨⟨lt8 lrt (by k_mem) (by k_mem) (by k_mem) (by k_mem) (by k_mem) (by k_mem) (by k_mem) (by k_mem), fun q hq => lrt q (by repeat (first | exact hq | apply List.Mem.tail))⟩, ?_⟩
    refine List.forall_mem_cons.mpr ⟨⟨lt8 lia (by k_mem) (by k_mem) (by k_mem) (by k_mem) (by k_mem) (by k_mem) (by k_mem) (by k_mem), fun q hq => lia q (by repeat (first | exact hq | apply List.Mem.tail))⟩, ?_⟩
    exact fun p hp => ⟨lt8 (lX p hp) (by k_mem) (by k_mem) (by k_mem) (by k_mem) (by k_mem) (by k_mem) (by k_mem) (by k_mem), fun q hq => lX p hp q (by repeat (first | exact hq | apply List.Mem.tail))⟩
  have hXT : ∀ p ∈ X, p ∈ ((wt, TupO #[.int cnt to, .str kd.str tkd, .ref ia, pv]) :: (rt, TupO #[.str kd.str tkd, .ref ia, tv]) :: (ia, TupO ivs.toArray) :: X) := fun p hp => .tail _ (.tail _ (.tail _ hp))
  show wpAny _ _ (execs _ _) _ _ _
  refine wpAny_execs_nil ?_
  exact k h10 _ _ (wn + 1) ro' ct7 at6 t6x n6x okc _ ((wt, TupO #[.int cnt to, .str kd.str tkd, .ref ia, pv]) :: (rt, TupO #[.str kd.str tkd, .ref ia, tv]) :: (ia, TupO ivs.toArray) :: X) rt wt kd tb ks F (fun z hz => by walk_at "KEEP9") (kst_newsOf N3 (by walk_at "SUBL")) hokc hT (by omega) (by omega) (by rw [hksl]; exact har) htb (fun x hx => hksm x hx) hro'
    ⟨rt, tkd, ia, tv, ivs, rfl, by unfold InCL; k_mem, by unfold InCL; k_mem, hivs, hno⟩ ⟨wt, to, tkd, ia, pv, ivs, rfl, by unfold InCL; k_mem, by unfold InCL; k_mem, hivs, hpv.mono (InCL.mono hXT)⟩
end
end
section
inductive BuildInv (w : World) (L wl rd nt nl dx st D inp outp cel : Addr) (k1 k2 k3 k4 k5 : Tok) (nm : Value) (c : Nat) (oc : Obj) (at_ : Int) (ys : List Value) (RS : List (Addr × Obj)) (i : Nat) (nx : List (Addr × Obj)) : Prop
  | mk (wvs : List Value) (wn : Nat) (ro : Obj) (rkvs : List (Int × Value)) (ct : Tok) (a : Int) (t : Tok) (n2 : Nat) (okc : Obj) (ov : Option Value) (CL : List (Addr × Obj)) (cs0 : List CellD) (e : nx = (wl, W.listOf wvs.toArray wn) :: (rd, ro) :: (nt, LCg.lst ys) :: (nl, instObj 134 dx) :: (dx, dictOf (nlEs w.params k1 k2 k3 k4 k5 nm (2 + (c : Int) + (i : Int)) ct inp outp cel) 5) :: (st, StList D a t n2) :: (L + 1, oc) :: (L + 1 + 1, okc) :: (CL ++ RS)) (hgen : GenOK c cs0) (hlc : cs0.length = i) (hro : ro.IsDictOf (intKind PySem.Challenge.rw_on0104_01.row.prog w) rkvs) (hrw : Each (RowP (InCL CL)) rkvs cs0)
      (hwt : Each (WaitP (InCL CL)) wvs cs0) (ha0 : 0 ≤ a) (ha1 : a ≤ at_ + 1 + 6 * (i : Int)) (hokc : okc.data = .cell ov) (hCL : ∀ p ∈ CL, (∀ b ∈ [wl, rd, nt, nl, dx, st, L + 1, L + 1 + 1], p.1 ≠ b) ∧ ∀ q ∈ RS, q.1 ≠ p.1) : BuildInv w L wl rd nt nl dx st D inp outp cel k1 k2 k3 k4 k5 nm c oc at_ ys RS i nx
section
variable {w : World} {s : Shared} {g : Heap} {mean : ExcName → Option Value} {mg mb : Str → Option Value} {dd uu : Nat} {L fa : Addr} {cdv : Value} {m : Str → Option Value} {RS : List (Addr × Obj)} {Q : Flow → Shared → Prop}
theorem s_build {fr gs} {wl rd nt nl dx st D inp outp cel : Addr} {k1 k2 k3 k4 k5 ct : Tok} {nm : Value} {c : Nat} {oc ok ro : Obj} {ov : Option Value} {at_ : Int} {ta : Tok} {na : Nat} {ws ys : List Value} {ns : List Int}
    (G : Gd w mean mg mb g) (hroom : dd < 500) (hu : uu < 1500) (F : Fr g L s.heap m)
    (hm1 : m (Str.ofString "nets") = some (.ref nt)) (hm2 : m (Str.ofString "rows") = some (.ref rd)) (hm3 : m (Str.ofString "netlist") = some (.ref nl)) (hm4 : m (Str.ofString "waiting") = some (.ref wl))
    (N : News g L s.heap ((wl, W.listOf ([] : List Value).toArray 0) :: (rd, ro) :: (nt, LCg.lst ys) :: (nl, instObj 134 dx) :: (dx, dictOf (nlEs w.params k1 k2 k3 k4 k5 nm (2 + (c : Int)) ct inp outp cel) 5) :: (st, StList D at_ ta na) :: (L + 1, oc) :: (L + 1 + 1, ok) :: RS))
    (hoc : oc.data = .cell (some (.ref st))) (hok : ok.data = .cell ov) (hD : (D, W.listOf ws.toArray 0) ∈ RS) (hDst : @Ne Nat D st) (hI : IntsAre ws ns) (hlen : ns.length ≤ 63) (h0 : 0 ≤ at_) (h1 : at_ < 100)
    (hnd : [wl, rd, nt, nl, dx, st, L + 1, L + 1 + 1].Nodup) (hRS : OwnOff RS [wl, rd, nt, nl, dx, st, L + 1, L + 1 + 1]) (hys : IntsAre ys ((List.range c).map fun (i : Nat) => (2 : Int) + (i : Int))) (hc : c ≤ 10) (hro : ro.IsDictOf (intKind PySem.Challenge.rw_on0104_01.row.prog w) []) (lord : (rd == sysModules) = false)
    (k : ∀ h' tk' m' (i : Nat) wvs wn ro rkvs ct a t n2 okc ov CL cs0, i < 9 → Fr g L h' m' → (∀ z, [Str.ofString "go_of", Str.ofString "kind", Str.ofString "wide", Str.ofString "table", Str.ofString "ins", Str.ofString "out", Str.ofString "param"].contains z = false → m' z = m z) → News g L h' ((wl, W.listOf wvs.toArray wn) :: (rd, ro) :: (nt, LCg.lst ys) :: (nl, instObj 134 dx) :: (dx, dictOf (nlEs w.params k1 k2 k3 k4 k5 nm (2 + (c : Int) + (i : Int)) ct inp outp cel) 5) :: (st, StList D a t n2) :: (L + 1, oc) :: (L + 1 + 1, okc) :: (CL ++ RS)) → (GenOK c cs0 ∧ cs0.length = i ∧ ro.IsDictOf (intKind PySem.Challenge.rw_on0104_01.row.prog w) rkvs ∧ Each (RowP (InCL CL)) rkvs cs0 ∧ Each (WaitP (InCL CL)) wvs cs0 ∧ 0 ≤ a ∧ a ≤ at_ + 1 + 6 * (i : Int) ∧ okc.data = .cell ov ∧ (∀ p ∈ CL, (∀ b ∈ [wl, rd, nt, nl, dx, st, L + 1, L + 1 + 1], p.1 ≠ b) ∧ ∀ q ∈ RS, q.1 ≠ p.1)) → Q .next { s with heap := h', toks := tk' }) :
    wpAny (MW w) { handled := none, depth := dd, frames := fr, guards := gs, units := uu } (exec (atS 6 lawB) (envOfC (Str.ofString "law") lawScope L fa cdv)) Q (fun _ _ => False) s := by
  have X' := G.X
  have T' := G.T
  have r4 := own_sub hRS (x := st) (by k_mem)
  have a16 : @Ne Nat (wl) st := ne_ix hnd 0 5 rfl
  have a26 : @Ne Nat (rd) st := ne_ix hnd 1 5 rfl
  have a36 : @Ne Nat (nt) st := ne_ix hnd 2 5 rfl
  have a46 : @Ne Nat (nl) st := ne_ix hnd 3 5 rfl
  have a56 : @Ne Nat (dx) st := ne_ix hnd 4 5 rfl
  have a67 : @Ne Nat st (L + 1) := ne_ix hnd 5 6 rfl
  have a68 : @Ne Nat st (L + 1 + 1) := ne_ix hnd 5 7 rfl
  have q2 : at_ < 1000 := by omega
  walk_at "SEG"
  walk_at "GOL"
  unfold Stop
  rename Bnd _ _ => hbd
  rename IsRange _ _ _ _ _ _ _ _ => hr
  rename News _ _ _ _ => NN
  rename Fr _ _ _ _ => FF
  have hb0 := hbd.lo
  have hb1 := hbd.hi
  clear a16 a26 a36 a46 a56 a67 a68
  rename_i v t1 t2 n1 hA tkA FA NA hB tkB t₁ u₁ v₁ hkeep
  obtain ⟨n, rfl⟩ : ∃ n : Nat, v = (n : Int) := ⟨v.toNat, by omega⟩
  have hn9 : n < 9 := by omega
  have e0 : 2 + (c : Int) = 2 + (c : Int) + ((0 : Nat) : Int) := by omega
  rw [e0] at NN
  clear FA NA hkeep hbd hb0 hb1 e0 F N
  refine iter_range_S (n := n) [Str.ofString "go_of", Str.ofString "kind", Str.ofString "wide", Str.ofString "table", Str.ofString "ins", Str.ofString "out", Str.ofString "param"] (fun i _ nx => BuildInv w L wl rd nt nl dx st D inp outp cel k1 k2 k3 k4 k5 nm c oc at_ ys RS i nx)
    rfl hr rfl (by omega) FF NN ⟨[], 0, ro, [], ct, at_ + 1, t2, n1, ok, ov, [], [], rfl, GenOK.nil, rfl, hro, .nil, .nil, by omega, by omega, hok, fun p hp => nomatch hp⟩ ?_ ?_
  · clear FF NN k
    rintro i t m₂ news₂ h tk I oI hi ⟨wvs, wn, ro, rkvs, cto, a, tA, n2, okc, ov, CL, cs0, rfl, hgen, hlc, hro, hrw, hwt, ha0, ha1, hokc, hCL⟩ hnI F N
    obtain ⟨m4, F4, e1, e2⟩ := turn_map F
    clear F
    have f1 := (e2 (Str.ofString "nets") (by decide) (by decide)).trans hm1
    have f2 := (e2 (Str.ofString "rows") (by decide) (by decide)).trans hm2
    have f3 := (e2 (Str.ofString "netlist") (by decide) (by decide)).trans hm3
    have f4 := (e2 (Str.ofString "waiting") (by decide) (by decide)).trans hm4
    have hA8 : ∀ b ∈ [wl, rd, nt, nl, dx, st, L + 1, L + 1 + 1], b ≠ I := by
      repeat' (first | exact List.forall_mem_nil _ | (refine List.forall_mem_cons.mpr ⟨hnI (_, _) (by k_mem), ?_⟩))
    have hRS2 : OwnOff (CL ++ RS ++ [(I, oI)]) [wl, rd, nt, nl, dx, st, L + 1, L + 1 + 1] := by
      intro q hq b hb
      rcases List.mem_append.mp hq with q1 | q1
      · rcases List.mem_append.mp q1 with q1 | q1
        · exact (hCL q q1).1 b hb
        · exact hRS q q1 b hb
      · rw [List.mem_singleton.mp q1]
        exact Ne.symm (hA8 b hb)
    have hasc : (rkvs.map (·.1)).Pairwise (· < ·) := by rw [rows_outs hrw]; exact outs_asc hgen
    have hkl : rkvs.length < 20 := by have := hrw.length; omega
    have hwl : wvs.length < 60 := by have := hwt.length; omega
    have hkl0 : ((List.range c).map fun (i : Nat) => (2 : Int) + (i : Int)).length < 20 := by rw [List.length_map, List.length_range]; omega
    have ha2 : a < 800 := by omega
    have N2 : News g L h ((wl, W.listOf wvs.toArray wn) :: (rd, ro) :: (nt, LCg.lst ys) :: (nl, instObj 134 dx) :: (dx, dictOf (nlEs w.params k1 k2 k3 k4 k5 nm (2 + (c : Int) + (i : Int)) cto inp outp cel) 5) :: (st, StList D a tA n2) :: (L + 1, oc) :: (L + 1 + 1, okc) :: (CL ++ RS ++ [(I, oI)])) := N
    show wpAny (MW w) _ (execs turnB (envOfC (Str.ofString "law") lawScope L fa cdv)) _ _ _
    replace F4 : Fr g L h m4 := F4
    have t9 := fun Q => turn_all (Q := Q) (s := { s with heap := h, toks := tk }) (fa := fa) (cdv := cdv) (fr := fr) (gs := gs) (RS := CL ++ RS ++ [(I, oI)]) G hroom hu F4 f1 f2 f3 f4 N2 hoc hokc (List.mem_append_left _ (List.mem_append_right _ hD)) hDst hI hlen ha0 ha2 hnd hRS2 hys hkl0 hro hasc hkl lord hwl
    with_reducible refine t9 _ ?_
    clear t9
    intro h2 tk2 m5 wn' ro' ct' a' t2' n2' okc' ov' T rt wt kd tb ks F5 hm5 N5 hok' hT hal hau har htb hks hro' hR hW
    have hkb := (known_bounds hgen).2
    rw [rows_outs hrw] at hks
    have B := build_step (x := ⟨kd, 2 + (c : Int) + (i : Int), ks, tb⟩) (CL' := T ++ CL) hgen hlc hro' hrw hwt (fun p hp => List.mem_append_right _ hp) rfl (fun x hx => by have := hkb x (hks x hx); rw [hlc] at this; exact this) har htb
      (hR.mono (InCL.mono fun p hp => List.mem_append_left _ hp)) (hW.mono (InCL.mono fun p hp => List.mem_append_left _ hp))
    have ec : 2 + (c : Int) + (i : Int) + 1 = 2 + (c : Int) + ((i + 1 : Nat) : Int) := by omega
    rw [ec] at N5
    have hCL2 : ∀ p ∈ T ++ CL, (∀ b ∈ [wl, rd, nt, nl, dx, st, L + 1, L + 1 + 1], p.1 ≠ b) ∧ ∀ q ∈ RS, q.1 ≠ p.1 := by
      intro p hp
      rcases List.mem_append.mp hp with q | q
      · exact ⟨fun b hb => Nat.ne_of_gt ((hT p q).1 b hb), fun q' hq' => Nat.ne_of_lt ((hT p q).2 q' (List.mem_append_left _ (List.mem_append_right _ hq')))⟩
      · exact hCL p q
    refine InvEndX.intro (nx := (wl, W.listOf (wvs ++ [Value.ref wt]).toArray wn') :: (rd, ro') :: (nt, LCg.lst ys) :: (nl, instObj 134 dx) :: (dx, dictOf (nlEs w.params k1 k2 k3 k4 k5 nm (2 + (c : Int) + ((i + 1 : Nat) : Int)) ct' inp outp cel) 5) :: (st, StList D a' t2' n2') :: (L + 1, oc) :: (L + 1 + 1, okc') :: (T ++ CL ++ RS)) F5 N5
      ⟨⟨wvs ++ [Value.ref wt], wn', ro', _, ct', a', t2', n2', okc', ov', T ++ CL, _, rfl, B.1, B.2.1, B.2.2.1, B.2.2.2.1, B.2.2.2.2, by omega, by omega, hok', hCL2⟩, fun z hz => (hm5 z hz).trans (e2 z (fun e => by subst e; simp at hz) hz)⟩ ?_ ?_ ?_
    · exact sub_e8 (A := [(wl, W.listOf (wvs ++ [Value.ref wt]).toArray wn'), (rd, ro'), (nt, LCg.lst ys), (nl, instObj 134 dx), (dx, dictOf (nlEs w.params k1 k2 k3 k4 k5 nm (2 + (c : Int) + ((i + 1 : Nat) : Int)) ct' inp outp cel) 5), (st, StList D a' t2' n2'), (L + 1, oc), (L + 1 + 1, okc')]) (T := T) (CL := CL) (RS := RS) (Z := [(I, oI)])
    · repeat (first | exact List.mem_append_right _ (List.mem_append_right _ (.head _)) | apply List.Mem.tail)
    · exact off_e8 (A := [(wl, W.listOf (wvs ++ [Value.ref wt]).toArray wn'), (rd, ro'), (nt, LCg.lst ys), (nl, instObj 134 dx), (dx, dictOf (nlEs w.params k1 k2 k3 k4 k5 nm (2 + (c : Int) + ((i + 1 : Nat) : Int)) ct' inp outp cel) 5), (st, StList D a' t2' n2'), (L + 1, oc), (L + 1 + 1, okc')]) (T := T) (CL := CL) (RS := RS) rfl hA8 (fun p hp => Nat.ne_of_gt ((hT p hp).2 (I, oI) (List.mem_append_right _ (.head _)))) (fun p hp => hnI p (List.mem_append_right [(wl, W.listOf wvs.toArray wn), (rd, ro), (nt, LCg.lst ys), (nl, instObj 134 dx), (dx, dictOf (nlEs w.params k1 k2 k3 k4 k5 nm (2 + (c : Int) + (i : Int)) cto inp outp cel) 5), (st, StList D a tA n2), (L + 1, oc), (L + 1 + 1, okc)] hp))
  · clear FF NN
    rintro m₂ news₂ h tk ⟨wvs, wn, ro, rkvs, cto, a, tA, n2, okc, ov, CL, cs0, rfl, i1, i2, i3, i4, i5, i6, i7, i8, i9⟩ F N
    obtain ⟨m4, F4, e2⟩ := done_map F
    exact k _ _ m4 n wvs wn ro rkvs cto a tA n2 okc ov CL cs0 hn9 F4 e2 N ⟨i1, i2, i3, i4, i5, i6, i7, i8, i9⟩
end
end
section
inductive DrvInv (w : World) (L wl nl dx st D inp outp cel : Addr) (k1 k2 k3 k4 k5 ct : Tok) (nm : Value) (cnt : Int) (oc : Obj) (at_ : Int) (RS : List (Addr × Obj)) (cs0 : List CellD) (j : Nat) (nx : List (Addr × Obj)) : Prop
  | mk (wvs : List Value) (wn : Nat) (cvs : List Value) (cn : Nat) (a : Int) (t : Tok) (n2 : Nat) (CL : List (Addr × Obj)) (ws' cs : List CellD) (ej : j = wvs.length) (e : nx = (wl, W.listOf wvs.toArray wn) :: (cel, W.listOf cvs.toArray cn) :: (nl, instObj 134 dx) :: (dx, dictOf (nlEs w.params k1 k2 k3 k4 k5 nm cnt ct inp outp cel) 5) :: (st, StList D a t n2) :: (L + 1, oc) :: (CL ++ RS)) (hwt : Each (WaitP (InCL RS)) wvs ws') (hcv : CellsP (InCL (CL ++ RS)) cvs cs) (hpm : (cs ++ ws').Perm cs0)
      (ha0 : at_ ≤ a) (ha1 : a + (wvs.length : Int) ≤ at_ + (cs0.length : Int)) (hCL : ∀ p ∈ CL, ∀ b ∈ [wl, cel, nl, dx, st, L + 1], p.1 ≠ b) : DrvInv w L wl nl dx st D inp outp cel k1 k2 k3 k4 k5 ct nm cnt oc at_ RS cs0 j nx
section
variable {w : World} {s : Shared} {g : Heap} {mean : ExcName → Option Value} {mg mb : Str → Option Value} {dd uu : Nat} {L fa : Addr} {cdv : Value} {m : Str → Option Value} {RS : List (Addr × Obj)} {Q : Flow → Shared → Prop}
theorem s_drv {fr gs} {wl nl dx st D inp outp cel : Addr} {k1 k2 k3 k4 k5 ct : Tok} {nm : Value} {cnt : Int} {oc : Obj} {at_ : Int} {ta : Tok} {na wn0 : Nat} {ws wvs0 : List Value} {ns : List Int} {cs0 : List CellD}
    (G : Gd w mean mg mb g) (hroom : dd < 500) (hu : uu < 1500) (F : Fr g L s.heap m) (hm1 : m (Str.ofString "waiting") = some (.ref wl)) (hm2 : m (Str.ofString "netlist") = some (.ref nl))
    (N : News g L s.heap ((wl, W.listOf wvs0.toArray wn0) :: (cel, W.listOf ([] : List Value).toArray 0) :: (nl, instObj 134 dx) :: (dx, dictOf (nlEs w.params k1 k2 k3 k4 k5 nm cnt ct inp outp cel) 5) :: (st, StList D at_ ta na) :: (L + 1, oc) :: RS)) (hoc : oc.data = .cell (some (.ref st))) (hD : (D, W.listOf ws.toArray 0) ∈ RS) (hDst : @Ne Nat D st) (hI : IntsAre ws ns) (hlen : ns.length ≤ 63) (h0 : 0 ≤ at_) (h1 : at_ < 500)
    (hnd : [wl, cel, nl, dx, st, L + 1].Nodup) (hRS : OwnOff RS [wl, cel, nl, dx, st, L + 1]) (hwt0 : Each (WaitP (InCL RS)) wvs0 cs0) (hl0 : cs0.length ≤ 9)
    (k : ∀ h' tk' m' wn cvs cn a t n2 CL cs, Fr g L h' m' → (∀ z, [Str.ofString "out", Str.ofString "kind", Str.ofString "ins", Str.ofString "param"].contains z = false → m' z = m z) → News g L h' ((wl, W.listOf ([] : List Value).toArray wn) :: (cel, W.listOf cvs.toArray cn) :: (nl, instObj 134 dx) :: (dx, dictOf (nlEs w.params k1 k2 k3 k4 k5 nm cnt ct inp outp cel) 5) :: (st, StList D a t n2) :: (L + 1, oc) :: (CL ++ RS)) → CellsP (InCL (CL ++ RS)) cvs cs → cs.Perm cs0 → at_ ≤ a → a ≤ at_ + (cs0.length : Int) → (∀ p ∈ CL, ∀ b ∈ [wl, cel, nl, dx, st, L + 1], p.1 ≠ b) → Q .next { s with heap := h', toks := tk' }) :
    wpAny (MW w) { handled := none, depth := dd, frames := fr, guards := gs, units := uu } (exec (atS 7 lawB) (envOfC (Str.ofString "law") lawScope L fa cdv)) Q (fun _ _ => False) s := by
  have X' := G.X
  have T' := G.T
  walk_at "SEG"
  refine While_S (n₀ := wvs0.length) [Str.ofString "out", Str.ofString "kind", Str.ofString "ins", Str.ofString "param"] (fun j _ nx => DrvInv w L wl nl dx st D inp outp cel k1 k2 k3 k4 k5 ct nm cnt oc at_ RS cs0 j nx)
    F N ⟨wvs0, wn0, [], 0, at_, ta, na, [], cs0, [], rfl, rfl, hwt0, ⟨rfl, fun i c h => by simp at h⟩, List.Perm.refl _, Int.le_refl _, by rw [hwt0.length]; exact Int.le_refl _, fun p hp => nomatch hp⟩ ?_
  clear F N
  rintro j m₂ news₂ h₂ tk₂ F N ⟨wvs, wn, cvs, cn, a, tA, n2, CL, ws', cs, rfl, rfl, hwt, hcv, hpm, ha0, ha1, hCL⟩
  obtain ⟨m4, F4, e2⟩ := done_map F
  have f1 := (e2 (Str.ofString "waiting") (by decide)).trans hm1
  have f2 := (e2 (Str.ofString "netlist") (by decide)).trans hm2
  replace F4 : Fr g L h₂ m4 := F4
  show wpAny (MW w) _ (isTrue (testOf (atS 7 lawB)) (envOfC (Str.ofString "law") lawScope L fa cdv) (eval (testOf (atS 7 lawB)) (envOfC (Str.ofString "law") lawScope L fa cdv))) _ _ _
  have t9 := fun Q => s_test (Q := Q) (s := { s with heap := h₂, toks := tk₂ }) (fa := fa) (cdv := cdv) (fr := fr) (gs := gs) G hroom hu F4 f1 N
  with_reducible refine t9 _ ?_
  clear t9 F4 N F
  intro h3 tk3 F N
  by_cases hem : wvs = []
  · subst hem
    obtain rfl : ws' = [] := List.length_eq_zero_iff.mp hwt.length.symm
    rw [List.append_nil] at hpm
    rw [if_neg (by decide)]
    exact k _ _ m4 wn cvs cn a tA n2 CL cs F e2 N hcv hpm ha0 (by simpa using ha1) hCL
  · rw [if_pos (by cases wvs with | nil => exact absurd rfl hem | cons x r => rfl)]
    show wpAny (MW w) _ (execs drvB (envOfC (Str.ofString "law") lawScope L fa cdv)) _ _ _
    rw [drvB_eq]
    have hpos : (0 : Int) < (wvs.length : Int) := by cases wvs with | nil => exact absurd rfl hem | cons x r => exact Int.natCast_pos.mpr (Nat.succ_pos _)
    have hwl : wvs.length = ws'.length := hwt.length
    have hpl := hpm.length_eq
    rw [List.length_append] at hpl
    have b1 : wvs.length ≤ 60 := by omega
    have b2 : 0 ≤ a := Int.le_trans h0 ha0
    have b3 : a < 1000 := by omega
    have a12 : @Ne Nat (wl) (cel) := ne_ix hnd 0 1 rfl
    have a13 : @Ne Nat (wl) (nl) := ne_ix hnd 0 2 rfl
    have a14 : @Ne Nat (wl) (dx) := ne_ix hnd 0 3 rfl
    have a15 : @Ne Nat (wl) (st) := ne_ix hnd 0 4 rfl
    have a16 : @Ne Nat (wl) (L + 1) := ne_ix hnd 0 5 rfl
    have a23 : @Ne Nat (cel) (nl) := ne_ix hnd 1 2 rfl
    have a24 : @Ne Nat (cel) (dx) := ne_ix hnd 1 3 rfl
    have a25 : @Ne Nat (cel) (st) := ne_ix hnd 1 4 rfl
    have a26 : @Ne Nat (cel) (L + 1) := ne_ix hnd 1 5 rfl
    have a34 : @Ne Nat (nl) (dx) := ne_ix hnd 2 3 rfl
    have a35 : @Ne Nat (nl) (st) := ne_ix hnd 2 4 rfl
    have a36 : @Ne Nat (nl) (L + 1) := ne_ix hnd 2 5 rfl
    have a45 : @Ne Nat (dx) (st) := ne_ix hnd 3 4 rfl
    have a46 : @Ne Nat (dx) (L + 1) := ne_ix hnd 3 5 rfl
    have a56 : @Ne Nat (st) (L + 1) := ne_ix hnd 4 5 rfl
    have hCR : ∀ x ∈ [wl, cel, nl, dx, st, L + 1], OwnOff (CL ++ RS) [x] := fun x hx p hp b hb => by
      rw [List.mem_singleton.mp hb]
      rcases List.mem_append.mp hp with q | q
      · exact hCL p q x hx
      · exact hRS p q x hx
    have c1 := hCR wl (by k_mem)
    have c2 := hCR cel (by k_mem)
    have c3 := hCR st (by k_mem)
    have o1 : OwnOff ((cel, W.listOf cvs.toArray cn) :: (nl, instObj 134 dx) :: (dx, dictOf (nlEs w.params k1 k2 k3 k4 k5 nm cnt ct inp outp cel) 5) :: (CL ++ RS)) [st] := by walk_at "OWN"
    have o2 : OwnOff ((cel, W.listOf cvs.toArray cn) :: (nl, instObj 134 dx) :: (dx, dictOf (nlEs w.params k1 k2 k3 k4 k5 nm cnt ct inp outp cel) 5) :: (CL ++ RS)) [wl] := by walk_at "OWN"
    have o3 : OwnOff ((cel, W.listOf cvs.toArray cn) :: (nl, instObj 134 dx) :: (dx, dictOf (nlEs w.params k1 k2 k3 k4 k5 nm cnt ct inp outp cel) 5) :: (CL ++ RS)) [st, wl] := fun p hp b hb => by
      rcases List.mem_cons.mp hb with rfl | hb
      · exact o1 p hp _ (.head _)
      · exact o2 p hp _ hb
    have hw : ∀ i, i < wvs.length → ∃ a o t1 kd t2 ia pv, wvs[i]? = some (.ref a) ∧ (a, TupO #[.int o t1, .str (Kind.str kd) t2, .ref ia, pv]) ∈ (cel, W.listOf cvs.toArray cn) :: (nl, instObj 134 dx) :: (dx, dictOf (nlEs w.params k1 k2 k3 k4 k5 nm cnt ct inp outp cel) 5) :: (CL ++ RS) ∧
        (∃ (hi : i < ws'.length) (ivs : List Value), o = (ws'[i]).out ∧ kd = (ws'[i]).kind ∧ (ia, TupO ivs.toArray) ∈ RS ∧ IntsAre ivs (ws'[i]).ins ∧ ParamP (InCL RS) (ws'[i]).kind (ws'[i]).tb pv) := by
      intro i hi
      have hi2 : i < ws'.length := by rw [← hwl]; exact hi
      obtain ⟨vv, hvv, a2, t1, t2, ia, pv, ivs, rfl, hct, hit, hii, hpp⟩ := hwt.get i hi2
      exact ⟨a2, _, t1, _, t2, ia, pv, hvv, .tail _ (.tail _ (.tail _ (List.mem_append_right _ hct))), hi2, ivs, rfl, rfl, hit, hii, hpp⟩
    have N2 : News g L _ ((wl, W.listOf wvs.toArray wn) :: (st, StList D a tA n2) :: (L + 1, oc) :: (cel, W.listOf cvs.toArray cn) :: (nl, instObj 134 dx) :: (dx, dictOf (nlEs w.params k1 k2 k3 k4 k5 nm cnt ct inp outp cel) 5) :: (CL ++ RS)) := kst_newsOf N (by walk_at "SUBL")
    refine wpAny_execs_cons ?_
    have t9 := fun Q => s_pop (Q := Q) (s := { s with heap := h3, toks := tk3 }) (fa := fa) (cdv := cdv) (fr := fr) (gs := gs) G hroom hu F f1 N2 hoc (.tail _ (.tail _ (.tail _ (List.mem_append_right _ hD)))) hDst hI hlen b2 b3 o3 a56 (NEq.symm a15) a16 hpos b1 hw
    with_reducible refine t9 _ ?_
    clear t9 N2 N F hw o1 o2 o3
    intro h4 tk4 i a2 o t1 kd t2 ia pv tS nS hi hvi hmem hP F N
    obtain ⟨hi2, ivs, rfl, rfl, hit, hii, hpp⟩ := hP
    have hlc : cvs.length ≤ 100 := by rw [hcv.1]; omega
    have o4 : OwnOff ((wl, W.listOf (wvs.eraseIdx i).toArray (wn + 1)) :: (st, StList D (a + 1) tS nS) :: (L + 1, oc) :: (CL ++ RS)) [cel] := by walk_at "OWN"
    have N2 : News g L _ ((cel, W.listOf cvs.toArray cn) :: (nl, instObj 134 dx) :: (dx, dictOf (nlEs w.params k1 k2 k3 k4 k5 nm cnt ct inp outp cel) 5) :: (wl, W.listOf (wvs.eraseIdx i).toArray (wn + 1)) :: (st, StList D (a + 1) tS nS) :: (L + 1, oc) :: (CL ++ RS)) := kst_newsOf N (by walk_at "SUBL")
    have t9 := fun Q => s_drive (Q := Q) (s := { s with heap := h4, toks := tk4 }) (fa := fa) (cdv := cdv) (fr := fr) (gs := gs) (ivs := ivs) G hroom hu F (by walk_at "NM") (by walk_at "NM") (by walk_at "NM") (by walk_at "NM") (if_pos rfl) N2 a34 ⟨a23, a24⟩ o4 (.tail _ (.tail _ (.tail _ (List.mem_append_right _ hit)))) hlc
    walk_at "NXT"
    with_reducible refine t9 _ ?_
    clear t9 N2 N F o4
    intro h5 tk5 tq cn2 F N hq
    have hle : (wvs.eraseIdx i).length + 1 = wvs.length := by rw [List.length_eraseIdx, if_pos hi]; omega
    have hCL2 : ∀ p ∈ (tq, TupO #[.str (ws'[i]).kind.str t2, .int (ws'[i]).out t1, .ref ia, pv]) :: CL, ∀ b ∈ [wl, cel, nl, dx, st, L + 1], p.1 ≠ b := by
      intro p hp b hb
      rcases List.mem_cons.mp hp with rfl | hp
      · simp only [List.mem_cons, List.not_mem_nil, or_false] at hb
        rcases hb with rfl | rfl | rfl | rfl | rfl | rfl <;> exact Ne.symm (hq (_, _) (by k_mem))
      · exact hCL p hp b hb
    have hsub : ∀ p ∈ CL ++ RS, p ∈ ((tq, TupO #[.str (ws'[i]).kind.str t2, .int (ws'[i]).out t1, .ref ia, pv]) :: CL) ++ RS := fun p hp => .tail _ hp
    show wpAny _ _ (execs _ _) _ _ _
    refine wpAny_execs_nil ?_
    refine WhileStep.intro (n' := (wvs.eraseIdx i).length) (news₂ := (wl, W.listOf (wvs.eraseIdx i).toArray (wn + 1)) :: (cel, W.listOf (cvs ++ [Value.ref tq]).toArray cn2) :: (nl, instObj 134 dx) :: (dx, dictOf (nlEs w.params k1 k2 k3 k4 k5 nm cnt ct inp outp cel) 5) :: (st, StList D (a + 1) tS nS) :: (L + 1, oc) :: (((tq, TupO #[.str (ws'[i]).kind.str t2, .int (ws'[i]).out t1, .ref ia, pv]) :: CL) ++ RS)) F
      (kst_newsOf N (by walk_at "SUBL")) (by omega) ⟨⟨wvs.eraseIdx i, wn + 1, cvs ++ [Value.ref tq], cn2, a + 1, tS, nS, (tq, TupO #[.str (ws'[i]).kind.str t2, .int (ws'[i]).out t1, .ref ia, pv]) :: CL, ws'.eraseIdx i, cs ++ [ws'[i]], rfl, rfl, hwt.eraseIdx i,
        (hcv.mono (InCL.mono hsub)).snoc ⟨tq, t2, t1, ia, pv, ivs, rfl, .head _, hsub _ (List.mem_append_right _ hit), hii, hpp.mono (InCL.mono fun p hp => hsub _ (List.mem_append_right _ hp))⟩, perm_pop hi2 hpm, by omega, by omega, hCL2⟩, fun z hz => ?_⟩
    repeat (refine (if_neg (contains_ne hz (by k_mem))).trans ?_)
    exact e2 z hz
end
end
section
section
variable {w : World} {s : Shared} {g : Heap} {mean : ExcName → Option Value} {mg mb : Str → Option Value} {dd uu : Nat} {L fa : Addr} {cdv : Value} {m : Str → Option Value} {RS : List (Addr × Obj)} {Q : Flow → Shared → Prop}
theorem s_fin {fr gs} {nl dx inp outp cel va du oa : Addr} {k1 k2 k3 k4 k5 ct : Tok} {nm : Value} {c n : Nat} {vvs cvs rvs : List Value} {vn cn rn : Nat} {od : Obj} {dkvs : List (Int × Value)} {dv : Int → Int} {cs cs0 : List CellD} {r : List Nat} {V : List Int}
    (G : Gd w mean mg mb g) (hroom : dd < 500) (hu : uu < 1500) (F : Fr g L s.heap m) (hm1 : m (Str.ofString "netlist") = some (.ref nl)) (hm2 : m (Str.ofString "due") = some (.ref du)) (hm3 : m (Str.ofString "values") = some (.ref va)) (hm4 : m (Str.ofString "order_of") = some (.ref oa))
    (N : News g L s.heap ((va, W.listOf vvs.toArray vn) :: (du, od) :: (nl, instObj 134 dx) :: (dx, dictOf (nlEs w.params k1 k2 k3 k4 k5 nm (2 + (c : Int) + (n : Int)) ct inp outp cel) 5) :: RS))
    (hnd : [va, du, nl, dx].Nodup) (hRS : OwnOff RS [va, du, nl, dx]) (hcl : (cel, W.listOf cvs.toArray cn) ∈ RS) (hol : (oa, W.listOf rvs.toArray rn) ∈ RS) (hcv : CellsP (InCL RS) cvs cs) (hrv : IntsAre rvs (castL r)) (hvi : IntsAre vvs V)
    (hc : c ≤ 9) (hgen : GenOK c cs0) (hpm : cs.Perm cs0) (hlc : cs0.length = n) (hn : n ≤ 9) (hmem : ∀ j, j ∈ r ↔ j < cs.length) (htopo : ∀ k (h : k < r.length), ∀ b ∈ deps cs (r[k]), b ∈ r.take k)
    (hV1 : V.length = c + 2 + n) (hV2 : ∀ v ∈ V, v = 0 ∨ v = 1) (hV3 : ∀ k : Nat, k < c + 2 → V.getD k 0 = dv (k : Int)) (hd : ∀ x ∈ cs0, dv x.out = cellVal x.kind x.tb (x.ins.map dv)) (h01 : ∀ n, dv n = 0 ∨ dv n = 1)
    (hdo : od.IsDictOf (intKind PySem.Challenge.rw_on0104_01.row.prog w) dkvs) (hdu : DueOK dkvs dv (2 + c + n))
    (k : ∀ h' tk' m', Fr g L h' m' → Q .next { s with heap := h', toks := tk' }) :
    wpAny (MW w) { handled := none, depth := dd, frames := fr, guards := gs, units := uu } (exec (atS 17 lawB) (envOfC (Str.ofString "law") lawScope L fa cdv)) Q (fun _ _ => False) s := by
  have X' := G.X
  have T' := G.T
  walk_at "SEG"
  walk_at "GOL"
  unfold Stop
  rename IsRange _ _ _ _ _ _ _ _ => hr
  rename News _ _ _ _ => NN
  rename Fr _ _ _ _ => FF
  refine iter_range_S (n := 2) [Str.ofString "go_of", Str.ofString "net"] (fun _ _ nx => ∃ vvs vn V, nx = (va, W.listOf vvs.toArray vn) :: (du, od) :: (nl, instObj 134 dx) :: (dx, dictOf (nlEs w.params k1 k2 k3 k4 k5 nm (2 + (c : Int) + (n : Int)) ct inp outp cel) 5) :: RS ∧ IntsAre vvs V ∧ V.length = c + 2 + n ∧ (∀ v ∈ V, v = 0 ∨ v = 1) ∧ ∀ k : Nat, k < c + 2 → V.getD k 0 = dv (k : Int))
    rfl hr rfl (by omega) FF NN ⟨vvs, vn, V, rfl, hvi, hV1, hV2, hV3⟩ ?_ ?_
  · clear FF NN hvi hV1 hV2 hV3 hr k
    rintro i t m₅ news₅ h tk I oI hi ⟨vvs, vn, V, rfl, hvi, hV1, hV2, hV3⟩ hnI F N
    obtain ⟨m4, F4, e1, e2⟩ := turn_map F
    clear F
    replace F4 : Fr g L h m4 := F4
    have f1 := (e2 (Str.ofString "netlist") (by decide) (by decide)).trans hm1
    have f2 := (e2 (Str.ofString "due") (by decide) (by decide)).trans hm2
    have f3 := (e2 (Str.ofString "values") (by decide) (by decide)).trans hm3
    have f4 := (e2 (Str.ofString "order_of") (by decide) (by decide)).trans hm4
    have hI4 : ∀ b ∈ [va, du, nl, dx], b ≠ I := by
      intro b hb
      simp only [List.mem_cons, List.not_mem_nil, or_false] at hb
      rcases hb with rfl | rfl | rfl | rfl <;> exact hnI (_, _) (by k_mem)
    have hR2 : OwnOff (RS ++ [(I, oI)]) [va, du, nl, dx] := by
      intro q hq b hb
      rcases List.mem_append.mp hq with q1 | q1
      · exact hRS q q1 b hb
      · rw [List.mem_singleton.mp q1]; exact Ne.symm (hI4 b hb)
    have hnd2 := hnd
    simp only [List.nodup_cons, List.mem_cons, List.not_mem_nil, or_false, not_or] at hnd2
    obtain ⟨⟨a12, a13, a14⟩, ⟨a23, a24⟩, a34, _⟩ := hnd2
    have hO : OwnOff ((du, od) :: (RS ++ [(I, oI)])) [va, nl, dx] := OwnOff.cons (fun b hb => by
      simp only [List.mem_cons, List.not_mem_nil, or_false] at hb
      rcases hb with rfl | rfl | rfl
      · exact Ne.symm a12
      · exact a23
      · exact a24) (fun q hq b hb => hR2 q hq b (by simp only [List.mem_cons, List.not_mem_nil, or_false] at hb ⊢; rcases hb with h | h | h <;> simp [h]))
    have hvl := hvi.length
    have hcsl : cs.length = n := by rw [hpm.length_eq, hlc]
    have hall : ∀ cc ∈ cs, cellArity cc.kind cc.ins.length ∧ 0 ≤ cc.tb ∧ 0 ≤ cc.out ∧ cc.out < V.length ∧ ∀ n ∈ cc.ins, 0 ≤ n ∧ n < V.length := by
      intro cc hcc
      obtain ⟨j, hj, e1, e2, e3, e4⟩ := hgen.get (hpm.mem_iff.mp hcc)
      refine ⟨e3, e4, by omega, by omega, fun m hm => ?_⟩
      have := e2 m hm
      omega
    have hV' := fold_all hgen hpm (V := V) (by rw [hV1, hlc]) hV3 hd r hmem htopo
    rw [hlc] at hV'
    have hin : ∀ i ∈ castL r, 0 ≤ i ∧ i < cs.length := fun j hj => by
      obtain ⟨j', hj', rfl⟩ := List.mem_map.mp hj
      have := (hmem j').mp hj'
      omega
    have N2 : News g L h ((va, W.listOf vvs.toArray vn) :: (nl, instObj 134 dx) :: (dx, dictOf (nlEs w.params k1 k2 k3 k4 k5 nm (2 + (c : Int) + (n : Int)) ct inp outp cel) 5) :: (du, od) :: (RS ++ [(I, oI)])) := kst_newsOf N (by walk_at "SUBL")
    show wpAny (MW w) _ (execs (bodyOf (atS 17 lawB)) (envOfC (Str.ofString "law") lawScope L fa cdv)) _ _ _
    rw [finB_eq]
    refine wpAny_execs_cons ?_
    have t9 := fun Q => s_eval (Q := Q) (s := { s with heap := h, toks := tk }) (fa := fa) (cdv := cdv) (fr := fr) (gs := gs) G hroom hu F4 f1 f4 f3 N2 ⟨a13, a14, a34⟩ hO (.tail _ (List.mem_append_left _ hcl)) (.tail _ (List.mem_append_left _ hol)) (hcv.mono (InCL.mono fun p hp => .tail _ (List.mem_append_left _ hp))) hvi hrv (by omega) (by omega) hin hall hV2
    with_reducible refine t9 _ ?_
    clear t9 N2 N F4 hall hin
    intro h2 tk2 vvs2 vn2 F N hv2
    rw [hV'] at hv2
    have N2 : News g L _ ((va, W.listOf vvs2.toArray vn2) :: (du, od) :: (nl, instObj 134 dx) :: (dx, dictOf (nlEs w.params k1 k2 k3 k4 k5 nm (2 + (c : Int) + (n : Int)) ct inp outp cel) 5) :: (RS ++ [(I, oI)])) := kst_newsOf N (by walk_at "SUBL")
    have t9 := fun Q => s_cmp (Q := Q) (s := { s with heap := h2, toks := tk2 }) (fa := fa) (cdv := cdv) (fr := fr) (gs := gs) G hroom hu F f1 f2 f3 N2 hv2 hdo hdu (by omega) (by omega)
    walk_at "NXT"
    with_reducible refine t9 _ ?_
    clear t9 N2 N F
    intro h3 tk3 m5 F hm5 N
    have hVb : ∀ v ∈ (List.range (c + 2 + n)).map (fun (j : Nat) => dv (j : Int)), v = 0 ∨ v = 1 := by
      intro v hv
      obtain ⟨k, _, rfl⟩ := List.mem_map.mp hv
      exact h01 _
    have hVd : ∀ k : Nat, k < c + 2 → ((List.range (c + 2 + n)).map (fun (j : Nat) => dv (j : Int))).getD k 0 = dv (k : Int) := by
      intro k hk
      rw [List.getD_eq_getElem?_getD, List.getElem?_map, List.getElem?_range (by omega)]
      rfl
    show wpAny _ _ (execs _ _) _ _ _
    refine wpAny_execs_nil ?_
    refine InvEndX.intro (nx := (va, W.listOf vvs2.toArray vn2) :: (du, od) :: (nl, instObj 134 dx) :: (dx, dictOf (nlEs w.params k1 k2 k3 k4 k5 nm (2 + (c : Int) + (n : Int)) ct inp outp cel) 5) :: RS) F N ⟨⟨vvs2, vn2, _, rfl, hv2, by rw [List.length_map, List.length_range], hVb, hVd⟩, fun z hz => ?_⟩ (by walk_at "SUBL") (by repeat (first | exact .head _ | exact List.mem_append_right _ (.head _) | apply List.Mem.tail)) ?_
    · have hz2 := hz
      simp only [List.contains_cons, List.contains_nil, Bool.or_false, Bool.or_eq_false_iff, beq_eq_false_iff_ne, ne_eq] at hz2
      exact (hm5 z (by simp [hz2.2])).trans (e2 z hz2.1 hz)
    · exact OffI.same (l := (va, W.listOf vvs.toArray vn) :: (du, od) :: (nl, instObj 134 dx) :: (dx, dictOf (nlEs w.params k1 k2 k3 k4 k5 nm (2 + (c : Int) + (n : Int)) ct inp outp cel) 5) :: RS) hnI rfl
  · clear FF NN
    rintro m₅ news₅ h tk ⟨vvs, vn, V, rfl, _⟩ F N
    obtain ⟨m4, F4, e2⟩ := done_map F
    exact k _ _ m4 F4
end
end
section
section
variable {w : World} {s : Shared} {g : Heap} {mean : ExcName → Option Value} {mg mb : Str → Option Value} {dd uu : Nat} {L fa : Addr} {cdv : Value} {m : Str → Option Value} {RS : List (Addr × Obj)} {Q : Flow → Shared → Prop}
theorem s_lawA {fr gs} {sc : Addr} {svs : List Value} {ns : List Int} {oc0 ok : Obj} {ov : Option Value} (G : Gd w mean mg mb g) (hroom : dd < 500) (hu : uu < 1500)
    (F : Fr g L s.heap m) (hm : m (Str.ofString "script") = some (.ref sc)) (hL : g.IsList sc svs.toArray) (hI : IntsAre svs ns) (hc1 : ¬ ((63 : Nat) : Int) < (ns.length : Int)) (N : News g L s.heap [(L + 1, oc0), (L + 1 + 1, ok)]) (hoc : oc0.data = .cell ov)
    (k : ∀ h' tk' m' (wl rd nt nl dx st tp bl inp outp cel D : Addr) (ro oc : Obj) (ys ws : List Value) (k1 k2 k3 k4 k5 ct ta : Tok) (nm tn : Value) (c na m1 m2 : Nat), c < 4 → Fr g L h' m' → m' (Str.ofString "nets") = some (.ref nt) → m' (Str.ofString "rows") = some (.ref rd) → m' (Str.ofString "netlist") = some (.ref nl) → m' (Str.ofString "waiting") = some (.ref wl) →
      News g L h' ((wl, W.listOf ([] : List Value).toArray 0) :: (rd, ro) :: (nt, LCg.lst ys) :: (nl, instObj 134 dx) :: (dx, dictOf (nlEs w.params k1 k2 k3 k4 k5 nm (2 + ((c + 1 : Nat) : Int)) ct inp outp cel) 5) :: (st, StList D 1 ta na) :: (L + 1, oc) :: (L + 1 + 1, ok) :: [(tp, TupO #[tn, .ref bl]), (bl, W.listOf ys.toArray m1), (inp, W.listOf #[Value.ref tp] m2), (outp, W.listOf #[] 0), (cel, W.listOf ([] : List Value).toArray 0), (D, W.listOf ws.toArray 0)]) → [wl, rd, nt, nl, dx, st, L + 1, L + 1 + 1, tp, bl, inp, outp, cel, D].Nodup → oc.data = .cell (some (.ref st)) → (rd == sysModules) = false → ro.IsDictOf (intKind PySem.Challenge.rw_on0104_01.row.prog w) [] → IntsAre ws (ns.take 40) → IntsAre ys ((List.range (c + 1)).map fun (i : Nat) => (2 : Int) + (i : Int)) →
      wpAny (MW w) { handled := none, depth := dd, frames := fr, guards := gs, units := uu } (execs [atS 6 lawB, atS 7 lawB, atS 8 lawB, atS 9 lawB, atS 10 lawB, atS 11 lawB, atS 12 lawB, atS 13 lawB, atS 14 lawB, atS 15 lawB, atS 16 lawB, atS 17 lawB, atS 18 lawB] (envOfC (Str.ofString "law") lawScope L fa cdv)) Q (fun _ _ => False) { s with heap := h', toks := tk' }) :
    wpAny (MW w) { handled := none, depth := dd, frames := fr, guards := gs, units := uu } (execs lawB (envOfC (Str.ofString "law") lawScope L fa cdv)) Q (fun _ _ => False) s := by
  rw [lawB_eq]
  have q12 : @Ne Nat (L + 1 + 1) (L + 1) := Nat.succ_ne_self _
  have hlen : (ns.take 40).length ≤ 63 := by rw [List.length_take]; omega
  have t9 := fun Q => s_state (Q := Q) (s := s) (fa := fa) (cdv := cdv) (fr := fr) (gs := gs) (RS := [(L + 1 + 1, ok)]) G hroom hu F hm hL hI hc1 N hoc (own1 q12 own_nil)
  walk_at "NXT"
  with_reducible refine t9 _ ?_
  clear t9 N F
  intro h1 tk1 D st ws oc t F N lD lst hoc hI2
  have g1 : [D, L + 1, L + 1 + 1].Nodup ∧ OwnOff ([] : List (Addr × Obj)) [D, L + 1, L + 1 + 1] := nd_grow (l := [L + 1, L + 1 + 1]) (RS := []) (List.nodup_cons.mpr ⟨fun h => q12 (List.mem_singleton.mp h).symm, List.nodup_cons.mpr ⟨List.not_mem_nil, List.nodup_nil⟩⟩) own_nil9 (lt_ne lD) [0, 1] rfl rfl
  have g2 := nd_grow g1.1 g1.2 (lt_ne lst) [0, 1, 2] rfl rfl
  have hDst : @Ne Nat D st := ne_ix g2.1 1 0 rfl
  have t9 := fun Q => s_count (Q := Q) (s := { s with heap := h1, toks := tk1 }) (fa := fa) (cdv := cdv) (fr := fr) (gs := gs) (at_ := 0) (RS := [(D, W.listOf ws.toArray 0), (L + 1 + 1, ok)]) G hroom hu F (kst_newsOf N (by walk_at "SUBL")) hoc (.head _) hDst hI2 hlen (Int.le_refl _) (by decide) (own_ix g2.1 g2.2 [1, 3] [0] rfl rfl rfl rfl) (ne_ix g2.1 0 2 rfl)
  walk_at "NXT"
  with_reducible refine t9 _ ?_
  clear t9
  clear N F
  intro h2 tk2 c tc t2 n2 hc4 F N
  have t9 := fun Q => s_netl (Q := Q) (s := { s with heap := h2, toks := tk2 }) (fa := fa) (cdv := cdv) (fr := fr) (gs := gs)  G hroom hu F N
  walk_at "NXT"
  with_reducible refine t9 _ ?_
  clear t9
  clear F N
  intro h3 tk3 nl dx inp outp cel k1 k2 k3 k4 k5 ct nm F N hall e1 e2 e3 e4
  have g3 := nd_grow g2.1 g2.2 (fun p hp => (hall p hp).2.1.ne) [0, 2, 1, 3] rfl rfl
  have g4 := nd_grow g3.1 g3.2 (Y := (dx, dictOf (nlEs w.params k1 k2 k3 k4 k5 nm (2) ct inp outp cel) 5) :: (st, StList D (0 + 1) t2 n2) :: (L + 1, oc) :: [(D, W.listOf ws.toArray 0), (L + 1 + 1, ok)]) (List.forall_mem_cons.mpr ⟨Ne.symm e1, fun p hp => (hall p hp).1.ne⟩) [0, 1, 3, 2, 4] rfl rfl
  have g5 := nd_grow g4.1 g4.2 (Y := (nl, instObj 134 dx) :: (dx, dictOf (nlEs w.params k1 k2 k3 k4 k5 nm (2) ct inp outp cel) 5) :: (st, StList D (0 + 1) t2 n2) :: (L + 1, oc) :: [(D, W.listOf ws.toArray 0), (L + 1 + 1, ok)]) (List.forall_mem_cons.mpr ⟨e2.1, List.forall_mem_cons.mpr ⟨e3.1, fun p hp => (hall p hp).2.2.1.ne⟩⟩) [0, 1, 2, 4, 3, 5] rfl rfl
  have g6 := nd_grow g5.1 g5.2 (Y := (inp, W.listOf #[] 0) :: (nl, instObj 134 dx) :: (dx, dictOf (nlEs w.params k1 k2 k3 k4 k5 nm (2) ct inp outp cel) 5) :: (st, StList D (0 + 1) t2 n2) :: (L + 1, oc) :: [(D, W.listOf ws.toArray 0), (L + 1 + 1, ok)]) (List.forall_mem_cons.mpr ⟨e4.1, List.forall_mem_cons.mpr ⟨e2.2.1, List.forall_mem_cons.mpr ⟨e3.2.1, fun p hp => (hall p hp).2.2.2.1.ne⟩⟩⟩) [0, 1, 2, 3, 5, 4, 6] rfl rfl
  have g7 := nd_grow g6.1 g6.2 (Y := (outp, W.listOf #[] 0) :: (inp, W.listOf #[] 0) :: (nl, instObj 134 dx) :: (dx, dictOf (nlEs w.params k1 k2 k3 k4 k5 nm (2) ct inp outp cel) 5) :: (st, StList D (0 + 1) t2 n2) :: (L + 1, oc) :: [(D, W.listOf ws.toArray 0), (L + 1 + 1, ok)]) (List.forall_mem_cons.mpr ⟨e4.2.2, List.forall_mem_cons.mpr ⟨e4.2.1, List.forall_mem_cons.mpr ⟨e2.2.2, List.forall_mem_cons.mpr ⟨e3.2.2, fun p hp => (hall p hp).2.2.2.2.ne⟩⟩⟩⟩) [0, 1, 2, 3, 4, 6, 5, 7] rfl rfl
  clear g1 g2 g3 g4 g5 g6 hall e1 e2 e3 e4
  have t9 := fun Q => s_addi (Q := Q) (s := { s with heap := h3, toks := tk3 }) (fa := fa) (cdv := cdv) (fr := fr) (gs := gs) (c := c + 1) (RS := (outp, W.listOf #[] 0) :: (cel, W.listOf #[] 0) :: (st, StList D (0 + 1) t2 n2) :: (L + 1, oc) :: [(D, W.listOf ws.toArray 0), (L + 1 + 1, ok)]) G hroom hu F (by walk_at "NM") (by walk_at "NM") (by omega) (kst_newsOf N (by walk_at "SUBL")) (ne_ix g7.1 3 4 rfl) ⟨ne_ix g7.1 2 3 rfl, ne_ix g7.1 2 4 rfl⟩ (own_ix g7.1 g7.2 [1, 0, 5, 7, 6, 8] [2, 4] rfl rfl rfl rfl)
  walk_at "NXT"
  with_reducible refine t9 _ ?_
  clear t9
  clear F N
  intro h4 tk4 nt bl tp ys m1 m2 tn ct4 F N hall e1 hys
  have g8 := nd_grow g7.1 g7.2 (fun p hp => (hall p hp).1.ne) [2, 3, 4, 1, 0, 5, 7, 6, 8] rfl rfl
  have g9 := nd_grow g8.1 g8.2 (Y := (nt, LCg.lst ys) :: (inp, W.listOf #[] 0) :: (nl, instObj 134 dx) :: (dx, dictOf (nlEs w.params k1 k2 k3 k4 k5 nm (2) ct inp outp cel) 5) :: (outp, W.listOf #[] 0) :: (cel, W.listOf #[] 0) :: (st, StList D (0 + 1) t2 n2) :: (L + 1, oc) :: [(D, W.listOf ws.toArray 0), (L + 1 + 1, ok)]) (List.forall_mem_cons.mpr ⟨e1, fun p hp => (hall p hp).2.1.ne⟩) [0, 3, 4, 5, 2, 1, 6, 8, 7, 9] rfl rfl
  have n1 : NEq bl tp := news_ne N (.tail _ (.head _)) (.head _) list_ne_tup
  have n3 : NEq nt tp := news_ne N (.tail _ (.tail _ (.head _))) (.head _) (list_ne_tup (vs := ys.toArray))
  have g10 := nd_grow g9.1 g9.2 (Y := (bl, W.listOf ys.toArray m1) :: (nt, LCg.lst ys) :: (inp, W.listOf #[] 0) :: (nl, instObj 134 dx) :: (dx, dictOf (nlEs w.params k1 k2 k3 k4 k5 nm (2) ct inp outp cel) 5) :: (outp, W.listOf #[] 0) :: (cel, W.listOf #[] 0) :: (st, StList D (0 + 1) t2 n2) :: (L + 1, oc) :: [(D, W.listOf ws.toArray 0), (L + 1 + 1, ok)]) (List.forall_mem_cons.mpr ⟨n1, List.forall_mem_cons.mpr ⟨n3, fun p hp => (hall p hp).2.2.ne⟩⟩) [0, 1, 4, 5, 6, 3, 2, 7, 9, 8, 10] rfl rfl
  clear g7 g8 g9 hall n1 n3 e1
  have t9 := fun Q => s_rows (Q := Q) (s := { s with heap := h4, toks := tk4 }) (fa := fa) (cdv := cdv) (fr := fr) (gs := gs)  G hroom hu F N
  walk_at "NXT"
  with_reducible refine t9 _ ?_
  clear t9
  clear F N
  intro h5 tk5 rd ro F N lrd lord hro
  have g11 := nd_grow g10.1 g10.2 (lt_ne lrd) [0, 1, 2, 5, 6, 7, 4, 3, 8, 10, 9, 11] rfl rfl
  have t9 := fun Q => s_wait (Q := Q) (s := { s with heap := h5, toks := tk5 }) (fa := fa) (cdv := cdv) (fr := fr) (gs := gs)  G hroom hu F N
  walk_at "NXT"
  with_reducible refine t9 _ ?_
  clear t9
  clear F N
  intro h6 tk6 wl F N lwl
  have g12 := nd_grow g11.1 g11.2 (lt_ne lwl) [0, 1, 2, 3, 6, 7, 8, 5, 4, 9, 11, 10, 12] rfl rfl
  exact k h6 tk6 _ wl rd nt nl dx st tp bl inp outp cel D ro oc ys ws k1 k2 k3 k4 k5 ct4 t2 nm _ c n2 m1 m2 hc4 F (by walk_at "NM") (by walk_at "NM") (by walk_at "NM") (by walk_at "NM") (kst_newsOf N (by walk_at "SUBL"))
    (nd_ix g12.1 [0, 1, 4, 8, 9, 10, 12, 13, 2, 3, 7, 6, 5, 11] rfl (by decide) rfl) hoc lord hro hI2 hys
end
end
section
section
variable {w : World} {s : Shared} {g : Heap} {mean : ExcName → Option Value} {mg mb : Str → Option Value} {dd uu : Nat} {L fa : Addr} {cdv : Value} {m : Str → Option Value} {RS : List (Addr × Obj)} {Q : Flow → Shared → Prop}
theorem s_lawC {fr gs} {rd nt nl dx st tp bl inp outp cel D : Addr} {ro oc : Obj} {ys ws cvs : List Value} {k1 k2 k3 k4 k5 ct ta : Tok} {nm tn : Value} {c n na m1 m2 cn : Nat} {at_ : Int} {ns : List Int} {rkvs : List (Int × Value)} {cs cs0 : List CellD} (G : Gd w mean mg mb g) (hroom : dd < 500) (hu : uu < 1500)
    (F : Fr g L s.heap m) (f1 : m (Str.ofString "nets") = some (.ref nt)) (f2 : m (Str.ofString "rows") = some (.ref rd)) (f3 : m (Str.ofString "netlist") = some (.ref nl))
    (N : News g L s.heap ((nl, instObj 134 dx) :: (dx, dictOf (nlEs w.params k1 k2 k3 k4 k5 nm (2 + ((c + 1 : Nat) : Int) + (n : Int)) ct inp outp cel) 5) :: (st, StList D at_ ta na) :: (L + 1, oc) :: RS)) (nd : [nl, dx, st, L + 1].Nodup) (oR : OwnOff RS [nl, dx, st, L + 1]) (hrd : (rd, ro) ∈ RS) (hnt : (nt, LCg.lst ys) ∈ RS) (hD : (D, W.listOf ws.toArray 0) ∈ RS) (htp : (tp, TupO #[tn, .ref bl]) ∈ RS) (hbl : (bl, W.listOf ys.toArray m1) ∈ RS) (hinp : (inp, W.listOf #[Value.ref tp] m2) ∈ RS) (hcel : (cel, W.listOf cvs.toArray cn) ∈ RS)
    (hoc : oc.data = .cell (some (.ref st))) (lord : (rd == sysModules) = false) (hro : ro.IsDictOf (intKind PySem.Challenge.rw_on0104_01.row.prog w) rkvs) (hgen : GenOK (c + 1) cs0) (hrw : Each (RowP (InCL RS)) rkvs cs0) (hcv : CellsP (InCL RS) cvs cs) (hpm : cs.Perm cs0) (hl0 : cs0.length = n) (hn : n ≤ 9) (hc : c < 4)
    (hI : IntsAre ws ns) (hlen : ns.length ≤ 63) (hys : IntsAre ys ((List.range (c + 1)).map fun (i : Nat) => (2 : Int) + (i : Int))) (h0 : 0 ≤ at_) (h1 : at_ < 900)
    (k : ∀ h' tk' m', Fr g L h' m' → wpAny (MW w) { handled := none, depth := dd, frames := fr, guards := gs, units := uu } (execs [atS 18 lawB] (envOfC (Str.ofString "law") lawScope L fa cdv)) Q (fun _ _ => False) { s with heap := h', toks := tk' }) :
    wpAny (MW w) { handled := none, depth := dd, frames := fr, guards := gs, units := uu } (execs [atS 8 lawB, atS 9 lawB, atS 10 lawB, atS 11 lawB, atS 12 lawB, atS 13 lawB, atS 14 lawB, atS 15 lawB, atS 16 lawB, atS 17 lawB, atS 18 lawB] (envOfC (Str.ofString "law") lawScope L fa cdv)) Q (fun _ _ => False) s := by
  have hcl : cs.length = n := hpm.length_eq.trans hl0
  have rdO : (rd, ro) ∈ RS := hrd
  have t9 := fun Q => s_vals (Q := Q) (s := { s with heap := s.heap, toks := s.toks }) (fa := fa) (cdv := cdv) (fr := fr) (gs := gs) (c := c + 1) (n := n) (RS := (st, StList D at_ ta na) :: (L + 1, oc) :: RS) G hroom hu F f3 (kst_newsOf N (by walk_at "SUBL")) (by omega) (by omega)
  walk_at "NXT"
  with_reducible refine t9 _ ?_
  clear t9
  clear F N
  intro h1' tk1 va vv0 F N lva hv0
  have g1 := nd_grow nd oR (lt_ne lva) [0, 1, 2, 3] rfl rfl
  have hvl : vv0.length = 2 + (c + 1) + n := by rw [hv0.length, List.length_replicate]
  have t9 := fun Q => s_vals1 (Q := Q) (s := { s with heap := h1', toks := tk1 }) (fa := fa) (cdv := cdv) (fr := fr) (gs := gs)  G hroom hu F (by walk_at "NM") N hv0 (by omega) (by omega) (own_ix g1.1 g1.2 [1, 2, 3, 4] [0] rfl rfl rfl rfl)
  walk_at "NXT"
  with_reducible refine t9 _ ?_
  clear t9
  clear F N
  intro h2 tk2 vv1 vn1 F N hv1
  rw [vecs1] at hv1
  have t9 := fun Q => s_bitsd (Q := Q) (s := { s with heap := h2, toks := tk2 }) (fa := fa) (cdv := cdv) (fr := fr) (gs := gs)  G hroom hu F N
  walk_at "NXT"
  with_reducible refine t9 _ ?_
  clear t9
  clear F N
  intro h3 tk3 bd bo F N lbd hbo
  have g2 := nd_grow g1.1 g1.2 (lt_ne lbd) [0, 1, 2, 3, 4] rfl rfl
  have y1 : NEq st (L + 1) := ne_ix g2.1 4 5 rfl
  have y2 : NEq bd va := ne_ix g2.1 0 1 rfl
  have y3 : NEq bd st := ne_ix g2.1 0 4 rfl
  have y4 : NEq bd (L + 1) := ne_ix g2.1 0 5 rfl
  have y5 : NEq va st := ne_ix g2.1 1 4 rfl
  have y6 : NEq va (L + 1) := ne_ix g2.1 1 5 rfl
  have y7 : NEq bd nt := Ne.symm (g2.2 _ hnt bd (by simp))
  have y8 : NEq va nt := Ne.symm (g2.2 _ hnt va (by simp))
  have y9 : NEq st nt := Ne.symm (g2.2 _ hnt st (by simp))
  have t9 := fun Q => s_bits (Q := Q) (s := { s with heap := h3, toks := tk3 }) (fa := fa) (cdv := cdv) (fr := fr) (gs := gs) (RS := (nl, instObj 134 dx) :: (dx, dictOf (nlEs w.params k1 k2 k3 k4 k5 nm (2 + ((c + 1 : Nat) : Int) + (n : Int)) ct inp outp cel) 5) :: RS) G hroom hu F (by walk_at "NM") (by walk_at "NM") (by walk_at "NM") (kst_newsOf N (by walk_at "SUBL")) hoc (.tail _ (.tail _ hD)) (oR _ hD st (by simp)) hI hlen h0 h1 (own_ix g2.1 g2.2 [2, 3] [0, 1, 4] rfl rfl rfl rfl) y1 y2 y3 y4 y5 y6 y7 y8 y9 hys hv1 hbo (by omega) (by omega)
  walk_at "NXT"
  with_reducible refine t9 _ ?_
  clear t9
  clear F N hv0 hv1 hbo
  intro h4 tk4 m4 vvs vn bo bkvs at' t' na' bs F e4 N hvi hbl2 hb01 hbi hbk hbv
  have i1 := (e4 (Str.ofString "nets") (by decide)).trans ((if_neg (by decide)).trans ((if_neg (by decide)).trans f1))
  have i2 := (e4 (Str.ofString "rows") (by decide)).trans ((if_neg (by decide)).trans ((if_neg (by decide)).trans f2))
  have i3 := (e4 (Str.ofString "netlist") (by decide)).trans ((if_neg (by decide)).trans ((if_neg (by decide)).trans f3))
  have i4 := (e4 (Str.ofString "bits") (by decide)).trans (if_pos rfl)
  have i5 := (e4 (Str.ofString "values") (by decide)).trans ((if_neg (by decide)).trans (if_pos rfl))
  have t9 := fun Q => s_dued (Q := Q) (s := { s with heap := h4, toks := tk4 }) (fa := fa) (cdv := cdv) (fr := fr) (gs := gs)  G hroom hu F N
  walk_at "NXT"
  with_reducible refine t9 _ ?_
  clear t9
  clear F N
  intro h5 tk5 du od t0 t1 F N lbu hdo
  have g3 := nd_grow g2.1 g2.2 (Y := (bd, bo) :: (va, W.listOf vvs.toArray vn) :: (st, StList D at' t' na') :: (L + 1, oc) :: (nl, instObj 134 dx) :: (dx, dictOf (nlEs w.params k1 k2 k3 k4 k5 nm (2 + ((c + 1 : Nat) : Int) + (n : Int)) ct inp outp cel) 5) :: RS) (fun p hp => lbu p (.tail _ hp)) [0, 1, 4, 5, 2, 3] rfl rfl
  have hb2 : ([0, 1] ++ bs).length = c + 1 + 2 := by rw [List.length_append, hbl2]; exact Nat.add_comm _ _
  have hb01' : ∀ v ∈ [0, 1] ++ bs, v = 0 ∨ v = 1 := fun v hv => by
    rcases List.mem_append.mp hv with q | q
    · simpa using q
    · exact hb01 v q
  have hdl : ∀ j : Nat, j < c + 1 → bs.getD j 0 = dvL ([0, 1] ++ bs) cs0 ((2 + j : Nat) : Int) := fun j hj => by
    rw [dvL_low _ _ (by rw [hb2]; omega), base_get]
  have hd0 : dvL ([0, 1] ++ bs) cs0 0 = 0 := dvL_low ([0, 1] ++ bs) cs0 (n := 0) (by rw [hb2]; omega)
  have hd1 : dvL ([0, 1] ++ bs) cs0 1 = 1 := dvL_low ([0, 1] ++ bs) cs0 (n := 1) (by rw [hb2]; omega)
  have z1 : NEq du nt := Ne.symm (g3.2 _ hnt du (by simp))
  have z2 : NEq du bd := ne_ix g3.1 0 1 rfl
  have z3 : NEq du rd := Ne.symm (g3.2 _ hrd du (by simp))
  have z4 : @Ne Nat nl dx := ne_ix g3.1 3 4 rfl
  have t9 := fun Q => s_duea (Q := Q) (s := { s with heap := h5, toks := tk5 }) (fa := fa) (cdv := cdv) (fr := fr) (gs := gs) (RS := (va, W.listOf vvs.toArray vn) :: (st, StList D at' t' na') :: (L + 1, oc) :: (nl, instObj 134 dx) :: (dx, dictOf (nlEs w.params k1 k2 k3 k4 k5 nm (2 + ((c + 1 : Nat) : Int) + (n : Int)) ct inp outp cel) 5) :: RS) G hroom hu F (by walk_at "NM") (by walk_at "NM") (by walk_at "NM") (kst_newsOf N (by walk_at "SUBL")) (own_ix g3.1 g3.2 [2, 5, 6, 3, 4] [0] rfl rfl rfl rfl) z1 z2 hys hbi hbv hdl hdo (Nat.le_refl _) (DueOK.base hd0 hd1) (by omega)
  walk_at "NXT"
  with_reducible refine t9 _ ?_
  clear t9
  clear F N hdo hdl
  intro h6 tk6 m6 od6 dk6 F e6 N hdo hdk hdu
  replace i1 := (e6 (Str.ofString "nets") (by decide)).trans ((if_neg (by decide)).trans i1)
  replace i2 := (e6 (Str.ofString "rows") (by decide)).trans ((if_neg (by decide)).trans i2)
  replace i3 := (e6 (Str.ofString "netlist") (by decide)).trans ((if_neg (by decide)).trans i3)
  replace i5 := (e6 (Str.ofString "values") (by decide)).trans ((if_neg (by decide)).trans i5)
  have i6 := (e6 (Str.ofString "due") (by decide)).trans (if_pos rfl)
  have hRS4 : ∀ p ∈ RS, p ∈ (bd, bo) :: (va, W.listOf vvs.toArray vn) :: (st, StList D at' t' na') :: (L + 1, oc) :: (nl, instObj 134 dx) :: (dx, dictOf (nlEs w.params k1 k2 k3 k4 k5 nm (2 + ((c + 1 : Nat) : Int) + (n : Int)) ct inp outp cel) 5) :: RS := by walk_at "SUBL"
  have t9 := fun Q => s_dueb (Q := Q) (s := { s with heap := h6, toks := tk6 }) (fa := fa) (cdv := cdv) (fr := fr) (gs := gs) (RS := (bd, bo) :: (va, W.listOf vvs.toArray vn) :: (st, StList D at' t' na') :: (L + 1, oc) :: (nl, instObj 134 dx) :: (dx, dictOf (nlEs w.params k1 k2 k3 k4 k5 nm (2 + ((c + 1 : Nat) : Int) + (n : Int)) ct inp outp cel) 5) :: RS) G hroom hu F i2 i6 (kst_newsOf N (by walk_at "SUBL")) (own_ix g3.1 g3.2 [1, 2, 5, 6, 3, 4] [0] rfl rfl rfl rfl) z3 lord hro hgen (hrw.mono fun a b p => p.mono (InCL.mono hRS4)) (by omega) (by omega) (fun x hx => dvL_out hgen hb2 hx) (fun x => dvL_01 hgen hb2 hb01' x) hdo hdk hdu
  walk_at "NXT"
  with_reducible refine t9 _ ?_
  clear t9
  clear F N hdo hdk hdu hRS4
  intro h7 tk7 m7 od7 dk7 F e7 N hdo hdu
  replace i3 := (e7 (Str.ofString "netlist") (by decide)).trans i3
  replace i5 := (e7 (Str.ofString "values") (by decide)).trans i5
  replace i6 := (e7 (Str.ofString "due") (by decide)).trans i6
  have hRS5 : ∀ p ∈ RS, p ∈ (du, od7) :: (va, W.listOf vvs.toArray vn) :: RS := by walk_at "SUBL"
  have t9 := fun Q => s_ord (Q := Q) (s := { s with heap := h7, toks := tk7 }) (fa := fa) (cdv := cdv) (fr := fr) (gs := gs) (RS := (du, od7) :: (va, W.listOf vvs.toArray vn) :: RS) G hroom hu F i3 (kst_newsOf N (by walk_at "SUBL")) z4 (hRS5 _ hcel) (hRS5 _ hinp) (hRS5 _ htp) (hRS5 _ hbl) (own_ix g3.1 g3.2 [0, 2] [3, 4] rfl rfl rfl rfl) (hcv.mono (InCL.mono hRS5)) hys (hgen.net hpm (by omega) (by omega))
  walk_at "NXT"
  with_reducible refine t9 _ ?_
  clear t9
  clear F N
  intro h8 tk8 oa rvs rn r F N loa hrv hnd hmem htopo
  replace i3 := (if_neg (by decide) : (if Str.ofString "netlist" = Str.ofString "order_of" then some (Value.ref oa) else m7 (Str.ofString "netlist")) = _).trans i3
  replace i5 := (if_neg (by decide) : (if Str.ofString "values" = Str.ofString "order_of" then some (Value.ref oa) else m7 (Str.ofString "values")) = _).trans i5
  replace i6 := (if_neg (by decide) : (if Str.ofString "due" = Str.ofString "order_of" then some (Value.ref oa) else m7 (Str.ofString "due")) = _).trans i6
  have hrl : rvs.length ≤ 10 := by
    rw [hrv.length, castL, List.length_map]
    have p2 : r.Perm (List.range cs.length) := (List.perm_ext_iff_of_nodup hnd List.nodup_range).mpr fun j => by rw [hmem, List.mem_range]
    rw [p2.length_eq, List.length_range]; omega
  have t9 := fun Q => s_chk (Q := Q) (s := { s with heap := h8, toks := tk8 }) (fa := fa) (cdv := cdv) (fr := fr) (gs := gs) (cvs := cvs) (cn := cn) (RS := (du, od7) :: (va, W.listOf vvs.toArray vn) :: RS) G hroom hu F (if_pos rfl) i3 (kst_newsOf N (by walk_at "SUBL")) hrv hnd (fun j => by rw [hmem, hcv.1]) (by rw [hcv.1]; omega) hrl
  walk_at "NXT"
  with_reducible refine t9 _ ?_
  clear t9
  clear F N
  intro h9 tk9 F N
  have hoa : ∀ b ∈ [va, du, nl, dx], oa ≠ b := by
    intro b hb
    simp only [List.mem_cons, List.not_mem_nil, or_false] at hb
    rcases hb with rfl | rfl | rfl | rfl <;> exact Ne.symm (loa (_, _) (by k_mem))
  have t9 := fun Q => s_fin (Q := Q) (s := { s with heap := h9, toks := tk9 }) (fa := fa) (cdv := cdv) (fr := fr) (gs := gs) (c := c + 1) (n := n) (RS := (oa, W.listOf rvs.toArray rn) :: RS) G hroom hu F i3 i6 i5 (if_pos rfl) (kst_newsOf N (by walk_at "SUBL")) (nd_ix g3.1 [2, 0, 3, 4] rfl (by decide) rfl) (own_more hoa (own_ix g3.1 g3.2 [] [2, 0, 3, 4] rfl rfl rfl rfl)) (.tail _ hcel) (.head _) (hcv.mono (InCL.mono fun p hp => .tail _ hp)) hrv hvi (by omega) hgen hpm hl0 hn hmem htopo (vals_first (n := n) hbl2 hb01 cs0).1 (vals_first (n := n) hbl2 hb01 cs0).2.1 (vals_first (n := n) hbl2 hb01 cs0).2.2 (fun x hx => dvL_out hgen hb2 hx) (fun x => dvL_01 hgen hb2 hb01' x) hdo (by rw [hl0] at hdu; exact hdu)
  walk_at "NXT"
  with_reducible refine t9 _ ?_
  clear t9
  clear F N
  intro h10 tk10 m10 F
  exact k h10 tk10 m10 F
end
end
section
section
variable {w : World} {s : Shared} {g : Heap} {mean : ExcName → Option Value} {mg mb : Str → Option Value} {dd uu : Nat} {L fa : Addr} {cdv : Value} {m : Str → Option Value} {RS : List (Addr × Obj)} {Q : Flow → Shared → Prop}
theorem s_law {fr gs} {sc : Addr} {svs : List Value} {ns : List Int} {oc0 ok : Obj} {ov ov2 : Option Value} (G : Gd w mean mg mb g) (hroom : dd < 500) (hu : uu < 1500)
    (F : Fr g L s.heap m) (hm : m (Str.ofString "script") = some (.ref sc)) (hL : g.IsList sc svs.toArray) (hI : IntsAre svs ns) (hc1 : ¬ ((63 : Nat) : Int) < (ns.length : Int)) (N : News g L s.heap [(L + 1, oc0), (L + 1 + 1, ok)]) (hoc : oc0.data = .cell ov) (hok : ok.data = .cell ov2)
    (k : ∀ h' tk' m', Fr g L h' m' → wpAny (MW w) { handled := none, depth := dd, frames := fr, guards := gs, units := uu } (execs [atS 18 lawB] (envOfC (Str.ofString "law") lawScope L fa cdv)) Q (fun _ _ => False) { s with heap := h', toks := tk' }) :
    wpAny (MW w) { handled := none, depth := dd, frames := fr, guards := gs, units := uu } (execs lawB (envOfC (Str.ofString "law") lawScope L fa cdv)) Q (fun _ _ => False) s := by
  have hlen : (ns.take 40).length ≤ 63 := by rw [List.length_take]; omega
  refine s_lawA G hroom hu F hm hL hI hc1 N hoc ?_
  clear F N hI hc1 hL
  intro h1 tk1 m1' wl rd nt nl dx st tp bl inp outp cel D ro oc ys ws k1 k2 k3 k4 k5 ct ta nm tn c na m1 m2 hc4 F f1 f2 f3 f4 N nd hoc lord hro hI hys
  have t9 := fun Q => s_build (Q := Q) (s := { s with heap := h1, toks := tk1 }) (fa := fa) (cdv := cdv) (fr := fr) (gs := gs) (c := c + 1) (at_ := 1) (RS := [(tp, TupO #[tn, .ref bl]), (bl, W.listOf ys.toArray m1), (inp, W.listOf #[Value.ref tp] m2), (outp, W.listOf #[] 0), (cel, W.listOf ([] : List Value).toArray 0), (D, W.listOf ws.toArray 0)]) G hroom hu F f1 f2 f3 f4 N hoc hok (by k_mem) (ne_ix nd 13 5 rfl) hI hlen (by decide) (by decide) (nd_ix nd [0, 1, 2, 3, 4, 5, 6, 7] rfl (by decide) rfl) (own_ix nd own_nil9 [8, 9, 10, 11, 12, 13] [0, 1, 2, 3, 4, 5, 6, 7] rfl rfl rfl rfl) hys (by omega) hro lord
  walk_at "NXT"
  with_reducible refine t9 _ ?_
  clear t9
  clear F N hro hok
  intro h2 tk2 m2' n wvs wn ro rkvs ct2 a t2 n2 okc ov3 CL cs0 hn9 F e2 N ⟨hgen, hl0, hro, hrw, hwt, ha0, ha1, hok, hCL⟩
  replace f1 := (e2 (Str.ofString "nets") (by decide)).trans f1
  replace f2 := (e2 (Str.ofString "rows") (by decide)).trans f2
  replace f3 := (e2 (Str.ofString "netlist") (by decide)).trans f3
  replace f4 := (e2 (Str.ofString "waiting") (by decide)).trans f4
  have oCL : OwnOff CL [wl, rd, nt, nl, dx, st, L + 1, L + 1 + 1, tp, bl, inp, outp, cel, D] := fun p hp b hb => by
    rcases List.mem_append.mp (show b ∈ [wl, rd, nt, nl, dx, st, L + 1, L + 1 + 1] ++ [(tp, TupO #[tn, .ref bl]), (bl, W.listOf ys.toArray m1), (inp, W.listOf #[Value.ref tp] m2), (outp, W.listOf #[] 0), (cel, W.listOf ([] : List Value).toArray 0), (D, W.listOf ws.toArray 0)].map (·.1) from hb) with q | q
    · exact (hCL p hp).1 b q
    · obtain ⟨p', hp', rfl⟩ := List.mem_map.mp q
      exact Ne.symm ((hCL p hp).2 p' hp')
  have hsub : ∀ p ∈ CL, p ∈ (rd, ro) :: (nt, LCg.lst ys) :: (L + 1 + 1, okc) :: (tp, TupO #[tn, .ref bl]) :: (bl, W.listOf ys.toArray m1) :: (inp, W.listOf #[Value.ref tp] m2) :: (outp, W.listOf #[] 0) :: (D, W.listOf ws.toArray 0) :: CL := by walk_at "SUBL"
  have sub8 : ∀ p ∈ CL ++ [(tp, TupO #[tn, .ref bl]), (bl, W.listOf ys.toArray m1), (inp, W.listOf #[Value.ref tp] m2), (outp, W.listOf #[] 0), (cel, W.listOf ([] : List Value).toArray 0), (D, W.listOf ws.toArray 0)], p ∈ (wl, W.listOf wvs.toArray wn) :: (rd, ro) :: (nt, LCg.lst ys) :: (nl, instObj 134 dx) :: (dx, dictOf (nlEs w.params k1 k2 k3 k4 k5 nm (2 + ((c + 1 : Nat) : Int) + (n : Int)) ct2 inp outp cel) 5) :: (st, StList D a t2 n2) :: (L + 1, oc) :: (L + 1 + 1, okc) :: (CL ++ [(tp, TupO #[tn, .ref bl]), (bl, W.listOf ys.toArray m1), (inp, W.listOf #[Value.ref tp] m2), (outp, W.listOf #[] 0), (cel, W.listOf ([] : List Value).toArray 0), (D, W.listOf ws.toArray 0)]) := fun p hp => .tail _ (.tail _ (.tail _ (.tail _ (.tail _ (.tail _ (.tail _ (.tail _ hp)))))))
  have N2 : News g L h2 ((wl, W.listOf wvs.toArray wn) :: (cel, W.listOf ([] : List Value).toArray 0) :: (nl, instObj 134 dx) :: (dx, dictOf (nlEs w.params k1 k2 k3 k4 k5 nm (2 + ((c + 1 : Nat) : Int) + (n : Int)) ct2 inp outp cel) 5) :: (st, StList D a t2 n2) :: (L + 1, oc) :: (rd, ro) :: (nt, LCg.lst ys) :: (L + 1 + 1, okc) :: (tp, TupO #[tn, .ref bl]) :: (bl, W.listOf ys.toArray m1) :: (inp, W.listOf #[Value.ref tp] m2) :: (outp, W.listOf #[] 0) :: (D, W.listOf ws.toArray 0) :: CL) := kst_newsOf N (by repeat' (first | exact fun p hp => sub8 p (List.mem_append_left _ hp) | (refine List.forall_mem_cons.mpr ⟨by first | k_mem | exact sub8 _ (List.mem_append_right _ (by k_mem)), ?_⟩)))
  have t9 := fun Q => s_drv (Q := Q) (s := { s with heap := h2, toks := tk2 }) (fa := fa) (cdv := cdv) (fr := fr) (gs := gs) (RS := (rd, ro) :: (nt, LCg.lst ys) :: (L + 1 + 1, okc) :: (tp, TupO #[tn, .ref bl]) :: (bl, W.listOf ys.toArray m1) :: (inp, W.listOf #[Value.ref tp] m2) :: (outp, W.listOf #[] 0) :: (D, W.listOf ws.toArray 0) :: CL) G hroom hu F f4 f3 N2 hoc (.tail _ (.tail _ (.tail _ (.tail _ (.tail _ (.tail _ (.tail _ (.head _)))))))) (ne_ix nd 13 5 rfl) hI hlen ha0 (by omega) (nd_ix nd [0, 12, 3, 4, 5, 6] rfl (by decide) rfl) (own_ix nd oCL [1, 2, 7, 8, 9, 10, 11, 13] [0, 12, 3, 4, 5, 6] rfl rfl rfl rfl) (hwt.mono fun a b p => p.mono (InCL.mono hsub)) (by omega)
  walk_at "NXT"
  with_reducible refine t9 _ ?_
  clear t9
  clear F N N2 sub8
  intro h3 tk3 m3' wn3 cvs cn a3 t3 n3 CL2 cs F e3 N hcv hpm hb0 hb1 hCL2
  have oR7 : OwnOff ((rd, ro) :: (nt, LCg.lst ys) :: (L + 1 + 1, okc) :: (tp, TupO #[tn, .ref bl]) :: (bl, W.listOf ys.toArray m1) :: (inp, W.listOf #[Value.ref tp] m2) :: (outp, W.listOf #[] 0) :: (D, W.listOf ws.toArray 0) :: CL) [nl, dx, st, L + 1] := own_ix nd oCL [1, 2, 7, 8, 9, 10, 11, 13] [3, 4, 5, 6] rfl rfl rfl rfl
  have oR : OwnOff ((cel, W.listOf cvs.toArray cn) :: (CL2 ++ ((rd, ro) :: (nt, LCg.lst ys) :: (L + 1 + 1, okc) :: (tp, TupO #[tn, .ref bl]) :: (bl, W.listOf ys.toArray m1) :: (inp, W.listOf #[Value.ref tp] m2) :: (outp, W.listOf #[] 0) :: (D, W.listOf ws.toArray 0) :: CL))) [nl, dx, st, L + 1] :=
    own_more (fun b hb => by
      simp only [List.mem_cons, List.not_mem_nil, or_false] at hb
      rcases hb with rfl | rfl | rfl | rfl
      · exact ne_ix nd 12 3 rfl
      · exact ne_ix nd 12 4 rfl
      · exact ne_ix nd 12 5 rfl
      · exact ne_ix nd 12 6 rfl) (own_both (fun p hp b hb => hCL2 p hp b (List.mem_cons_of_mem _ (List.mem_cons_of_mem _ hb))) oR7)
  have hs7 : ∀ p ∈ (rd, ro) :: (nt, LCg.lst ys) :: (L + 1 + 1, okc) :: (tp, TupO #[tn, .ref bl]) :: (bl, W.listOf ys.toArray m1) :: (inp, W.listOf #[Value.ref tp] m2) :: (outp, W.listOf #[] 0) :: (D, W.listOf ws.toArray 0) :: CL, p ∈ (cel, W.listOf cvs.toArray cn) :: (CL2 ++ ((rd, ro) :: (nt, LCg.lst ys) :: (L + 1 + 1, okc) :: (tp, TupO #[tn, .ref bl]) :: (bl, W.listOf ys.toArray m1) :: (inp, W.listOf #[Value.ref tp] m2) :: (outp, W.listOf #[] 0) :: (D, W.listOf ws.toArray 0) :: CL)) := fun p hp => .tail _ (List.mem_append_right _ hp)
  have hs8 : ∀ p ∈ CL2 ++ ((rd, ro) :: (nt, LCg.lst ys) :: (L + 1 + 1, okc) :: (tp, TupO #[tn, .ref bl]) :: (bl, W.listOf ys.toArray m1) :: (inp, W.listOf #[Value.ref tp] m2) :: (outp, W.listOf #[] 0) :: (D, W.listOf ws.toArray 0) :: CL), p ∈ (cel, W.listOf cvs.toArray cn) :: (CL2 ++ ((rd, ro) :: (nt, LCg.lst ys) :: (L + 1 + 1, okc) :: (tp, TupO #[tn, .ref bl]) :: (bl, W.listOf ys.toArray m1) :: (inp, W.listOf #[Value.ref tp] m2) :: (outp, W.listOf #[] 0) :: (D, W.listOf ws.toArray 0) :: CL)) := fun p hp => .tail _ hp
  refine s_lawC (s := { s with heap := h3, toks := tk3 }) (fa := fa) (cdv := cdv) (fr := fr) (gs := gs) (c := c) (n := n) (RS := (cel, W.listOf cvs.toArray cn) :: (CL2 ++ ((rd, ro) :: (nt, LCg.lst ys) :: (L + 1 + 1, okc) :: (tp, TupO #[tn, .ref bl]) :: (bl, W.listOf ys.toArray m1) :: (inp, W.listOf #[Value.ref tp] m2) :: (outp, W.listOf #[] 0) :: (D, W.listOf ws.toArray 0) :: CL))) G hroom hu F ((e3 (Str.ofString "nets") (by decide)).trans f1) ((e3 (Str.ofString "rows") (by decide)).trans f2) ((e3 (Str.ofString "netlist") (by decide)).trans f3)
    (kst_newsOf N (by walk_at "SUBL")) (nd_ix nd [3, 4, 5, 6] rfl (by decide) rfl) oR (hs7 _ (by k_mem)) (hs7 _ (by k_mem)) (hs7 _ (by k_mem)) (hs7 _ (by k_mem)) (hs7 _ (by k_mem)) (hs7 _ (by k_mem)) (.head _) hoc lord hro hgen (hrw.mono fun a b p => p.mono (InCL.mono fun p hp => hs7 p (hsub p hp))) (hcv.mono (InCL.mono hs8)) hpm hl0 (by omega) hc4 hI hlen hys (by omega) (by omega) ?_
  intro h4 tk4 m4 F
  exact k h4 tk4 m4 F
end
end
section
theorem law_holds : PySem.Challenge.rw_on0104_01.Holds := Mine.hd (by
  k_go0
  all_goals try k_fold
  rename_i w s0 s1 mg mb GG Y fa o pm doc ho hg KX X V GL T B TE TW w11 w10 M w9 w8 hcd ns hs hlay0 hL1 hr1 hl2 w6 w5 sc svs w2 hL ra w1x r0 hI hr hc1 hc K0 hD h1 tk1 F w1 w0 left right N0 X0
  have G' : Gd w _ mg mb s1.heap := ⟨KX, T⟩
  clear GG Y ho X V GL B TE TW M hcd hs hlay0 hL1 hr1 hl2 w6 w5 w2 ra w1x r0 hr hc K0 hD X0
  dsimp only
  replace F : Fr s1.heap s1.heap.objs.size h1 (fun y => if y = Str.ofString "script" then some (Value.ref sc) else none) := by
    with_unfolding_all exact F
  rw [Around.deeper]
  refine wpAny_mono (E := fun _ _ => False) ?_ (fun _ _ h => h) (fun _ _ (h : False) => h.elim)
  show wpAny (MW w) _ (execs lawB (envOfC (Str.ofString "law") lawScope s1.heap.objs.size fa _)) _ _ _
  have N1 : News s1.heap s1.heap.objs.size h1 [(s1.heap.objs.size + 1, w0), (s1.heap.objs.size + 1 + 1, w1)] := kst_newsOf N0 (by walk_at "SUBL")
  have t9 := fun Q fr gs cdv => s_law (Q := Q) (fr := fr) (gs := gs) (cdv := cdv) (s := { s1 with heap := h1, toks := tk1 }) (L := s1.heap.objs.size) (fa := fa) G' (by decide : callerA.depth + 1 < 500) (by decide : callerA.units + 3 < 1500) F (if_pos rfl) hL hI hc1 N1 right left
  refine t9 _ _ _ _ ?_
  clear t9 N1 N0 F left right hL hI hc1
  intro h' tk' m' F
  walk_at "NXT"
  walk_at "SEG"
  walk_at "GOL"
  refine goodW_bool (by assumption) (by assumption) (raisesW_false ?_) ?_
  · wrow_none_raised
  · first | kc_post | wrow_post)
end
end
end
end
end Mine
theorem PySem.Challenge.cw_on0104_01_holds : PySem.Challenge.rw_on0104_01.Holds := by
  exact Mine.law_holds
