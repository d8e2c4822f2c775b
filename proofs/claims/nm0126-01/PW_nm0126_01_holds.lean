import PyProof.Rows.All
import Wide.All
import OpenK.AllK
import Wide.FinOn
import PySem.Challenge.RW_nm0126_01
open PySem PySem.W PyProof.Rows PySem.Calls PySem.Spec
set_option Elab.async false
set_option maxRecDepth 100000
set_option maxHeartbeats 8000000
namespace Mine
abbrev prg : Program := PySem.Challenge.pw_nm0126_01
def vw : Program := view prg [0, 2, 3, 4, 6, 7, 8, 9, 10, 11, 12, 13, 14, 15, 16, 17, 18, 19, 20, 21, 22, 23, 24, 25, 26, 27, 28, 29, 30, 31, 32, 33, 34, 35, 36, 37, 38, 39, 40, 41, 42, 43, 44, 45, 46, 47, 48, 49, 50, 52, 53, 54, 55, 56, 57, 58, 60, 62, 63, 64, 65, 66, 67, 68]
abbrev rW : RowW := OpenRow.toRowW PySem.Challenge.rw_nm0126_01.row
def runG (ok : Thread → Bool) (st : SharedT → Thread → Option (SharedT × Thread)) : Nat → SharedT → Thread → Option SharedT
  | 0, _, _ => none
  | n + 1, s, t => match through t with
    | true => some s
    | false => match ok t with
      | false => none
      | true => match st s t with
        | some (s', t') => runG ok st n s' t'
        | none => none
theorem runG_of {tb : String → Option Builtin} {p : Program} {w : World} {n₀ : Nat} {ann : Option Value} : ∀ {n : Nat} {s : SharedT} {t : Thread} {S : SharedT}, runG (stepOk n₀ ann) (stepT (denote tb) p w) n s t = some S → topRun tb p w n₀ ann n s.abs t = some S.abs
  | 0, _, _, _, h => by cases h
  | n + 1, s, t, S, h => by
    unfold runG at h
    unfold topRun
    cases h1 : through t with
    | true => rw [h1] at h; cases h; rfl
    | false =>
      rw [h1] at h
      cases h2 : stepOk n₀ ann t with
      | false => rw [h2] at h; cases h
      | true =>
        rw [h2] at h
        cases h3 : stepT (denote tb) p w s t with
        | none => rw [h3] at h; cases h
        | some x =>
          obtain ⟨s', t'⟩ := x
          rw [h3] at h
          show (match step (denote tb) p w s.abs t with | .go s' t' => topRun tb p w n₀ ann n s' t' | .halt _ _ => none) = _
          rw [stepT_spec h3]
          exact runG_of h
noncomputable def T0 (P : Params) : BT := ((boot_heap P).objs.toList.foldl (fun (x : BT × Nat) o => (x.1.ins x.2 o, x.2 + 1)) (.nil, 0)).1
noncomputable abbrev n0 (P : Params) : Nat := (boot_heap P).objs.size
noncomputable abbrev endT (w : World) (os : OsState) : Option SharedT :=
  runG (stepOk (n0 w.params) ((boot_heap w.params).nsMap mainGlobals "__annotations__")) (stepT (denote treeTable) prg w) 5286 ⟨T0 w.params, n0 w.params, (boot_heap w.params).life, #[], boot_drawn, boot_toks, os⟩ (topStub prg)
abbrev seenV (s : Shared) := openSeen vw [Str.ofString "COMPARES", Str.ofString "REST"] (importedModules prg.main.body) (fun s => xlAt vw [] s && recOk (RowW.records rW) s) true s
abbrev goodV := openGood vw [Str.ofString "COMPARES", Str.ofString "REST"]
theorem tr0 : ∀ P, absHeap (T0 P) (n0 P) (boot_heap P).life = boot_heap P := fun P => by kernel_rfl
theorem ns0 : ∀ P, ((boot_heap P).isNs mainGlobals && (#[] : Array GenState).size == 0) = true := fun P => by kernel_rfl
def lit (t : BT) : Nat → List Obj → Option (List Obj)
  | 0, acc => some acc
  | n + 1, acc => match t.get n with
    | some o => lit t n (o :: acc)
    | none => none
theorem lit_spec {t : BT} : ∀ {n : Nat} {acc l : List Obj}, lit t n acc = some l → l = ((List.range n).map fun i => (t.get i).getD default) ++ acc
  | 0, acc, l, h => by cases h; rfl
  | n + 1, acc, l, h => by
    unfold lit at h
    cases e : t.get n with
    | none => rw [e] at h; cases h
    | some o =>
      rw [e] at h
      rw [lit_spec h, List.range_succ, List.map_append, List.append_assoc]
      simp [e]
abbrev litS (S : SharedT) (l : List Obj) : Shared := ⟨⟨l.toArray, S.life⟩, S.gens, S.drawn, S.toks, S.os⟩
theorem lit_abs {S : SharedT} {l : List Obj} (h : lit S.tree S.n [] = some l) : litS S l = S.abs := by
  have e := lit_spec h
  rw [List.append_nil] at e
  subst e
  rfl
abbrev look {α : Type} (f : Shared → α) (S : SharedT) : Option α := (lit S.tree S.n []).map fun l => f (litS S l)
theorem look_at {α : Type} {f : Shared → α} {o : Option SharedT} {r : α} (h : o.bind (look f) = some r) : ∃ S, o = some S ∧ f S.abs = r := by
  obtain ⟨S, e, h1⟩ := Option.bind_eq_some_iff.mp h
  obtain ⟨l, h2, h3⟩ := Option.map_eq_some_iff.mp h1
  exact ⟨S, e, by rw [← lit_abs h2]; exact h3⟩
theorem see2 : ∀ w os, (endT w os).bind (look fun s => (seenV s).2.2) = some goodV.2.2 := by
  unfold endT seenV goodV
  rw [PySem.W.Fast.te14364793385576792824, PySem.W.Fast.te11892475500146522536, PySem.W.Fast.te10156331382660048174, PySem.W.Fast.te6613529449190102663]
  exact fun w os => by kernel_rfl
theorem topE (w : World) : ∃ os, ∀ S, endT w os = some S → (staticsOk (importedModules prg.main.body) (boot_heap w.params) S.abs.heap && namesBound prg S.abs.heap && gensDone S.abs && laidKept (boot_heap w.params) S.abs.heap) = true → openEnds treeTable prg w 5286 = some S.abs := by
  obtain ⟨s₀, a, b⟩ := Option.map_eq_some_iff.mp (boot_open (p := prg) (N := 5286) rfl rfl (fun _ => rfl) w)
  obtain ⟨hp, gs, d, k, os⟩ := s₀
  simp only [Prod.mk.injEq] at b
  obtain ⟨rfl, rfl, rfl, rfl⟩ := b
  refine ⟨os, fun S e q0 => ?_⟩
  have r := runG_of e
  have ea : SharedT.abs ⟨T0 w.params, n0 w.params, (boot_heap w.params).life, #[], boot_drawn, boot_toks, os⟩ = ⟨boot_heap w.params, #[], boot_drawn, boot_toks, os⟩ := by
    show Shared.mk (absHeap _ _ _) _ _ _ _ = _
    rw [tr0]
  rw [ea] at r
  unfold openEnds
  rw [a, Option.bind_some]
  unfold topFrom
  dsimp only
  rw [ns0, r]
  dsimp only
  rw [Option.bind_some, q0]
theorem pair3 {A B C E : Type} {x g : A × B × C} {y z : E} (h1 : x.1 = g.1) (h2 : x.2.1 = g.2.1) (h3 : x.2.2 = g.2.2) (h5 : y = z) : (x, y) = (g, z) := by
  obtain ⟨x1, x2, x3⟩ := x
  obtain ⟨g1, g2, g3⟩ := g
  dsimp only at h1 h2 h3
  rw [h1, h2, h3, h5]
theorem left_of {H : Hook} (h : ∀ w os, (endT w os).bind (look fun s => (staticsOk (importedModules prg.main.body) (boot_heap w.params) s.heap && namesBound prg s.heap && gensDone s && laidKept (boot_heap w.params) s.heap, (seenV s).1, (seenV s).2.1, H.obs s)) = some (true, goodV.1, goodV.2.1, H.val w)) :
    LeftO prg vw [Str.ofString "COMPARES", Str.ofString "REST"] (fun s => xlAt vw [] s && recOk (RowW.records rW) s) H.obs H.val 5286 := fun w => by
  obtain ⟨os, k⟩ := topE w
  obtain ⟨S, e, e1⟩ := look_at (h w os)
  obtain ⟨S2, e', e2⟩ := look_at (see2 w os)
  rw [e] at e'
  cases e'
  obtain ⟨q0, q1⟩ := Prod.mk.inj e1
  obtain ⟨q1, q2⟩ := Prod.mk.inj q1
  obtain ⟨q2, q3⟩ := Prod.mk.inj q2
  rw [k S e q0]
  exact congrArg some (pair3 q1 q2 e2 q3)
section
local macro_rules | `(tactic| o_head $H) => do
  let hw := Lean.mkIdent `hw
  let hc := Lean.mkIdent `hc
  `(tactic| (refine holds_open (q := vw) (loose := [Str.ofString "COMPARES", Str.ofString "REST"]) (Xt := fun s => xlAt vw [] s && recOk (RowW.records rW) s) (XP := XL vw []) (Yf := Hook.obs $H) (Ya := Hook.val $H) (YP := Hook.says $H) (N := 5286) ?hl (Hook.of $H) (Hook.keeps $H) (fun s e => xl_of s (Bool.and_eq_true_iff.mp e).1) XL.keeps (by rfl) (by rfl) (by rfl) (fun s e => recFacts_of (Bool.and_eq_true_iff.mp e).2) (by rfl) (by first | assumption | decide +kernel) (by decide +kernel) ⟨rfl, rfl, rfl, rfl, rfl, by decide +kernel⟩ ?$hw ?$hc; (case hl => (refine left_of ?_; unfold endT seenV goodV; rw [PySem.W.Fast.te14364793385576792824, PySem.W.Fast.te11892475500146522536, PySem.W.Fast.te10156331382660048174, PySem.W.Fast.te6613529449190102663]; exact fun w os => by kernel_rfl))))
open_top hd for PySem.Challenge.rw_nm0126_01
end
end Mine
namespace Mine
abbrev kAr (dp un : Nat) (gd : Option (List Code)) (stk : List Env) : Around := { handled := none, depth := dp, frames := some stk, guards := gd, units := un }
section
variable {prog : Program} {w : World} {A : Around} {s : Shared} {base g : Heap} {stk : List Env} {news : List (Addr × Obj)} {K : Frag}
  {R : Result → Shared → Prop} {name qual : Str} {params : Arguments} {body : List Stmt} {scope : Scope} {dV kV doc pm cdv ct oc : Value} {an od : Option Addr} {osl : Array (Option Value)} {f : Addr} {args : Args} {binds : List (Str × Value)}
theorem code_gr (st : g.StaysIn s.heap) (hsz : g.objs.size ≤ s.heap.objs.size) (X : K.In g) (hlim : g.NoLimit) (N : ∀ p ∈ news, s.heap.get? p.1 = some p.2 ∧ g.get? p.1 = none)
    (ho : K.lookup f = some ⟨oc, od, .func (fnOf name qual params body scope dV kV doc pm an cdv ct), osl⟩) (hcd : codeIn K cdv qual = true) (hroom : A.depth < recursionLimit)
    (hbind : BindsTo s (fnOf name qual params body scope dV kV doc pm an cdv ct) args binds) (hloc : ∀ y ∈ binds, scope.names.lookup y.1 = some .local)
    (h : ∀ L' h₁, Fr g L' h₁ (fun y => binds.reverse.lookup y) → News g L' h₁ news → (∀ p ∈ news, p.1 < L') →
      wpAny (model prog w) (A.deeper (envOf qual scope L' f cdv)) (execs body (envOf qual scope L' f cdv))
        (fun fl s' => R (.ok (.ret (match fl with | .ret v => v | _ => .none))) s')
        (fun e s' => wpAny (model prog w) (A.deeper (envOf qual scope L' f cdv)) (leaving (envOf qual scope L' f cdv) e) (fun _ s'' => R (.error e) s'') (fun e' s'' => R (.error e') s'') s')
        { s with heap := h₁, toks := s.toks + binds.length })
    (hcell : ∀ x ∈ scope.names, x.2 ≠ .cell) (hco : scope.isCoroutine = false) (hgen : scope.isGenerator = false) (hk : scope.kind = .function) :
    codeAny (model prog w) A (.call (.ref f) args) R s := by
  refine codeAny_call_def (fd := fnOf name qual params body scope dV kV doc pm an cdv ct) (body := body) (binds := binds) hroom (st _ _ (X _ _ ho)) rfl (hlim.keeps st) (codeRec_of (X.keeps st) hcd) rfl hbind hcell hloc (fun h₁ hns hk₁ => ?_) hco hgen hk
  exact h _ h₁ ⟨hns, fun b o e => hk₁ b o (st b o e), hsz⟩ (fun p hp => ⟨hk₁ _ _ (N p hp).1, Nat.ne_of_lt (Heap.lt_size (N p hp).1), (N p hp).2⟩) (fun p hp => Heap.lt_size (N p hp).1)
end
section
variable {prog : Program} {w : World} {base g : Heap} {stk : List Env} {dp un : Nat} {gd : Option (List Code)} {s : Shared} {mean : ExcName → Option Value} {mg mb : Str → Option Value} {Q E : Value → Shared → Prop}
theorem sz_of {g h : Heap} {L : Addr} {m : Str → Option Value} (F : Fr g L h m) : g.objs.size ≤ h.objs.size := Nat.le_of_lt (Nat.lt_of_le_of_lt F.above F.ns.lt)
theorem fmod_lo {a b : Int} (h : 0 < b) : 0 ≤ Int.fmod a b := by rw [Int.fmod_eq_emod_of_nonneg _ (Int.le_of_lt h)]; exact Int.emod_nonneg _ (by omega)
theorem fmod_hi {a b : Int} (h : 0 < b) : Int.fmod a b < b := by rw [Int.fmod_eq_emod_of_nonneg _ (Int.le_of_lt h)]; exact Int.emod_lt_of_pos _ h
theorem pos_of {vs : List Value} {ns : List Int} (hi : IntsAre vs ns) (h : decide (ns = []) = false) : 0 < vs.length := by
  rw [IntsAre.length hi]
  cases ns with
  | nil => cases h
  | cons _ _ => exact Nat.succ_pos _
local macro_rules | `(tactic| kpa_ne) => `(tactic| exact pos_of (by assumption) (by assumption))
local macro_rules | `(tactic| units_room) => `(tactic| (show _ < 9900; (simp only [units_in1, units_deeper, Around.mark_units]); omega))
local macro_rules | `(tactic| k_room) => `(tactic| first | ((try simp only [depth_under_make, depth_under_kw, depth_in1, depth_deeper, depth_caller] at *); (simp only [recursionLimit] at *); omega))
theorem next_ctr {t : Addr} {vs : List Value} {ns : List Int} {n : Nat} {many : Int} {tk : Tok} (B : Below (kAr dp un gd stk) base stk g) (st : g.StaysIn s.heap) (hsz : g.objs.size ≤ s.heap.objs.size)
    (X : (Mine.hd.heap_39 w.params).In g) (T : Top Mine.vw (looseW Mine.vw [Str.ofString "COMPARES", Str.ofString "REST"]) mean mg mb g)
    (ht : s.heap.get? t = some (listOf vs.toArray n)) (hg : g.get? t = none) (hi : IntsAre vs ns) (hl : ns.length ≤ 63) (hm : 0 < many) (hmb : many ≤ 2 ^ 64) (hd : dp + 1 < 1000) (hu : un + 400 < 9900)
    (hret : ∀ r tk' h' vs' ns' n' tk'', g.StaysIn h' → g.objs.size ≤ h'.objs.size → h'.get? t = some (listOf (List.toArray vs') n') → IntsAre vs' ns' → ns'.length ≤ ns.length → 0 ≤ r → r < many → Q (.int r tk') { s with heap := h', toks := tk'' }) :
    wpAny (model prog w) (kAr dp un gd stk) (call (.ref 355) [.ref t, .int many tk]) Q E s := by
  refine wpAny_call ?_
  have N0 : ∀ p ∈ [(t, (listOf vs.toArray n : Obj))], s.heap.get? p.1 = some p.2 ∧ g.get? p.1 = none := by
    intro p hp; rw [List.mem_singleton.mp hp]; exact ⟨ht, hg⟩
  have hlim := Top.nolimit T
  k_dflt (refine' code_gr (binds := [(Str.ofString "tape", .ref t), (Str.ofString "many", .int many tk)]) st hsz X hlim N0 ?k6 ?k7 ?k8 ?k9 ?kB ?_ ?c5 ?c2 ?c3 ?c4; (case k6 => k_is); (case k7 => k_is); (case k8 => (simp only [recursionLimit]; omega)); (case k9 => exact BindsTo.of_eq rfl); (case c5 => decide); (case kB => exact locs rfl); (case c2 => exact rfl); (case c3 => exact rfl); (case c4 => exact rfl); k_whole)
  clear N0 st hsz ht
  have hvl := IntsAre.length hi
  intro L' h' F' N' l1
  (try k_lt l1)
  (try dsimp only)
  (try k_fold)
  k_steps
  · rename Fr _ _ _ _ => Fz
    rename News _ _ _ _ => Nz
    exact hret _ _ _ vs ns n _ Fz.keep (sz_of Fz) (Nz.get (by k_mem)) hi (Nat.le_refl _) (Int.le_refl _) hm
  · rename Fr _ _ _ _ => Fz
    rename News _ _ _ _ => Nz
    rename IntsAre vs.dropLast _ => hI2
    exact hret _ _ _ vs.dropLast ns.dropLast (n + 1) _ Fz.keep (sz_of Fz) (Nz.get (by k_mem)) hI2 (by rw [List.length_dropLast]; exact Nat.sub_le _ _) (fmod_lo hm) (fmod_hi hm)
end
end Mine
namespace Mine
abbrev kTop (mean : ExcName → Option Value) (mg mb : Str → Option Value) (h : Heap) : Prop := Top Mine.vw (looseW Mine.vw [Str.ofString "COMPARES", Str.ofString "REST"]) mean mg mb h
def Mut (prog : Program) (w : World) (mean : ExcName → Option Value) (mg mb : Str → Option Value) (need : Nat) (f : Addr) (vals : List Value) (t : Addr) (o : Obj) (P : Heap → Prop) (Post : Value → Obj → List (Addr × Obj) → Prop) : Prop :=
  ∀ {dp un : Nat} {gd : Option (List Code)} {stk : List Env} {base g : Heap} {s : Shared} {Q E : Value → Shared → Prop},
    Below (kAr dp un gd stk) base stk g → g.StaysIn s.heap → g.objs.size ≤ s.heap.objs.size → (Mine.hd.heap_39 w.params).In g → kTop mean mg mb g → s.heap.get? t = some o → g.get? t = none → P g →
    dp + need < 1000 → un + 8 * need + 400 < 9900 →
    (∀ r h' o' tl tk, g.StaysIn h' → h'.get? t = some o' → (∀ p ∈ tl, h'.get? p.1 = some p.2 ∧ g.get? p.1 = none ∧ p.1 ≠ t) → Post r o' tl → Q r { s with heap := h', toks := tk }) →
    wpAny (model prog w) (kAr dp un gd stk) (call (.ref f) vals) Q E s
def RO (prog : Program) (w : World) (mean : ExcName → Option Value) (mg mb : Str → Option Value) (need : Nat) (f : Addr) (vals : List Value) (P : Heap → Prop) (Post : Value → Prop) : Prop :=
  ∀ {dp un : Nat} {gd : Option (List Code)} {stk : List Env} {base : Heap} {s : Shared} {Q E : Value → Shared → Prop},
    Below (kAr dp un gd stk) base stk s.heap → (Mine.hd.heap_39 w.params).In s.heap → kTop mean mg mb s.heap → P s.heap →
    dp + need < 1000 → un + 8 * need + 400 < 9900 →
    (∀ r h' tk, s.heap.StaysIn h' → Post r → Q r { s with heap := h', toks := tk }) →
    wpAny (model prog w) (kAr dp un gd stk) (call (.ref f) vals) Q E s
def Off (tl news : List (Addr × Obj)) : Prop := ∀ q ∈ news, ∀ p ∈ tl, p.1 ≠ q.1
theorem off_at {tl news : List (Addr × Obj)} {d : Addr} {o : Obj} (h : Off tl news) (hm : (d, o) ∈ news) : ∀ p ∈ tl, p.1 ≠ d := fun p hp => h _ hm p hp
theorem off_nil {news : List (Addr × Obj)} : Off [] news := fun _ _ _ hp => nomatch hp
section
variable {prog : Program} {w : World} {mean : ExcName → Option Value} {mg mb : Str → Option Value} {need : Nat} {f t : Addr} {vals : List Value} {o : Obj} {P : Heap → Prop} {Post : Value → Obj → List (Addr × Obj) → Prop} {PostR : Value → Prop}
  {dp un : Nat} {gd : Option (List Code)} {cn : Str} {cs : Scope} {L a : Addr} {ccd : Value} {cl : List (Str × Addr)} {outer : List Env} {A₀ : Around} {base h₀ : Heap} {m : Str → Option Value} {news : List (Addr × Obj)} {up : Obj → List (Addr × Obj)} {s : Shared} {Q E : Value → Shared → Prop}
theorem kin_hide {K : Frag} {h₀ g : Heap} (X : K.In h₀) (st : h₀.StaysIn g) : K.In g := X.keeps st
theorem Mut.use (C : Mut prog w mean mg mb need f vals t o P Post)
    (B : Below A₀ base outer h₀) (F : Fr h₀ L s.heap m) (N : News h₀ L s.heap news) (X : (Mine.hd.heap_39 w.params).In h₀) (T : kTop mean mg mb h₀)
    (U : ∀ o', Upd t o o' news (up o')) (hP : ∀ g : Heap, h₀.StaysIn g → (∀ p ∈ news, p.1 ≠ t → g.get? p.1 = some p.2) → P g)
    (hk : cs.kind = .function) (hd : dp + need < 1000) (hu : un + 8 * need + 400 < 9900)
    (ret : ∀ r h' o' tl tk, Fr h₀ L h' m → News h₀ L h' (up o' ++ tl) → Off tl news → Post r o' tl → Q r { s with heap := h', toks := tk }) :
    wpAny (model prog w) (ktrTop dp un gd cn cs L a ccd cl outer) (call (.ref f) vals) Q E s := by
  have hsp := fun o' => (U o').split
  obtain ⟨pre, post, e1, e2, hpre, hpost⟩ := hsp o
  have N1 : News h₀ L s.heap [(t, o)] := by
    intro p hp
    rw [List.mem_singleton.mp hp]
    exact N _ (by rw [e1]; exact List.mem_append.mpr (.inr (.head _)))
  have nt := N1 _ (.head _)
  obtain ⟨FG, BG, st, _⟩ := groundX (A := ktrTop dp un gd cn cs L a ccd cl outer) (env := envX cn cs L a ccd cl) (R := fun _ _ => True) B F N1 rfl rfl hk
  have hne : ∀ b ob, s.heap.get? b = some ob → b ≠ t → (hideAll s.heap ([(t, o)].map (·.1))).get? b = some ob := fun b ob hb hbt => hideAll_get _ hb (by
    intro hm; exact hbt (List.mem_singleton.mp hm))
  refine C (dp := dp) (un := un) (gd := gd) (stk := envX cn cs L a ccd cl :: outer) BG (fun b ob e => of_hideAll _ e) (Nat.le_of_eq (hideAll_size _ _)) (X.keeps st) (Top.keeps T st) nt.1 (hideAll_none _ (.head _))
    (hP _ st fun p hp hpt => hne _ _ (N p hp).1 hpt) hd hu fun r h' o' tl tk hst ht htl hpo => ?_
  have F' : Fr h₀ L h' m := FG.keeps hst
  have fresh : ∀ b, (hideAll s.heap ([(t, o)].map (·.1))).get? b = none → h₀.get? b = none := fun b hb => by
    cases q : h₀.get? b with
    | none => rfl
    | some x => rw [st b x q] at hb; cases hb
  obtain ⟨oL, es, ep, hL, hLr⟩ := FG.ns
  refine ret r h' o' tl tk F' (fun p hp => ?_) (fun q hq p hp he => ?_) hpo
  · rcases List.mem_append.mp hp with hp | hp
    · obtain ⟨pre', post', e1', e2', hpre', hpost'⟩ := hsp o'
      by_cases hpt : p.1 = t
      · have hp' : p = (t, o') := by
          rw [e2'] at hp
          rcases List.mem_append.mp hp with hp | hp
          · exact absurd hpt (hpre' _ hp)
          · rcases List.mem_cons.mp hp with hp | hp
            · exact hp
            · exact absurd hpt (hpost' _ hp)
        subst hp'
        exact ⟨ht, nt.2.1, nt.2.2⟩
      · have hin : p ∈ news := by
          rw [e2'] at hp; rw [e1']
          rcases List.mem_append.mp hp with hp | hp
          · exact List.mem_append.mpr (.inl hp)
          · rcases List.mem_cons.mp hp with hp | hp
            · exact absurd (by rw [hp]) hpt
            · exact List.mem_append.mpr (.inr (.tail _ hp))
        exact ⟨hst _ _ (hne _ _ (N p hin).1 hpt), (N p hin).2⟩
    · obtain ⟨h1, h2, h3⟩ := htl p hp
      refine ⟨h1, fun q => ?_, fresh _ h2⟩
      rw [q, hL] at h2; cases h2
  · obtain ⟨h1, h2, h3⟩ := htl p hp
    by_cases hqt : q.1 = t
    · exact h3 (he.trans hqt)
    · rw [he, hne _ _ (N q hq).1 hqt] at h2; cases h2
theorem RO.use (C : RO prog w mean mg mb need f vals P PostR)
    (B : Below A₀ base outer h₀) (F : Fr h₀ L s.heap m) (N : News h₀ L s.heap news) (X : (Mine.hd.heap_39 w.params).In h₀) (T : kTop mean mg mb h₀)
    (hP : P s.heap) (hk : cs.kind = .function) (hd : dp + need < 1000) (hu : un + 8 * need + 400 < 9900)
    (ret : ∀ r h' tk, Fr h₀ L h' m → News h₀ L h' news → s.heap.StaysIn h' → PostR r → Q r { s with heap := h', toks := tk }) :
    wpAny (model prog w) (ktrTop dp un gd cn cs L a ccd cl outer) (call (.ref f) vals) Q E s := by
  obtain ⟨_, BG, st, _⟩ := groundX (A := ktrTop dp un gd cn cs L a ccd cl outer) (env := envX cn cs L a ccd cl) (R := fun _ _ => True) B F (News.nil : News h₀ L s.heap []) rfl rfl hk
  exact C (dp := dp) (un := un) (gd := gd) (stk := envX cn cs L a ccd cl :: outer) BG (X.keeps st) (Top.keeps T st) hP hd hu fun r h' tk hst hpo =>
    ret r h' tk (F.keeps hst) (News.keepsAll N hst) hst hpo
end
theorem next_mut {prog : Program} {w : World} {mean : ExcName → Option Value} {mg mb : Str → Option Value} {t : Addr} {vs : List Value} {ns : List Int} {n : Nat} {many : Int} {tk : Tok} (hi : IntsAre vs ns) (hl : ns.length ≤ 63) (hm : 0 < many) (hmb : many ≤ 2 ^ 64) :
    Mut prog w mean mg mb 1 355 [.ref t, .int many tk] t (listOf vs.toArray n) (fun _ => True)
      (fun r o' tl => tl = [] ∧ ∃ i tk' vs' ns' n', r = .int i tk' ∧ o' = listOf (List.toArray vs') n' ∧ IntsAre vs' ns' ∧ ns'.length ≤ 63 ∧ 0 ≤ i ∧ i < many) := by
  intro dp un gd stk base g s Q E B st hsz X T ht hg _ hd hu ret
  exact next_ctr B st hsz X T ht hg hi hl hm hmb hd (by omega) fun r tk' h' vs' ns' n' tk'' h1 _ h3 h4 h5 h6 h7 => ret _ _ _ [] _ h1 h3 (fun p hp => nomatch hp) ⟨rfl, r, tk', vs', ns', n', rfl, rfl, h4, Nat.le_trans h5 hl, h6, h7⟩
end Mine
namespace Mine
section
variable {prog : Program} {w : World} {mean : ExcName → Option Value} {mg mb : Str → Option Value}
local macro_rules | `(tactic| k_room) => `(tactic| first | ((try simp only [depth_under_make, depth_under_kw, depth_in1, depth_deeper, depth_caller] at *); (simp only [recursionLimit] at *); omega))
local macro_rules | `(tactic| units_room) => `(tactic| (show _ < 9900; (simp only [units_in1, units_deeper, Around.mark_units]); omega))
local macro_rules | `(tactic| walk_at "call ref") => `(tactic| (k_here; (with_reducible show wpAny _ _ (call (Value.ref 355) _) _ _ _); (k_dflt (refine' Mut.use (next_mut ?hi ?hl ?hm ?hmb) ?k1 ?k2 ?k3 ?k4 ?k5 ?U ?P ?kk ?hd ?hu ?_; (case k1 => k_asm); (case k2 => k_asm); (case k3 => k_asm); (case k4 => k_asm); (case k5 => k_asm); (case U => (intro o9; k_upd)); (case hi => assumption); (case hl => assumption); (case hm => first | omega | decide); (case hmb => first | omega | decide); (case P => exact fun _ _ _ => trivial); (case kk => exact rfl); (case hd => ((try simp only [depth_in1, depth_deeper]); (try dsimp only [kAr, ktrTop]); omega)); (case hu => ((try simp only [units_in1, units_deeper, Around.mark_units]); (try dsimp only [kAr, ktrTop]); omega)); k_whole)); (intro r9 h9 o9 tl9 tk9 F9 N9 off9 post9); (obtain ⟨hz9, i9, tk9', vs9, ns9, n9, hz9', hz9'', hi9, hl9, h09, h19⟩ := post9); (subst hz9 hz9' hz9''); (clear off9); (simp only [List.append_nil] at N9); (try dsimp only); (try k_sweep)))
theorem number_mut {t : Addr} {vs : List Value} {ns : List Int} {n : Nat} {b : Int} {tk : Tok} (hi : IntsAre vs ns) (hl : ns.length ≤ 63) (hb : b = 32 ∨ b = 64) :
    Mut prog w mean mg mb 2 362 [.ref t, .int b tk] t (listOf vs.toArray n) (fun _ => True)
      (fun r o' tl => tl = [] ∧ ∃ i tk' vs' ns' n', r = .int i tk' ∧ o' = listOf (List.toArray vs') n' ∧ IntsAre vs' ns' ∧ ns'.length ≤ 63) := by
  intro dp un gd stk base g s Q E B st hsz X T ht hg _ hd hu ret
  have N0 : ∀ p ∈ [(t, (listOf vs.toArray n : Obj))], s.heap.get? p.1 = some p.2 ∧ g.get? p.1 = none := by
    intro p hp; rw [List.mem_singleton.mp hp]; exact ⟨ht, hg⟩
  refine wpAny_call ?_
  have hlim := Top.nolimit T
  k_dflt (refine' code_gr (binds := [(Str.ofString "tape", .ref t), (Str.ofString "bits", .int b tk)]) st hsz X hlim N0 ?k6 ?k7 ?k8 ?k9 ?kB ?_ ?c5 ?c2 ?c3 ?c4; (case k6 => k_is); (case k7 => k_is); (case k8 => (simp only [recursionLimit]; omega)); (case k9 => exact BindsTo.of_eq rfl); (case c5 => decide); (case kB => exact locs rfl); (case c2 => exact rfl); (case c3 => exact rfl); (case c4 => exact rfl); k_whole)
  clear N0 st hsz ht
  intro L' h' F' N' l1
  (try k_lt l1)
  (try dsimp only)
  rcases hb with hb | hb
  all_goals subst hb
  all_goals (try k_fold)
  all_goals k_steps
  all_goals (
    rename Fr _ _ _ _ => Fz
    rename News _ _ _ _ => Nz
    exact ret _ _ _ [] _ Fz.keep (by exact Nz.get (by k_mem)) (fun p hp => nomatch hp) (by exact ⟨rfl, _, _, _, _, _, rfl, rfl, by assumption, by assumption⟩))
end
end Mine
namespace Mine
abbrev tupO (vs : List Value) (n : Nat) : Obj := { cls := .type "tuple", data := .seq vs.toArray n }
inductive Op3 where
  | sub | add | mul
def Op3.nm : Op3 → Str
  | .sub => Str.ofString "-"
  | .add => Str.ofString "+"
  | .mul => Str.ofString "*"
inductive Tr where
  | num (z : Int)
  | cel (i : Int)
  | op (k : Op3) (x y : Tr)
inductive TreeR (G : Addr → Obj → Prop) : Value → Tr → Prop where
  | num {a : Addr} {tk tk' : Tok} {n : Nat} {z : Int} : G a (tupO [.str (Str.ofString "n") tk, .int z tk'] n) → TreeR G (.ref a) (.num z)
  | cel {a : Addr} {tk tk' : Tok} {n : Nat} {z : Int} : G a (tupO [.str (Str.ofString "c") tk, .int z tk'] n) → TreeR G (.ref a) (.cel z)
  | op {a : Addr} {tk : Tok} {n : Nat} {k : Op3} {v1 v2 : Value} {x y : Tr} : G a (tupO [.str k.nm tk, v1, v2] n) → TreeR G v1 x → TreeR G v2 y → TreeR G (.ref a) (.op k x y)
theorem TreeR.mono {G G' : Addr → Obj → Prop} {v : Value} {t : Tr} (h : TreeR G v t) (hs : ∀ a o, G a o → G' a o) : TreeR G' v t := by
  induction h with
  | num h => exact .num (hs _ _ h)
  | cel h => exact .cel (hs _ _ h)
  | op h _ _ i1 i2 => exact .op (hs _ _ h) i1 i2
abbrev inL (tl : List (Addr × Obj)) : Addr → Obj → Prop := fun a o => (a, o) ∈ tl
def TreeOk (b : Int) : Int → Tr → Prop
  | _, .num _ => True
  | _, .cel i => (b = 32 ∧ (i = 0 ∨ i = 2)) ∨ (b = 64 ∧ (i = 1 ∨ i = 3))
  | d, .op _ x y => 0 < d ∧ TreeOk b (d - 1) x ∧ TreeOk b (d - 1) y
theorem allLt_app {d : Nat} {x y : List (Addr × Obj)} : AllLt d (x ++ y) = (AllLt d x ∧ AllLt d y) := by
  induction x with
  | nil => simp [AllLt]
  | cons p r ih => simp only [List.cons_append, AllLt, ih, and_assoc]
theorem op_item {prog : Program} {w : World} {A : Around} {E : Value → Shared → Prop} {s : Shared} {value slice : PySem.Expr} {l : Addr} {t1 t2 t3 : Tok} {k : Int} {u : Tok} {Q : Value → Shared → Prop}
    (hl : s.heap.IsList l #[.str (Str.ofString "-") t1, .str (Str.ofString "+") t2, .str (Str.ofString "*") t3]) (h0 : 0 ≤ k) (h1 : k < 3) (h : ∀ (o : Op3) (tk : Tok), Q (.str o.nm tk) s)
    (hs : subscripted slice false (.ref l) (.int k u) = operate [.ref l, .int k u] (getItem (.ref l) (.int k u)) := by with_unfolding_all rfl) :
    wpAny (model prog w) A (subscriptTail value slice (.ref l) (.int k u)) Q E s := by
  have hc : k = 0 ∨ k = 1 ∨ k = 2 := by omega
  rcases hc with rfl | rfl | rfl
  · exact tail_any hl.typeIs slot_list_getitem.lookup (wpAny_getItem_list hl (by decide) (by decide) rfl (h .sub t1)) hs
  · exact tail_any hl.typeIs slot_list_getitem.lookup (wpAny_getItem_list hl (by decide) (by decide) rfl (h .add t2)) hs
  · exact tail_any hl.typeIs slot_list_getitem.lookup (wpAny_getItem_list hl (by decide) (by decide) rfl (h .mul t3)) hs
section
variable {prog : Program} {w : World} {mean : ExcName → Option Value} {mg mb : Str → Option Value}
def TreeC (prog : Program) (w : World) (mean : ExcName → Option Value) (mg mb : Str → Option Value) (b d : Int) : Prop :=
  ∀ ⦃t : Addr⦄ ⦃vs : List Value⦄ ⦃ns : List Int⦄ ⦃n : Nat⦄ ⦃x : Int⦄ ⦃tk tk2 : Tok⦄, x = d → IntsAre vs ns → ns.length ≤ 63 →
    Mut prog w mean mg mb (d.toNat + 4) 369 [.ref t, .int b tk, .int x tk2] t (listOf vs.toArray n) (fun _ => True)
      (fun r o' tl => ∃ tr vs' ns' n', o' = listOf (List.toArray vs') n' ∧ IntsAre vs' ns' ∧ ns'.length ≤ 63 ∧ TreeR (inL tl) r tr ∧ TreeOk b d tr)
theorem TreeC.at {b d : Int} (C : TreeC prog w mean mg mb b d) {t : Addr} {vs : List Value} {ns : List Int} {n : Nat} {x : Int} {tk tk2 : Tok} (hx : x = d) (hi : IntsAre vs ns) (hl : ns.length ≤ 63) :
    Mut prog w mean mg mb (d.toNat + 4) 369 [.ref t, .int b tk, .int x tk2] t (listOf vs.toArray n) (fun _ => True)
      (fun r o' tl => ∃ tr vs' ns' n', o' = listOf (List.toArray vs') n' ∧ IntsAre vs' ns' ∧ ns'.length ≤ 63 ∧ TreeR (inL tl) r tr ∧ TreeOk b d tr) := C hx hi hl
end
local macro_rules | `(tactic| k_room) => `(tactic| first | ((try simp only [depth_under_make, depth_under_kw, depth_in1, depth_deeper, depth_caller] at *); (simp only [recursionLimit] at *); omega))
local macro_rules | `(tactic| units_room) => `(tactic| (show _ < 9900; (simp only [units_in1, units_deeper, Around.mark_units]); (try dsimp only [kAr, ktrTop]); omega))
local macro_rules | `(tactic| k_lt $h) => `(tactic| (replace $h := allLt_of $h; simp only [AllLt, allLt_app, and_true] at $h:ident))
local macro_rules | `(tactic| walk_at "call ref") => `(tactic| (k_here; (with_reducible show wpAny _ _ (call (Value.ref 355) _) _ _ _); (k_dflt (refine' Mut.use (next_mut ?hi ?hl ?hm ?hmb) ?k1 ?k2 ?k3 ?k4 ?k5 ?U ?P ?kk ?hd ?hu ?_; (case k1 => k_asm); (case k2 => k_asm); (case k3 => k_asm); (case k4 => k_asm); (case k5 => k_asm); (case U => (intro o9; k_upd)); (case hi => assumption); (case hl => assumption); (case hm => first | omega | decide); (case hmb => first | omega | decide); (case P => exact fun _ _ _ => trivial); (case kk => exact rfl); (case hd => ((try simp only [depth_in1, depth_deeper]); (try dsimp only [kAr, ktrTop]); omega)); (case hu => ((try simp only [units_in1, units_deeper, Around.mark_units]); (try dsimp only [kAr, ktrTop]); omega)); k_whole)); (intro r9 h9 o9 tl9 tk9 F9 N9 off9 post9); (obtain ⟨hz9, i9, tk9', vs9, ns9, n9, hz9', hz9'', hi9, hl9, h09, h19⟩ := post9); (subst hz9 hz9' hz9''); (clear off9); (simp only [List.append_nil] at N9); (try dsimp only); (try k_sweep)))
local macro_rules | `(tactic| walk_at "call ref") => `(tactic| (k_here; (with_reducible show wpAny _ _ (call (Value.ref 362) _) _ _ _); (k_dflt (refine' Mut.use (number_mut ?hi ?hl ?hb) ?k1 ?k2 ?k3 ?k4 ?k5 ?U ?P ?kk ?hd ?hu ?_; (case k1 => k_asm); (case k2 => k_asm); (case k3 => k_asm); (case k4 => k_asm); (case k5 => k_asm); (case U => (intro o9; k_upd)); (case hi => assumption); (case hl => assumption); (case hb => assumption); (case P => exact fun _ _ _ => trivial); (case kk => exact rfl); (case hd => ((try simp only [depth_in1, depth_deeper]); (try dsimp only [kAr, ktrTop]); omega)); (case hu => ((try simp only [units_in1, units_deeper, Around.mark_units]); (try dsimp only [kAr, ktrTop]); omega)); k_whole)); (intro r9 h9 o9 tl9 tk9 F9 N9 off9 post9); (obtain ⟨hz9, i9, tk9', vs9, ns9, n9, hz9', hz9'', hi9, hl9⟩ := post9); (subst hz9 hz9' hz9''); (clear off9); (simp only [List.append_nil] at N9); (try dsimp only); (try k_sweep)))
local macro_rules | `(tactic| k_all) => `(tactic| (refine' off_at (by with_reducible assumption) ?hm; (case hm => k_mem)))
local macro_rules | `(tactic| k_all) => `(tactic| ((with_reducible refine List.forall_mem_append.mpr ?_); refine And.intro ?_ ?_ <;> k_all))
local macro_rules | `(tactic| walk_at "call ref") => `(tactic| (k_here; (with_reducible show wpAny _ _ (call (Value.ref 369) _) _ _ _); first | (exfalso; omega) | ((k_dflt (refine' Mut.use (TreeC.at ?C ?hx ?hi ?hl) ?k1 ?k2 ?k3 ?k4 ?k5 ?U ?P ?kk ?hd ?hu ?_; (case C => assumption); (case k1 => k_asm); (case k2 => k_asm); (case k3 => k_asm); (case k4 => k_asm); (case k5 => k_asm); (case U => (intro o9; k_upd)); (case hi => assumption); (case hl => assumption); (case hx => first | rfl | omega); (case P => exact fun _ _ _ => trivial); (case kk => exact rfl); (case hd => ((try simp only [depth_in1, depth_deeper]); (try dsimp only [kAr, ktrTop]); omega)); (case hu => ((try simp only [units_in1, units_deeper, Around.mark_units]); (try dsimp only [kAr, ktrTop]); omega)); k_whole)); (intro r9 h9 o9 tl9 tk9 F9 N9 off9 post9); (obtain ⟨tr9, vs9, ns9, n9, hz9, hi9, hl9, hR9, hO9⟩ := post9); (subst hz9); (simp only [List.cons_append, List.nil_append, List.append_assoc] at N9); (try dsimp only); (try k_sweep))))
local macro_rules | `(tactic| walk_at "subscriptTail") => `(tactic| (k_here; (with_reducible show wpAny _ _ (subscriptTail _ _ (Value.ref _) (Value.int _ _)) _ _ _); (k_dflt (refine' op_item ?hl ?h0 ?h1 ?_; (case hl => exact News.isList (by k_asm) (by k_mem)); (case h0 => omega); (case h1 => omega); k_whole)); (intro k9 tk9'); (try dsimp only)))
local macro_rules | `(tactic| k_ne) => `(tactic| (refine neN ?_; (try dsimp only); first
  | (refine Nat.ne_of_lt ?_; simp only [*]; done)
  | (refine Nat.ne_of_gt ?_; simp only [*]; done)
  | (refine Nat.ne_of_lt ?_; (repeat' first | exact Nat.lt_succ_self _ | refine Nat.lt_succ_of_lt ?_); done)
  | (refine Nat.ne_of_gt ?_; (repeat' first | exact Nat.lt_succ_self _ | refine Nat.lt_succ_of_lt ?_); done)
  | (simp only [*, ne_eq, not_false_eq_true]; done)
  | (refine Ne.symm ?_; simp only [*, ne_eq, not_false_eq_true]; done)
  | omega))
section
variable {prog : Program} {w : World} {mean : ExcName → Option Value} {mg mb : Str → Option Value}
theorem tree_base {b : Int} (hb : b = 32 ∨ b = 64) : TreeC prog w mean mg mb b 0 := by
  intro t vs ns n x tk tk2 hx hi hl dp un gd stk base g s Q E B st hsz X T ht hg _ hd hu ret
  have N0 : ∀ p ∈ [(t, (listOf vs.toArray n : Obj))], s.heap.get? p.1 = some p.2 ∧ g.get? p.1 = none := by
    intro p hp; rw [List.mem_singleton.mp hp]; exact ⟨ht, hg⟩
  subst hx
  refine wpAny_call ?_
  have hlim := Top.nolimit T
  k_dflt (refine' code_gr (binds := [(Str.ofString "tape", .ref t), (Str.ofString "bits", .int b tk), (Str.ofString "depth", .int 0 tk2)]) st hsz X hlim N0 ?k6 ?k7 ?k8 ?k9 ?kB ?_ ?c5 ?c2 ?c3 ?c4; (case k6 => k_is); (case k7 => k_is); (case k8 => (simp only [recursionLimit]; omega)); (case k9 => exact BindsTo.of_eq rfl); (case c5 => decide); (case kB => exact locs rfl); (case c2 => exact rfl); (case c3 => exact rfl); (case c4 => exact rfl); k_whole)
  clear N0 st hsz ht
  intro L' h' F' N' l1
  (try k_lt l1)
  (try dsimp only)
  (try k_fold)
  k_steps
  all_goals (
    rename Fr _ _ _ _ => Fz
    rename News _ _ _ _ => Nz
    exact ret _ _ _ [(_, _)] _ Fz.keep (by exact Nz.get (by k_mem)) (by intro p hp; rw [List.mem_singleton.mp hp]; exact ⟨Nz.get (.head _), Nz.fresh (.head _), by k_ne⟩) (by exact ⟨_, _, _, _, rfl, by assumption, by assumption, by first | exact .num (List.mem_singleton.mpr rfl) | exact .cel (List.mem_singleton.mpr rfl), by first | trivial | (simp only [TreeOk]; omega)⟩))
theorem tree_step {b d : Int} (hb : b = 32 ∨ b = 64) (hd0 : 0 < d) (hd4 : d ≤ 4) (IH : TreeC prog w mean mg mb b (d - 1)) : TreeC prog w mean mg mb b d := by
  intro t vs ns n x tk tk2 hx hi hl dp un gd stk base g s Q E B st hsz X T ht hg _ hd hu ret
  have N0 : ∀ p ∈ [(t, (listOf vs.toArray n : Obj))], s.heap.get? p.1 = some p.2 ∧ g.get? p.1 = none := by
    intro p hp; rw [List.mem_singleton.mp hp]; exact ⟨ht, hg⟩
  subst hx
  refine wpAny_call ?_
  have hlim := Top.nolimit T
  k_dflt (refine' code_gr (binds := [(Str.ofString "tape", .ref t), (Str.ofString "bits", .int b tk), (Str.ofString "depth", .int x tk2)]) st hsz X hlim N0 ?k6 ?k7 ?k8 ?k9 ?kB ?_ ?c5 ?c2 ?c3 ?c4; (case k6 => k_is); (case k7 => k_is); (case k8 => (simp only [recursionLimit]; omega)); (case k9 => exact BindsTo.of_eq rfl); (case c5 => decide); (case kB => exact locs rfl); (case c2 => exact rfl); (case c3 => exact rfl); (case c4 => exact rfl); k_whole)
  clear N0 st hsz ht
  intro L' h' F' N' l1
  (try k_lt l1)
  (try dsimp only)
  (try k_fold)
  k_steps
  rotate_right
  · rename_i r1 hh1 tl1 tkk1 off1 tr1 vs1 ns1 n1 hi1 hl1 hR1 hO1 hh2 l' hh3 lt1 k tk9 r2 hh4 tl2 tkk4 off2 tr2 vs2 ns2 n2 hi2 hl2 hR2 hO2 D' hh5 Fz Nz lt2
    refine ret _ _ _ ((D', tupO [.str k.nm tk9, r1, r2] 0) :: (tl1 ++ tl2)) _ Fz.keep (Nz.get (.tail _ (.tail _ (.head _)))) ?_ ?_
    · intro p hp
      rcases List.mem_cons.mp hp with rfl | hp
      · exact ⟨Nz.get (.head _), Nz.fresh (.head _), by k_ne⟩
      · have hq := Nz p (.tail _ (.tail _ (.tail _ hp)))
        refine ⟨hq.1, hq.2.2, ?_⟩
        rcases List.mem_append.mp hp with hp | hp
        · exact off_at off1 (.head _) p hp
        · exact off_at off2 (.tail _ (.head _)) p hp
    · exact ⟨.op k tr1 tr2, _, _, _, rfl, hi2, hl2, .op (.head _) (hR1.mono fun a o h => .tail _ (List.mem_append.mpr (.inl h))) (hR2.mono fun a o h => .tail _ (List.mem_append.mpr (.inr h))), hd0, hO1, hO2⟩
  all_goals (
    rename Fr _ _ _ _ => Fz
    rename News _ _ _ _ => Nz
    exact ret _ _ _ [(_, _)] _ Fz.keep (by exact Nz.get (by k_mem)) (by intro p hp; rw [List.mem_singleton.mp hp]; exact ⟨Nz.get (.head _), Nz.fresh (.head _), by k_ne⟩) (by exact ⟨_, _, _, _, rfl, by assumption, by assumption, by first | exact .num (List.mem_singleton.mpr rfl) | exact .cel (List.mem_singleton.mpr rfl), by first | trivial | (simp only [TreeOk]; omega)⟩))
theorem tree_all {b : Int} (hb : b = 32 ∨ b = 64) : ∀ n : Nat, n ≤ 4 → TreeC prog w mean mg mb b n := by
  intro n
  induction n with
  | zero => intro _; exact tree_base hb
  | succ n ih =>
    intro h
    refine tree_step hb (by omega) (by omega) ?_
    have e : ((n + 1 : Nat) : Int) - 1 = (n : Int) := by omega
    rw [e]; exact ih (by omega)
end
abbrev excO (t : Addr) : Obj := { cls := .ref 63, data := .fields #[.ref t, .none, .none, .none, .bool false, .none] }
abbrev cls63 (nm q : Str) (bs : List Value) (sn : List Str) (sub : List Value) (ab : Bool) (col : Option Bool) (dd : Option Addr) (k0 k1 k2 k3 k5 : Option Value) : Obj :=
  excClassObj nm q 63 62 bs [.ref 38, .type "Exception", .type "BaseException", .type "object"] true sn sub ab col dd k0 k1 k2 k3 k5 "Exception.__new__"
theorem cls_at {w : World} {h : Heap} (X : (Mine.hd.heap_39 w.params).In h) : ∃ nm q bs sn sub ab col dd k0 k1 k2 k3 k5, h.get? 63 = some (cls63 nm q bs sn sub ab col dd k0 k1 k2 k3 k5) := by
  have e : ∃ o, (Mine.hd.heap_39 w.params).lookup 63 = some o ∧ ∃ nm q bs sn sub ab col dd k0 k1 k2 k3 k5, o = cls63 nm q bs sn sub ab col dd k0 k1 k2 k3 k5 := by
    exact ⟨_, by k_is, _, _, _, _, _, _, _, _, _, _, _, _, _, rfl⟩
  obtain ⟨o, e1, nm, q, bs, sn, sub, ab, col, dd, k0, k1, k2, k3, k5, e2⟩ := e
  exact ⟨nm, q, bs, sn, sub, ab, col, dd, k0, k1, k2, k3, k5, by rw [X _ _ e1, e2]⟩
section
variable {M : Model} {A : Around} {E : Value → Shared → Prop} {h : Heap} {g : Array GenState} {d : Drawn} {t : Nat} {os : OsState}
variable {nm q : Str} {bs : List Value} {sn : List Str} {sub : List Value} {ab : Bool} {col : Option Bool} {dd : Option Addr} {k0 k1 k2 k3 k5 : Option Value}
theorem check_new63 {rest : List Value} {Q : Unit → Shared → Prop} (hC : h.get? 63 = some (cls63 nm q bs sn sub ab col dd k0 k1 k2 k3 k5))
    (hq : Q () ⟨h, g, d, t, os⟩) : wpAny M A (checkBuiltinCall "Exception.__new__" ⟨.ref 63 :: rest, []⟩) Q E ⟨h, g, d, t, os⟩ := by
  have F := PySem.F.excBase_Exception
  have hcont : (Value.ref 63 :: [Value.ref 38, Value.type "Exception", Value.type "BaseException", Value.type "object"]).contains (.type "Exception") = true := by decide +kernel
  have hstar := F.noStar
  simp only [checkBuiltinCall, F.newKind, F.newSplit, F.newRow]
  repeat (first | refine wpAny_loadPart_at hC ?_ | (refine wpAny_isSubtype_exc hC ?_; rw [hcont]) | refine wpAny_staticBase_exc hC ?_ | refine wpAny_madeBy_exc hC ?_ | simp only [bne_self_eq_false, Bool.false_eq_true, if_false] | wp_step)
  exact hq
end
section
variable {prog : Program} {w : World} {A : Around} {E : Value → Shared → Prop} {R : Result → Shared → Prop} {h : Heap} {g : Array GenState} {d : Drawn} {t : Nat} {os : OsState}
variable {nm q : Str} {bs : List Value} {sn : List Str} {sub : List Value} {ab : Bool} {col : Option Bool} {dd : Option Addr} {k0 k1 k2 k3 k5 : Option Value}
theorem new63 {rest : List Value} (hC : h.get? 63 = some (cls63 nm q bs sn sub ab col dd k0 k1 k2 k3 k5))
    (hq : R (.ok (.ret (.ref (h.objs.size + 1)))) ⟨(h.push { cls := .type "tuple", data := .seq rest.toArray }).push (excO h.objs.size), g, d, t, os⟩) (hrest : rest.length ≤ sizeLine) :
    codeAny (model prog w) A (.builtin "Exception.__new__" ⟨.ref 63 :: rest, []⟩) R ⟨h, g, d, t, os⟩ := by
  have F := PySem.F.excBase_Exception
  have hends := F.ends
  have hcB : (Value.ref 63 :: [Value.ref 38, Value.type "Exception", Value.type "BaseException", Value.type "object"]).contains (.type "Exception") = true := by decide +kernel
  have hcA : (Value.ref 63 :: [Value.ref 38, Value.type "Exception", Value.type "BaseException", Value.type "object"]).contains (.type "AttributeError") = false := by decide +kernel
  have hcN : (Value.ref 63 :: [Value.ref 38, Value.type "Exception", Value.type "BaseException", Value.type "object"]).contains (.type "NameError") = false := by decide +kernel
  refine codeAny_builtinAt F.entry ?_
  unfold Builtin.«BaseException.__new__»
  refine PySem.wpAt_bind ?_
  show PySem.wpAt _ _ _ (stack >>= _) _ _ _
  refine PySem.wpAt_bind (PySem.wpAt_stack fun p below => PySem.wpAt_of_wpAny ?_)
  wp_walk
  refine PySem.wpAt_of_wpAny ?_
  rw [F.owner]
  repeat (first | with_reducible refine wpAny_madeHere_exc F.canon hC ?_ | with_reducible refine wpAny_loadPart_at hC ?_ | (with_reducible refine wpAny_isSubtype_exc hC ?_; first | rw [hcB] | rw [hcA] | rw [hcN]) | wp_step)
  show R _ _
  rw [Heap.size_push]
  exact hq
theorem make63 {rest : List Value} {Q : Fin → Shared → Prop} (X : (Mine.hd.heap_39 w.params).In h) (hC : h.get? 63 = some (cls63 nm q bs sn sub ab col dd k0 k1 k2 k3 k5))
    (hq : wpAny (model prog w) A (call (.ref 35) (.ref (h.objs.size + 1) :: rest)) (fun r s' => r = .none ∧ Q (.done (.ret (.ref (h.objs.size + 1)))) s') E ⟨(h.push { cls := .type "tuple", data := .seq rest.toArray }).push (excO h.objs.size), g, d, t, os⟩) (hrest : rest.length ≤ sizeLine) :
    wpAny (model prog w) A (Builtin.«type.__call__» ⟨.ref 63 :: rest, []⟩) Q E ⟨h, g, d, t, os⟩ := by
  have F := PySem.F.excBase_Exception
  repeat (first | with_reducible refine wpAny_loadPart_at hC ?_ | with_reducible refine wpAny_madeBy_exc hC ?_ | wp_step)
  refine codeAny_call_builtin_code (Code.quiet_builtin _ F.quiet) (check_new63 hC ?_)
  refine new63 hC ?_ hrest
  show wpAny _ _ _ _ _ _
  have kk : ∀ b o, h.get? b = some o → ((h.push { cls := .type "tuple", data := .seq rest.toArray }).push (excO h.objs.size)).get? b = some o := fun b o e => Heap.get?_push_of_some _ (Heap.get?_push_of_some _ e)
  have hC₁ := kk _ _ hC
  have X₁ := X.keeps kk
  have hget : ((h.push { cls := .type "tuple", data := .seq rest.toArray }).push (excO h.objs.size)).get? (h.objs.size + 1) = some (excO h.objs.size) := by heap_get
  have hcC : (Value.ref 63 :: [Value.ref 38, Value.type "Exception", Value.type "BaseException", Value.type "object"]).contains (.ref 63) = true := by decide +kernel
  unfold isInstance
  repeat (first | with_reducible refine wpAny_loadPart_at hget ?_ | (with_reducible refine wpAny_isSubtype_exc hC₁ ?_; rw [hcC]) | wp_step)
  show wpAny _ _ (typeLookup (.ref 63) _) _ _ _
  refine (looks_findIn (r := some (.ref 35)) X₁ ?_).here ?_
  · k_is
  refine wpAny_holding (wpAny_bind ?_)
  refine (bind_fn X₁ _ ?_).here ?_
  · k_is
  refine wpAny_bind (wpAny_mono hq (fun r s' hr => ?_) fun _ _ x => x)
  obtain ⟨rfl, hQ⟩ := hr
  wp_walk
  exact hQ
theorem call63 {rest : List Value} {Q : Value → Shared → Prop} (X : (Mine.hd.heap_39 w.params).In h)
    (hq : wpAny (model prog w) (A.under (.builtin "type.__call__" ⟨.ref 63 :: rest, []⟩)) (call (.ref 35) (.ref (h.objs.size + 1) :: rest)) (fun r s' => r = .none ∧ Q (.ref (h.objs.size + 1)) s') E ⟨(h.push { cls := .type "tuple", data := .seq rest.toArray }).push (excO h.objs.size), g, d, t, os⟩) (hrest : rest.length ≤ sizeLine) :
    wpAny (model prog w) A (call (.ref 63) rest) Q E ⟨h, g, d, t, os⟩ := by
  obtain ⟨nm, q, bs, sn, sub, ab, col, dd, k0, k1, k2, k3, k5, hC⟩ := cls_at X
  have f1 := tc_lookup
  have f2 := tc_bind (.ref 63)
  have hT : (⟨h, g, d, t, os⟩ : Shared).TypeIs (.ref 63) "type" := ⟨_, hC, rfl⟩
  refine wpAny_call (codeAny_of_tree ?_)
  show wpAny _ _ (callAny (.ref 63) _) _ _ _
  repeat (any_goals (first | assumption | with_reducible refine wpAny_loadPart_at hC ?_ | wp_step))
  refine ⟨rfl, ?_⟩
  refine codeAny_call_builtin_at (Code.quiet_builtin _ (by decide +kernel)) entry_typeCall (wpAny_check_type_call_sub hC (make63 (hrest := hrest) X hC ?_))
  exact hq
end
abbrev tupO0 (vs : List Value) : Obj := { cls := .type "tuple", data := .seq vs.toArray }
section
variable {prog : Program} {w : World} {mean : ExcName → Option Value} {mg mb : Str → Option Value}
theorem meta_Exception : typeOf (.type "Exception") = pure (.type "type") := by kernel_rfl
local macro_rules | `(tactic| walk_at "getMethod type:Exception") => `(tactic| (k_here; refine' method_type ?F ?X meta_Exception (by decide +kernel) ?e ?h ?_; (case F => k_asm); (case X => k_asm); (case e => k_dflt k_is); (case h => k_handed)))
theorem init_exc63 {A : Around} {h : Heap} {g : Array GenState} {d : Drawn} {tk : Nat} {os : OsState} {e t : Addr} {v : Value} {Q E : Value → Shared → Prop} (X : (Mine.hd.heap_39 w.params).In h) (he : h.get? e = some (excO t))
    (hq : Q .none ⟨(h.push (tupO0 [v])).update e (Obj.mapFields (·.setIfInBounds 0 (.ref h.objs.size))), g, d, tk, os⟩) :
    wpAny (model prog w) A (call (.builtin "Exception.__init__") [.ref e, v]) Q E ⟨h, g, d, tk, os⟩ := by
  have F := PySem.F.excBase_Exception
  obtain ⟨nm, q, bs, sn, sub, ab, col, dd, k0, k1, k2, k3, k5, hC⟩ := cls_at X
  refine wpAny_call (codeAny_call_builtin F.init.plain F.initEntry ?_)
  have hcB : (Value.ref 63 :: [Value.ref 38, Value.type "Exception", Value.type "BaseException", Value.type "object"]).contains (.type "Exception") = true := by decide +kernel
  have hshort := F.noStar
  simp only [checkBuiltinCall, F.initKind, F.initSplit, F.initRow]
  repeat (first | with_reducible refine wpAny_loadPart_at he ?_ | with_reducible refine wpAny_loadPart_at hC ?_ | (with_reducible refine wpAny_isSubtype_exc hC ?_; rw [hcB]) | wp_step)
  exact hq
theorem init_exc63K {A : Around} {h₀ : Heap} {L : Addr} {m : Str → Option Value} {s : Shared} {e t : Addr} {v : Value} {Q E : Value → Shared → Prop} (F : Fr h₀ L s.heap m) (N : News h₀ L s.heap [(e, excO t)]) (X : (Mine.hd.heap_39 w.params).In h₀)
    (hq : ∀ t' h', Fr h₀ L h' m → News h₀ L h' [(e, excO t')] → Q .none { s with heap := h' }) :
    wpAny (model prog w) A (call (.builtin "Exception.__init__") [.ref e, v]) Q E s := by
  obtain ⟨h, g, d, tk, os⟩ := s
  have z := N _ (.head _)
  refine init_exc63 (X.keeps F.keep) z.1 (hq h.objs.size _ ?_ ?_)
  · exact (F.push _).change (Heap.SameBut.update ..) z.2.1 z.2.2
  · intro p hp
    rw [List.mem_singleton.mp hp]
    refine ⟨?_, z.2⟩
    exact Heap.get?_update_self _ (Heap.get?_push_of_some _ z.1) rfl
local macro_rules | `(tactic| walk_at "call builtin:Exception.__init__") => `(tactic| (k_here; k_dflt (refine' init_exc63K ?F ?N ?X ?_; (case F => k_asm); (case N => k_asm); (case X => k_asm); k_whole); (intro t9 h9 F9 N9); (try k_sweep)))
theorem store63 {A : Around} {h : Heap} {g : Array GenState} {d : Drawn} {tk : Nat} {os : OsState} {e t : Addr} {v : Value} {Q : Unit → Shared → Prop} {E : Value → Shared → Prop} (X : (Mine.hd.heap_39 w.params).In h) (he : h.get? e = some (excO t))
    (hq : ∀ h' tk' dx, (∀ b o, b ≠ e → h.get? b = some o → h'.get? b = some o) → h'.get? e = some { cls := .ref 63, dict := some dx, data := .fields #[.ref t, .none, .none, .none, .bool false, .none] } → Q () ⟨h', g, d, tk', os⟩) :
    wpAny (model prog w) A (setAttr (.ref e) (Str.ofString "why") v) Q E ⟨h, g, d, tk, os⟩ := by
  obtain ⟨nm, q, bs, sn, sub, ab, col, dd, k0, k1, k2, k3, k5, hC⟩ := cls_at X
  have I : InstAt h e (excO t) 63 none := ⟨he, rfl, rfl, trivial⟩
  have SF := PySem.F.store_object
  refine set_plain (s := ⟨h, g, d, tk, os⟩) X I (by k_is) ?_
  have sub : Looks (model prog w) h (isInstance (.ref e) (.type "object")) true := I.type.andThen (looks_subIn X (by k_is))
  refine codeAny_call_builtin SF.slot.plain SF.entry (@check_slot (model prog w) _ _ _ "object.__setattr__" "object" "__setattr__" (.ref e) [.str (Str.ofString "why") tk, v] [] _ SF.kind SF.split sub (SF.args (.ref e) (.str (Str.ofString "why") tk) v) ?_)
  have hT : Looks (model prog w) h (typeLookup (.ref 63) (Str.ofString "why")) none := looks_findIn X (by k_is)
  rw [osa_eq, refuse_eq]
  refine wpAny_bind (wpAny_bind (I.type.here (wpAny_bind (wpAny_mroOf_exc hC ?_))))
  rw [refuseLoop_ref, refuseLoop_ref, PySem.F.store_Exception.passes]
  refine wpAny_pure (wpAny_bind (I.type.here (wpAny_bind (hT.here (wpAny_bind (wpAny_pure ?_))))))
  obtain ⟨o, hx, hc, hdn, hnc, ho⟩ : ∃ o, h.get? e = some o ∧ o.cls = .ref 63 ∧ o.dict = none ∧ (∀ c, o.data ≠ .cls c) ∧ o = excO t := ⟨_, he, rfl, rfl, nofun, rfl⟩
  show wpAny _ _ (Builtin.ObjectAttr.storeInOwnDict _ _ _ _ _ _) _ _ _
  repeat (first | (with_reducible refine wpAny_loadPart_at hx ?_; rw [hc]) | with_reducible refine wpAny_loadPart_at hC ?_ | wp_step)
  rw [hdn, if_neg (by simp [typeHasDict])]
  split
  · rename_i hcd
    cases hcd
  split
  · rename_i c hcd
    exact absurd hcd (hnc c)
  · have hx₁ : (h.push { cls := .type "dict", data := .dict #[] }).get? e = some o := Heap.get?_push_of_some _ hx
    have hxs : e ≠ h.objs.size := Nat.ne_of_lt (Heap.lt_size hx)
    refine wpAny_bind (wpAny_alloc' ?_)
    refine wpAny_bind (wpAny_update' hx₁ ?_)
    refine wpAny_pure ?_
    have hgd : ((h.push { cls := .type "dict", data := .dict #[] }).update e fun o => { cls := o.cls, dict := some h.objs.size, data := o.data, slots := o.slots }).get? h.objs.size
        = some { cls := .type "dict", data := .dict #[] } :=
      (Heap.get?_update_ne _ _ _ _ hxs.symm).trans (Heap.get?_push_at rfl rfl)
    have hnd : ((h.push { cls := .type "dict", data := .dict #[] }).update e fun o => { cls := o.cls, dict := some h.objs.size, data := o.data, slots := o.slots }).Ns h.objs.size (fun _ => none) :=
      ⟨_, #[], _, hgd, rfl, fun e he => absurd he (by simp), fun _ => rfl⟩
    show wpAny _ _ (Builtin.ObjectAttr.storeInDict h.objs.size (.str (Str.ofString "why") tk) (Str.ofString "why") v) _ _ _
    unfold Builtin.ObjectAttr.storeInDict Builtin.ObjectAttr.newKeyGuard
    refine wpAny_bind (wpAny_pure (wpAny_bind (wpAny_nsSet1 (Heap.Ns1.of_empty hnd) fun h' hn' hs => ?_)))
    obtain ⟨oD, esD, epD, hoD, hdD, hcD⟩ := hn'.count (Within.cons (Str.ofString "why") v Within.nil)
    refine wpAny_bind (wpAny_lookBehind hoD (by rw [hdD]; exact pastItsLine_dict (Nat.le_trans hcD (by rw [List.length_cons, List.length_nil, sizeLine_eq]; omega))) ?_)
    refine wpAny_pure ?_
    refine hq h' _ h.objs.size (fun b ob hbx hb => ?_) ?_
    · exact (hs.2 b (Nat.ne_of_lt (Heap.lt_size hb))).trans ((Heap.get?_update_ne _ _ _ _ hbx).trans (Heap.get?_push_of_some _ hb))
    · refine (hs.2 e hxs).trans ((Heap.get?_update_self _ hx₁ ?_).trans ?_)
      · subst ho; rfl
      · subst ho; rfl
theorem store63K {A : Around} {h₀ : Heap} {L : Addr} {m : Str → Option Value} {s : Shared} {e t : Addr} {v : Value} {Q : Unit → Shared → Prop} {E : Value → Shared → Prop} (F : Fr h₀ L s.heap m) (N : News h₀ L s.heap [(e, excO t)]) (X : (Mine.hd.heap_39 w.params).In h₀)
    (hq : ∀ h' tk dx, Fr h₀ L h' m → News h₀ L h' [(e, { cls := .ref 63, dict := some dx, data := .fields #[.ref t, .none, .none, .none, .bool false, .none] })] → Q () { s with heap := h', toks := tk }) :
    wpAny (model prog w) A (setAttr (.ref e) (Str.ofString "why") v) Q E s := by
  obtain ⟨h, g, d, tk, os⟩ := s
  have z := N _ (.head _)
  refine store63 (X.keeps F.keep) z.1 fun h' tk' dx hk he' => hq h' tk' dx ?_ ?_
  · obtain ⟨oL, a1, a2, hoL, a3⟩ := F.ns
    refine ⟨⟨oL, a1, a2, hk L oL z.2.1.symm hoL, a3⟩, fun b x eb => hk b x ?_ (F.keep b x eb), F.above⟩
    rintro rfl
    have := z.2.2
    rw [eb] at this; cases this
  · intro p hp
    rw [List.mem_singleton.mp hp]
    exact ⟨he', z.2⟩
local macro_rules | `(tactic| walk_at "setAttr ref") => `(tactic| (k_here; k_dflt (refine' store63K ?F ?N ?X ?_; (case F => k_asm); (case N => k_asm); (case X => k_asm); k_whole); (intro h9 tk9 dx9 F9 N9); (try k_sweep)))
theorem init35 {A : Around} {h : Heap} {s : Shared} {e t : Addr} {x : Str} {tk1 : Tok} {Q E : Value → Shared → Prop} (st : h.StaysIn s.heap) (hsz : h.objs.size ≤ s.heap.objs.size) (X : (Mine.hd.heap_39 w.params).In h) (T : kTop mean mg mb h)
    (he : s.heap.get? e = some (excO t)) (hn : h.get? e = none) (hroom : A.depth < 1000)
    (ret : ∀ h' tk dx t', h.StaysIn h' → h'.get? e = some { cls := .ref 63, dict := some dx, data := .fields #[.ref t', .none, .none, .none, .bool false, .none] } → Q .none { s with heap := h', toks := tk }) :
    wpAny (model prog w) A (call (.ref 35) [.ref e, .str x tk1]) Q E s := by
  have N0 : ∀ p ∈ [(e, excO t)], s.heap.get? p.1 = some p.2 ∧ h.get? p.1 = none := by
    intro p hp; rw [List.mem_singleton.mp hp]; exact ⟨he, hn⟩
  refine wpAny_call ?_
  have hlim := Top.nolimit T
  k_dflt (refine' code_gr (binds := [(Str.ofString "self", .ref e), (Str.ofString "why", .str x tk1)]) st hsz X hlim N0 ?k6 ?k7 ?k8 ?k9 ?kB ?_ ?c5 ?c2 ?c3 ?c4; (case k6 => k_is); (case k7 => k_is); (case k8 => (simp only [recursionLimit]; omega)); (case k9 => exact BindsTo.of_eq rfl); (case c5 => decide); (case kB => exact locs rfl); (case c2 => exact rfl); (case c3 => exact rfl); (case c4 => exact rfl); k_whole)
  clear N0 st hsz
  intro L' h' F' N' l1
  (try k_lt l1)
  (try dsimp only)
  (try k_fold)
  k_steps
  rename Fr _ _ _ _ => Fz
  rename News _ _ _ _ => Nz
  exact ret _ _ _ _ Fz.keep (Nz.get (.head _))
end
abbrev excD (t dx : Addr) : Obj := { cls := .ref 63, dict := some dx, data := .fields #[.ref t, .none, .none, .none, .bool false, .none] }
section
variable {M : Model} {prog : Program} {w : World} {mean : ExcName → Option Value} {mg mb : Str → Option Value}
theorem raiseStmt63 {A : Around} {env : Env} {x : Sem Value} {s : Shared} {Q : Flow → Shared → Prop} {E : Value → Shared → Prop} (hh : A.handled = none)
    (h : wpAny M A x (fun v s₁ => ∃ e t dx, v = .ref e ∧ (Mine.hd.heap_39 w.params).In s₁.heap ∧ s₁.heap.get? e = some (excD t dx) ∧ E (.ref e) s₁) E s) :
    wpAny M A (raiseStmt env (some x) none) Q E s := by
  unfold raiseStmt
  refine wpAny_bind (wpAny_mono h (fun v s₁ h₁ => ?_) fun _ _ x => x)
  obtain ⟨e, t, dx, rfl, X, he, hE⟩ := h₁
  obtain ⟨nm, q, bs, sn, sub, ab, col, dd, k0, k1, k2, k3, k5, hC⟩ := cls_at X
  have hcB : (Value.ref 63 :: [Value.ref 38, Value.type "Exception", Value.type "BaseException", Value.type "object"]).contains (.type "BaseException") = true := by decide +kernel
  obtain ⟨hp, g, d, tk, os⟩ := s₁
  repeat (first | with_reducible refine wpAny_loadPart_at he ?_ | with_reducible refine wpAny_loadPart_at hC ?_ | (with_reducible refine wpAny_isSubtype_exc hC ?_; rw [hcB]) | wp_step)
  exact wpAny_raiseNew_none hh hE
theorem raise63 {A : Around} {env : Env} {x : PySem.Expr} {pos : Pos} {s : Shared} {h₀ : Heap} {Q : Flow → Shared → Prop} {E : Value → Shared → Prop} (_X : (Mine.hd.heap_39 w.params).In h₀) (hh : A.handled = none)
    (h : wpAny M A (eval x env) (fun v s₁ => ∃ e t dx, v = .ref e ∧ (Mine.hd.heap_39 w.params).In s₁.heap ∧ s₁.heap.get? e = some (excD t dx) ∧ E (.ref e) s₁) E s) :
    wpAny M A (exec (.Raise (some x) none pos) env) Q E s := by
  rw [arm_exec_Raise]
  refine wpAny_bind (wpAny_standAt (raiseStmt63 (w := w) hh (wpAny_bind (wpAny_mono h (fun v s₃ h₃ => wpAny_bind (wpAny_standAt (wpAny_pure h₃))) fun _ _ x => x))))
theorem misused_call {A : Around} {s : Shared} {x : Str} {tk1 : Tok} {Q E : Value → Shared → Prop} (X : (Mine.hd.heap_39 w.params).In s.heap) (T : kTop mean mg mb s.heap) (hroom : (A.under (.builtin "type.__call__" ⟨[.ref 63, .str x tk1], []⟩)).depth < 1000)
    (hq : ∀ h' tk e t dx, s.heap.StaysIn h' → s.heap.get? e = none → h'.get? e = some (excD t dx) → Q (.ref e) { s with heap := h', toks := tk }) :
    wpAny (model prog w) A (call (.ref 63) [.str x tk1]) Q E s := by
  obtain ⟨h, g, d, tk, os⟩ := s
  refine call63 X ?_ (by size_fits)
  have kk : ∀ b o, h.get? b = some o → ((h.push { cls := .type "tuple", data := .seq [Value.str x tk1].toArray }).push (excO h.objs.size)).get? b = some o := fun b o e => Heap.get?_push_of_some _ (Heap.get?_push_of_some _ e)
  refine init35 (h := h) (t := h.objs.size) kk (by simp only [Heap.size_push]; omega) X T ?_ (Heap.get?_none_of_le (Nat.le_succ _)) hroom fun h' tk dx t' st he => ?_
  · heap_get
  · exact ⟨rfl, hq h' tk _ t' dx st (Heap.get?_none_of_le (Nat.le_succ _)) he⟩
end
theorem bitAnd_64 (x : Int) : Builtin.bitAnd x 18446744073709551615 = x % 18446744073709551616 := by
  unfold Builtin.bitAnd
  cases h : decide (0 ≤ x) with
  | true =>
    have h1 : 0 ≤ x := of_decide_eq_true h
    obtain ⟨n, rfl⟩ := Int.eq_ofNat_of_zero_le h1
    show (((n &&& (2 ^ 64 - 1) : Nat)) : Int) = _
    rw [Nat.and_two_pow_sub_one_eq_mod]
    rfl
  | false =>
    have h1 : x < 0 := by have := of_decide_eq_false h; omega
    obtain ⟨n, rfl⟩ : ∃ n : Nat, x = Int.negSucc n := by cases x with | ofNat m => exact absurd h1 (by simp) | negSucc m => exact ⟨m, rfl⟩
    have e : Builtin.bitNot (Int.negSucc n) = (n : Int) := by unfold Builtin.bitNot; omega
    show (18446744073709551615 : Int) - (((2 ^ 64 - 1 : Nat) &&& (Builtin.bitNot (Int.negSucc n)).toNat : Nat) : Int) = _
    rw [e, Int.toNat_natCast, Nat.and_comm, Nat.and_two_pow_sub_one_eq_mod]
    omega
def Thrown (base g : Heap) (stk : List Env) (e : Addr) (h : Heap) : Prop :=
  ∃ B a0, base.StaysIn B ∧ (∀ b o, g.get? b = some o → b ∉ stk.filterMap (·.frame) → B.get? b = some o) ∧ Heap.FlyingW B stk e (.ref 63) a0 h ∧ g.UpToSlots h
section
variable {M : Model} {A : Around} {E : Value → Shared → Prop} {s' : Shared} {base g h : Heap} {stk : List Env} {L a e t dx : Addr} {m : Str → Option Value} {name : Str} {scope : Scope} {cd : Value} {Q : Unit → Shared → Prop}
theorem thrown_first (K : Below A base stk g) (F : Fr g L h m) (st : h.StaysIn s'.heap) (hn : h.get? e = none) (he : s'.heap.get? e = some (excD t dx))
    (hQ : ∀ h', Thrown base g stk e h' → Q () { s' with heap := h' }) (hk : scope.kind = .function := by rfl) :
    wpAny M (A.deeper (envOf name scope L a cd)) (leaving (envOf name scope L a cd) (.ref e)) Q E s' := by
  have K' := K.push (name := name) (a := a) (cd := cd) F hk
  have hin : ∀ env ∈ (envOf name scope L a cd :: stk), ∀ b, env.frame = some b → b ∈ (envOf name scope L a cd :: stk).filterMap (·.frame) := fun env he b hb => List.mem_filterMap.mpr ⟨env, he, hb⟩
  have hf : h.FunFrames (hideAll h ((envOf name scope L a cd :: stk).filterMap (·.frame))) (envOf name scope L a cd :: stk) := funFrames_hide K'.frames hin
  have hf' : s'.heap.FunFrames (hideAll h ((envOf name scope L a cd :: stk).filterMap (·.frame))) (envOf name scope L a cd :: stk) := hf.of_keeps fun b o hb _ => ⟨o, st b o hb, rfl⟩
  have hnL : g.get? L = none := by
    cases q : g.get? L with
    | none => rfl
    | some o => exact absurd (Nat.lt_of_lt_of_le (Heap.lt_size q) F.above) (Nat.lt_irrefl _)
  refine wpAny_leaving_firstW (oe := excD t dx) (a0 := .ref t) K'.stack hf' rfl he (fun b o q => st b o (of_hideAll _ q)) ?_ rfl rfl rfl fun h' hL => hQ h' ⟨_, _, ?_, fun b o hb hbs => hideAll_get _ (F.keep b o hb) ?_, ⟨hL.1, ?_, ?_, hL.2.2.1⟩, ?_⟩
  · cases q : (hideAll h ((envOf name scope L a cd :: stk).filterMap (·.frame))).get? e with
    | none => rfl
    | some o => have := of_hideAll _ q; rw [hn] at this; cases this
  · intro b o q
    refine hideAll_get _ (K'.stays b o q) fun hm => ?_
    rw [(K'.frames.mem hm).1] at q; cases q
  · intro hm
    rw [List.filterMap_cons] at hm
    rcases List.mem_cons.mp hm with q | hm
    · rw [q] at hb
      have : g.get? L = some o := hb
      rw [hnL] at this; cases this
    · exact hbs hm
  · cases q : (hideAll h ((envOf name scope L a cd :: stk).filterMap (·.frame))).get? e with
    | none => rfl
    | some o => have := of_hideAll _ q; rw [hn] at this; cases this
  · obtain ⟨_, _, k2⟩ := hL.2.1
    exact k2
  · exact ((Heap.UpToSlots.of_keeps F.keep).trans (Heap.UpToSlots.of_keeps st)).trans hL.2.2.2
theorem thrown_next (K : Below A base stk g) {g' : Heap} (hg : g.StaysIn g') (hnL : g.get? L = none) (R : Thrown base g' (envOf name scope L a cd :: stk) e s'.heap)
    (hQ : ∀ h', Thrown base g stk e h' → Q () { s' with heap := h' }) :
    wpAny M (A.deeper (envOf name scope L a cd)) (leaving (envOf name scope L a cd) (.ref e)) Q E s' := by
  obtain ⟨B, a0, hb0, hB, hfl, hup⟩ := R
  refine wpAny_leaves_onW (Around.frames_deeper K.stack) rfl hfl fun h' x1 x2 => hQ h' ⟨B, a0, hb0, fun b o hb hbs => hB b o (hg b o hb) fun hm => ?_, x1, ((Heap.UpToSlots.of_keeps hg).trans hup).trans x2⟩
  rw [List.filterMap_cons] at hm
  rcases List.mem_cons.mp hm with q | hm
  · rw [q] at hb
    have : g.get? L = some o := hb
    rw [hnL] at this; cases this
  · exact hbs hm
end
def RX (prog : Program) (w : World) (mean : ExcName → Option Value) (mg mb : Str → Option Value) (need : Nat) (f : Addr) (vals : List Value) (P : Heap → Prop) (Post : Value → Prop) (may : Prop) : Prop :=
  ∀ ⦃dp un : Nat⦄ ⦃gd : Option (List Code)⦄ ⦃stk : List Env⦄ ⦃base : Heap⦄ ⦃s : Shared⦄ ⦃Q E : Value → Shared → Prop⦄,
    Below (kAr dp un gd stk) base stk s.heap → (Mine.hd.heap_39 w.params).In s.heap → kTop mean mg mb s.heap → P s.heap →
    dp + need < 1000 → un + 8 * need + 400 < 9900 →
    (∀ r h' tk, s.heap.StaysIn h' → Post r → Q r { s with heap := h', toks := tk }) →
    (∀ e h' tk, may → Thrown base s.heap stk e h' → E (.ref e) { s with heap := h', toks := tk }) →
    wpAny (model prog w) (kAr dp un gd stk) (call (.ref f) vals) Q E s
structure Ins where
  c : Int
  x : Option Int
def insO (i : Ins) (tk tk' : Tok) (n : Nat) : Obj := match i.x with
  | none => tupO [.int i.c tk] n
  | some z => tupO [.int i.c tk, .int z tk'] n
def InsR (G : Addr → Obj → Prop) (v : Value) (i : Ins) : Prop := ∃ a tk tk' n, v = .ref a ∧ G a (insO i tk tk' n)
abbrev inH (h : Heap) : Addr → Obj → Prop := fun a o => h.get? a = some o
def LeafBad (i : Ins) : Prop := i.c ≠ 65 ∧ i.c ≠ 66 ∧ i.c ≠ 35 ∧ i.c ≠ 210 ∧ i.c ≠ 208
section
variable {prog : Program} {w : World} {mean : ExcName → Option Value} {mg mb : Str → Option Value}
local macro_rules | `(tactic| walk_at "exec Raise some none") => `(tactic| (k_here; k_dflt (refine' raise63 ?hX ?hh ?_; (case hX => k_asm); (case hh => rfl))))
theorem dec_neg {p : Prop} [Decidable p] (h : ¬ p) : ¬ (decide p = true) := by simpa using h
theorem dec_pos {p : Prop} [Decidable p] (h : p) : decide p = true := by simpa using h
local macro_rules | `(tactic| walk_at "ite") => `(tactic| (k_here; first | refine ite_neg (dec_neg (by with_reducible assumption)) ?_ | refine ite_neg (by with_reducible assumption) ?_ | refine ite_pos (dec_pos (by with_reducible assumption)) ?_ | refine ite_pos (by with_reducible assumption) ?_))
theorem leaf_bad1 {a cl fl : Addr} {c : Int} {tk : Tok} {n : Nat} (hb : c ≠ 65 ∧ c ≠ 66 ∧ c ≠ 35 ∧ c ≠ 210 ∧ c ≠ 208) :
    RX prog w mean mg mb 5 292 [.ref a, .ref cl, .ref fl] (fun h => IsTup h a #[.int c tk]) (fun _ => False) True := by
  intro dp un gd stk base s Q E B X T hP hd hu _ hE
  obtain ⟨b1, b2, b3, b4, b5⟩ := hb
  have st : s.heap.StaysIn s.heap := fun _ _ e => e
  have hsz : s.heap.objs.size ≤ s.heap.objs.size := Nat.le_refl _
  have N0 : ∀ p ∈ ([] : List (Addr × Obj)), s.heap.get? p.1 = some p.2 ∧ s.heap.get? p.1 = none := fun _ hp => nomatch hp
  refine wpAny_call ?_
  have hlim := Top.nolimit T
  k_dflt (refine' code_gr (binds := [(Str.ofString "instruction", .ref a), (Str.ofString "cells", .ref cl), (Str.ofString "funcs", .ref fl)]) st hsz X hlim N0 ?k6 ?k7 ?k8 ?k9 ?kB ?_ ?c5 ?c2 ?c3 ?c4; (case k6 => k_is); (case k7 => k_is); (case k8 => (simp only [recursionLimit]; omega)); (case k9 => exact BindsTo.of_eq rfl); (case c5 => decide); (case kB => exact locs rfl); (case c2 => exact rfl); (case c3 => exact rfl); (case c4 => exact rfl); k_whole)
  clear N0 st hsz
  intro L' h' F' N' l1
  (try dsimp only)
  (try k_fold)
  k_steps
  rename Fr _ _ _ _ => Fz
  refine misused_call (mean := mean) (mg := mg) (mb := mb) (s := Shared.mk _ _ _ _ _) ?_ ?_ ?_ ?_
  · exact X.keeps Fz.keep
  · exact Top.keeps T Fz.keep
  · (simp only [depth_under_make, depth_deeper]; (try dsimp only [kAr]); omega)
  intro h9 tk9 e9 t9 dx9 st9 hn9 he9
  refine ⟨e9, t9, dx9, rfl, (X.keeps Fz.keep).keeps st9, he9, ?_⟩
  show wpAny _ _ _ _ _ _
  exact thrown_first B Fz st9 hn9 he9 fun h' Th => hE _ _ _ trivial Th
theorem leaf_bad2 {a cl fl : Addr} {c z : Int} {tk tk' : Tok} (hb : c ≠ 65 ∧ c ≠ 66 ∧ c ≠ 35 ∧ c ≠ 210 ∧ c ≠ 208) :
    RX prog w mean mg mb 5 292 [.ref a, .ref cl, .ref fl] (fun h => IsTup h a #[.int c tk, .int z tk']) (fun _ => False) True := by
  intro dp un gd stk base s Q E B X T hP hd hu ret hE
  obtain ⟨b1, b2, b3, b4, b5⟩ := hb
  have st : s.heap.StaysIn s.heap := fun _ _ e => e
  have hsz : s.heap.objs.size ≤ s.heap.objs.size := Nat.le_refl _
  have N0 : ∀ p ∈ ([] : List (Addr × Obj)), s.heap.get? p.1 = some p.2 ∧ s.heap.get? p.1 = none := fun _ hp => nomatch hp
  refine wpAny_call ?_
  have hlim := Top.nolimit T
  k_dflt (refine' code_gr (binds := [(Str.ofString "instruction", .ref a), (Str.ofString "cells", .ref cl), (Str.ofString "funcs", .ref fl)]) st hsz X hlim N0 ?k6 ?k7 ?k8 ?k9 ?kB ?_ ?c5 ?c2 ?c3 ?c4; (case k6 => k_is); (case k7 => k_is); (case k8 => (simp only [recursionLimit]; omega)); (case k9 => exact BindsTo.of_eq rfl); (case c5 => decide); (case kB => exact locs rfl); (case c2 => exact rfl); (case c3 => exact rfl); (case c4 => exact rfl); k_whole)
  clear N0 st hsz
  intro L' h' F' N' l1
  (try dsimp only)
  (try k_fold)
  k_steps
  rename Fr _ _ _ _ => Fz
  refine misused_call (mean := mean) (mg := mg) (mb := mb) (s := Shared.mk _ _ _ _ _) ?_ ?_ ?_ ?_
  · exact X.keeps Fz.keep
  · exact Top.keeps T Fz.keep
  · (simp only [depth_under_make, depth_deeper]; (try dsimp only [kAr]); omega)
  intro h9 tk9 e9 t9 dx9 st9 hn9 he9
  refine ⟨e9, t9, dx9, rfl, (X.keeps Fz.keep).keeps st9, he9, ?_⟩
  show wpAny _ _ _ _ _ _
  exact thrown_first B Fz st9 hn9 he9 fun h' Th => hE _ _ _ trivial Th
theorem inst_keeps {h h' : Heap} {x C : Addr} {ox od : Obj} (I : W.InstAt h x ox C (some od)) (k : ∀ b o, h.get? b = some o → h'.get? b = some o) : W.InstAt h' x ox C (some od) := by
  obtain ⟨h1, h2, h3, h4⟩ := I
  refine ⟨k _ _ h1, h2, h3, ?_⟩
  obtain ⟨c9, d9, dt9, sl9⟩ := ox
  cases d9 with
  | none => exact h4.elim
  | some d => exact k _ _ h4
def CellAt (h : Heap) (c : Addr) (v : Value) : Prop := ∃ ox es n, W.InstAt h c ox 344 (some (dictOf es n)) ∧ getL (Str.ofString "value") es = some (some v) ∧ handedIn v = true
theorem CellAt.keeps {h h' : Heap} {c : Addr} {v : Value} (x : CellAt h c v) (k : ∀ b o, h.get? b = some o → h'.get? b = some o) : CellAt h' c v :=
  let ⟨ox, es, n, I, r⟩ := x; ⟨ox, es, n, inst_keeps I k, r⟩
theorem list_item {A : Around} {E : Value → Shared → Prop} {s : Shared} {value slice : PySem.Expr} {l : Addr} {vs : List Value} {k : Int} {u : Tok} {v : Value} {Q : Value → Shared → Prop}
    (hl : s.heap.IsList l vs.toArray) (h0 : 0 ≤ k) (hhi : k < 2 ^ 63) (hx : vs[k.toNat]? = some v) (h : Q v s)
    (hs : subscripted slice false (.ref l) (.int k u) = operate [.ref l, .int k u] (getItem (.ref l) (.int k u)) := by with_unfolding_all rfl) :
    wpAny (model prog w) A (subscriptTail value slice (.ref l) (.int k u)) Q E s :=
  tail_any hl.typeIs slot_list_getitem.lookup (wpAny_getItem_list hl h0 hhi (by simpa using hx) h) hs
local macro_rules | `(tactic| walk_at "subscriptTail") => `(tactic| (k_here; (with_reducible show wpAny _ _ (subscriptTail _ _ (Value.ref _) (Value.int _ _)) _ _ _); (k_dflt (refine' list_item ?hl ?h0 ?hhi ?hx ?_; (case hl => exact stays_list (Fr.keep (by k_asm)) (by assumption)); (case hx => assumption); (case h0 => omega); (case hhi => omega); k_whole))))
local macro_rules | `(tactic| walk_at "getAttr ref") => `(tactic| (k_here; k_dflt (refine' get_own ?k1 ?k2 ?k3 ?k4 ?k5 ?k6 ?k7 ?k8 ?k9 ?_; (case k1 => k_asm); (case k2 => k_asm); (case k3 => exact inst_keeps (by assumption) (Fr.keep (by k_asm))); (case k4 => k_is); (case k5 => k_is); (case k6 => k_is); (case k7 => k_is); (case k8 => assumption); (case k9 => assumption); k_whole)))
theorem leaf65 {a cl fl : Addr} {z : Int} {tk tk' : Tok} :
    RX prog w mean mg mb 5 292 [.ref a, .ref cl, .ref fl] (fun h => IsTup h a #[.int 65 tk, .int z tk']) (fun r => ∃ tk, r = .int (z % 4294967296) tk) False := by
  intro dp un gd stk base s Q E B X T hP hd hu ret hE
  have st : s.heap.StaysIn s.heap := fun _ _ e => e
  have hsz : s.heap.objs.size ≤ s.heap.objs.size := Nat.le_refl _
  have N0 : ∀ p ∈ ([] : List (Addr × Obj)), s.heap.get? p.1 = some p.2 ∧ s.heap.get? p.1 = none := fun _ hp => nomatch hp
  refine wpAny_call ?_
  have hlim := Top.nolimit T
  k_dflt (refine' code_gr (binds := [(Str.ofString "instruction", .ref a), (Str.ofString "cells", .ref cl), (Str.ofString "funcs", .ref fl)]) st hsz X hlim N0 ?k6 ?k7 ?k8 ?k9 ?kB ?_ ?c5 ?c2 ?c3 ?c4; (case k6 => k_is); (case k7 => k_is); (case k8 => (simp only [recursionLimit]; omega)); (case k9 => exact BindsTo.of_eq rfl); (case c5 => decide); (case kB => exact locs rfl); (case c2 => exact rfl); (case c3 => exact rfl); (case c4 => exact rfl); k_whole)
  clear N0 st hsz
  intro L' h' F' N' l1
  (try dsimp only)
  (try k_fold)
  k_steps
  rename Fr _ _ _ _ => kF9
  have e : Builtin.bitAnd z (1 * 2 ^ Int.toNat 32 - 1) = z % 4294967296 := bitAnd_m32 z
  exact ret _ _ _ kF9.keep ⟨_, congrArg (fun x => Value.int x _) e⟩
theorem leaf66 {a cl fl : Addr} {z : Int} {tk tk' : Tok} :
    RX prog w mean mg mb 5 292 [.ref a, .ref cl, .ref fl] (fun h => IsTup h a #[.int 66 tk, .int z tk']) (fun r => ∃ tk, r = .int (z % 18446744073709551616) tk) False := by
  intro dp un gd stk base s Q E B X T hP hd hu ret hE
  have st : s.heap.StaysIn s.heap := fun _ _ e => e
  have hsz : s.heap.objs.size ≤ s.heap.objs.size := Nat.le_refl _
  have N0 : ∀ p ∈ ([] : List (Addr × Obj)), s.heap.get? p.1 = some p.2 ∧ s.heap.get? p.1 = none := fun _ hp => nomatch hp
  refine wpAny_call ?_
  have hlim := Top.nolimit T
  k_dflt (refine' code_gr (binds := [(Str.ofString "instruction", .ref a), (Str.ofString "cells", .ref cl), (Str.ofString "funcs", .ref fl)]) st hsz X hlim N0 ?k6 ?k7 ?k8 ?k9 ?kB ?_ ?c5 ?c2 ?c3 ?c4; (case k6 => k_is); (case k7 => k_is); (case k8 => (simp only [recursionLimit]; omega)); (case k9 => exact BindsTo.of_eq rfl); (case c5 => decide); (case kB => exact locs rfl); (case c2 => exact rfl); (case c3 => exact rfl); (case c4 => exact rfl); k_whole)
  clear N0 st hsz
  intro L' h' F' N' l1
  (try dsimp only)
  (try k_fold)
  k_steps
  rename Fr _ _ _ _ => kF9
  have e : Builtin.bitAnd z (1 * 2 ^ Int.toNat 64 - 1) = z % 18446744073709551616 := bitAnd_64 z
  exact ret _ _ _ kF9.keep ⟨_, congrArg (fun x => Value.int x _) e⟩
theorem leaf35 {a cl fl c : Addr} {i : Int} {v : Value} {cs : List Value} {tk tk' : Tok} (h0 : 0 ≤ i) (h1 : i < 6) (hx : cs[i.toNat]? = some (.ref c)) :
    RX prog w mean mg mb 5 292 [.ref a, .ref cl, .ref fl] (fun h => IsTup h a #[.int 35 tk, .int i tk'] ∧ h.IsList cl cs.toArray ∧ CellAt h c v) (fun r => r = v) False := by
  intro dp un gd stk base s Q E B X T hP hd hu ret hE
  obtain ⟨hP, hL, ox, es, n, hI, hg, hh⟩ := hP
  have st : s.heap.StaysIn s.heap := fun _ _ e => e
  have hsz : s.heap.objs.size ≤ s.heap.objs.size := Nat.le_refl _
  have N0 : ∀ p ∈ ([] : List (Addr × Obj)), s.heap.get? p.1 = some p.2 ∧ s.heap.get? p.1 = none := fun _ hp => nomatch hp
  refine wpAny_call ?_
  have hlim := Top.nolimit T
  k_dflt (refine' code_gr (binds := [(Str.ofString "instruction", .ref a), (Str.ofString "cells", .ref cl), (Str.ofString "funcs", .ref fl)]) st hsz X hlim N0 ?k6 ?k7 ?k8 ?k9 ?kB ?_ ?c5 ?c2 ?c3 ?c4; (case k6 => k_is); (case k7 => k_is); (case k8 => (simp only [recursionLimit]; omega)); (case k9 => exact BindsTo.of_eq rfl); (case c5 => decide); (case kB => exact locs rfl); (case c2 => exact rfl); (case c3 => exact rfl); (case c4 => exact rfl); k_whole)
  clear N0 st hsz
  intro L' h' F' N' l1
  (try dsimp only)
  (try k_fold)
  k_steps
  rename Fr _ _ _ _ => Fz
  exact ret _ _ _ Fz.keep rfl
theorem leaf210 {a cl fl : Addr} {i x : Int} {tx : Tok} {fs : List Value} {tk tk' : Tok} (h0 : 0 ≤ i) (h1 : i < 3) (hx : fs[i.toNat]? = some (.int x tx)) :
    RX prog w mean mg mb 5 292 [.ref a, .ref cl, .ref fl] (fun h => IsTup h a #[.int 210 tk, .int i tk'] ∧ h.IsList fl fs.toArray) (fun r => r = .int x tx) False := by
  intro dp un gd stk base s Q E B X T hP hd hu ret hE
  obtain ⟨hP, hL⟩ := hP
  have st : s.heap.StaysIn s.heap := fun _ _ e => e
  have hsz : s.heap.objs.size ≤ s.heap.objs.size := Nat.le_refl _
  have N0 : ∀ p ∈ ([] : List (Addr × Obj)), s.heap.get? p.1 = some p.2 ∧ s.heap.get? p.1 = none := fun _ hp => nomatch hp
  refine wpAny_call ?_
  have hlim := Top.nolimit T
  k_dflt (refine' code_gr (binds := [(Str.ofString "instruction", .ref a), (Str.ofString "cells", .ref cl), (Str.ofString "funcs", .ref fl)]) st hsz X hlim N0 ?k6 ?k7 ?k8 ?k9 ?kB ?_ ?c5 ?c2 ?c3 ?c4; (case k6 => k_is); (case k7 => k_is); (case k8 => (simp only [recursionLimit]; omega)); (case k9 => exact BindsTo.of_eq rfl); (case c5 => decide); (case kB => exact locs rfl); (case c2 => exact rfl); (case c3 => exact rfl); (case c4 => exact rfl); k_whole)
  clear N0 st hsz
  intro L' h' F' N' l1
  (try dsimp only)
  (try k_fold)
  k_steps
  rename Fr _ _ _ _ => Fz
  exact ret _ _ _ Fz.keep rfl
theorem leaf208 {a cl fl : Addr} {i : Int} {tk tk' : Tok} :
    RX prog w mean mg mb 5 292 [.ref a, .ref cl, .ref fl] (fun h => IsTup h a #[.int 208 tk, .int i tk']) (fun r => r = .none) False := by
  intro dp un gd stk base s Q E B X T hP hd hu ret hE
  have st : s.heap.StaysIn s.heap := fun _ _ e => e
  have hsz : s.heap.objs.size ≤ s.heap.objs.size := Nat.le_refl _
  have N0 : ∀ p ∈ ([] : List (Addr × Obj)), s.heap.get? p.1 = some p.2 ∧ s.heap.get? p.1 = none := fun _ hp => nomatch hp
  refine wpAny_call ?_
  have hlim := Top.nolimit T
  k_dflt (refine' code_gr (binds := [(Str.ofString "instruction", .ref a), (Str.ofString "cells", .ref cl), (Str.ofString "funcs", .ref fl)]) st hsz X hlim N0 ?k6 ?k7 ?k8 ?k9 ?kB ?_ ?c5 ?c2 ?c3 ?c4; (case k6 => k_is); (case k7 => k_is); (case k8 => (simp only [recursionLimit]; omega)); (case k9 => exact BindsTo.of_eq rfl); (case c5 => decide); (case kB => exact locs rfl); (case c2 => exact rfl); (case c3 => exact rfl); (case c4 => exact rfl); k_whole)
  clear N0 st hsz
  intro L' h' F' N' l1
  (try dsimp only)
  (try k_fold)
  k_steps
  rename Fr _ _ _ _ => Fz
  exact ret _ _ _ Fz.keep rfl
end
section
variable {prog : Program} {w : World} {mean : ExcName → Option Value} {mg mb : Str → Option Value}
theorem rk_add32 {x y : Int} {tk tx ty : Tok} (hx0 : 0 ≤ x) (hx1 : x < 18446744073709551616) (hy0 : 0 ≤ y) (hy1 : y < 18446744073709551616) :
    RX prog w mean mg mb 6 284 [.int 106 tk, .int x tx, .int y ty] (fun _ => True) (fun r => ∃ tk, r = .int ((x + y) % 4294967296) tk) False := by
  intro dp un gd stk base s Q E B X T hP hd hu ret hE
  have st : s.heap.StaysIn s.heap := fun _ _ e => e
  have hsz : s.heap.objs.size ≤ s.heap.objs.size := Nat.le_refl _
  have N0 : ∀ p ∈ ([] : List (Addr × Obj)), s.heap.get? p.1 = some p.2 ∧ s.heap.get? p.1 = none := fun _ hp => nomatch hp
  refine wpAny_call ?_
  have hlim := Top.nolimit T
  k_dflt (refine' code_gr (binds := [(Str.ofString "code", .int 106 tk), (Str.ofString "x", .int x tx), (Str.ofString "y", .int y ty)]) st hsz X hlim N0 ?k6 ?k7 ?k8 ?k9 ?kB ?_ ?c5 ?c2 ?c3 ?c4; (case k6 => k_is); (case k7 => k_is); (case k8 => (simp only [recursionLimit]; omega)); (case k9 => exact BindsTo.of_eq rfl); (case c5 => decide); (case kB => exact locs rfl); (case c2 => exact rfl); (case c3 => exact rfl); (case c4 => exact rfl); k_whole)
  clear N0 st hsz hE
  intro L' h' F' N' l1
  (try dsimp only)
  (try k_fold)
  k_steps
  rename Fr _ _ _ _ => kF9
  have e : Builtin.bitAnd (x + y) (1 * 2 ^ Int.toNat 32 - 1) = (x + y) % 4294967296 := bitAnd_m32 _
  exact ret _ _ _ kF9.keep ⟨_, congrArg (fun x => Value.int x _) e⟩
theorem rk_sub32 {x y : Int} {tk tx ty : Tok} (hx0 : 0 ≤ x) (hx1 : x < 18446744073709551616) (hy0 : 0 ≤ y) (hy1 : y < 18446744073709551616) :
    RX prog w mean mg mb 6 284 [.int 107 tk, .int x tx, .int y ty] (fun _ => True) (fun r => ∃ tk, r = .int ((x - y) % 4294967296) tk) False := by
  intro dp un gd stk base s Q E B X T hP hd hu ret hE
  have st : s.heap.StaysIn s.heap := fun _ _ e => e
  have hsz : s.heap.objs.size ≤ s.heap.objs.size := Nat.le_refl _
  have N0 : ∀ p ∈ ([] : List (Addr × Obj)), s.heap.get? p.1 = some p.2 ∧ s.heap.get? p.1 = none := fun _ hp => nomatch hp
  refine wpAny_call ?_
  have hlim := Top.nolimit T
  k_dflt (refine' code_gr (binds := [(Str.ofString "code", .int 107 tk), (Str.ofString "x", .int x tx), (Str.ofString "y", .int y ty)]) st hsz X hlim N0 ?k6 ?k7 ?k8 ?k9 ?kB ?_ ?c5 ?c2 ?c3 ?c4; (case k6 => k_is); (case k7 => k_is); (case k8 => (simp only [recursionLimit]; omega)); (case k9 => exact BindsTo.of_eq rfl); (case c5 => decide); (case kB => exact locs rfl); (case c2 => exact rfl); (case c3 => exact rfl); (case c4 => exact rfl); k_whole)
  clear N0 st hsz hE
  intro L' h' F' N' l1
  (try dsimp only)
  (try k_fold)
  k_steps
  rename Fr _ _ _ _ => kF9
  have e : Builtin.bitAnd (x - y) (1 * 2 ^ Int.toNat 32 - 1) = (x - y) % 4294967296 := bitAnd_m32 _
  exact ret _ _ _ kF9.keep ⟨_, congrArg (fun x => Value.int x _) e⟩
theorem rk_mul32 {x y : Int} {tk tx ty : Tok} (hx0 : 0 ≤ x) (hx1 : x < 18446744073709551616) (hy0 : 0 ≤ y) (hy1 : y < 18446744073709551616) :
    RX prog w mean mg mb 6 284 [.int 108 tk, .int x tx, .int y ty] (fun _ => True) (fun r => ∃ tk, r = .int ((x * y) % 4294967296) tk) False := by
  intro dp un gd stk base s Q E B X T hP hd hu ret hE
  have st : s.heap.StaysIn s.heap := fun _ _ e => e
  have hsz : s.heap.objs.size ≤ s.heap.objs.size := Nat.le_refl _
  have N0 : ∀ p ∈ ([] : List (Addr × Obj)), s.heap.get? p.1 = some p.2 ∧ s.heap.get? p.1 = none := fun _ hp => nomatch hp
  refine wpAny_call ?_
  have hlim := Top.nolimit T
  k_dflt (refine' code_gr (binds := [(Str.ofString "code", .int 108 tk), (Str.ofString "x", .int x tx), (Str.ofString "y", .int y ty)]) st hsz X hlim N0 ?k6 ?k7 ?k8 ?k9 ?kB ?_ ?c5 ?c2 ?c3 ?c4; (case k6 => k_is); (case k7 => k_is); (case k8 => (simp only [recursionLimit]; omega)); (case k9 => exact BindsTo.of_eq rfl); (case c5 => decide); (case kB => exact locs rfl); (case c2 => exact rfl); (case c3 => exact rfl); (case c4 => exact rfl); k_whole)
  clear N0 st hsz hE
  intro L' h' F' N' l1
  (try dsimp only)
  (try k_fold)
  k_steps
  rename Fr _ _ _ _ => kF9
  have e : Builtin.bitAnd (x * y) (1 * 2 ^ Int.toNat 32 - 1) = (x * y) % 4294967296 := bitAnd_m32 _
  exact ret _ _ _ kF9.keep ⟨_, congrArg (fun x => Value.int x _) e⟩
theorem rk_add64 {x y : Int} {tk tx ty : Tok} (hx0 : 0 ≤ x) (hx1 : x < 18446744073709551616) (hy0 : 0 ≤ y) (hy1 : y < 18446744073709551616) :
    RX prog w mean mg mb 6 284 [.int 124 tk, .int x tx, .int y ty] (fun _ => True) (fun r => ∃ tk, r = .int ((x + y) % 18446744073709551616) tk) False := by
  intro dp un gd stk base s Q E B X T hP hd hu ret hE
  have st : s.heap.StaysIn s.heap := fun _ _ e => e
  have hsz : s.heap.objs.size ≤ s.heap.objs.size := Nat.le_refl _
  have N0 : ∀ p ∈ ([] : List (Addr × Obj)), s.heap.get? p.1 = some p.2 ∧ s.heap.get? p.1 = none := fun _ hp => nomatch hp
  refine wpAny_call ?_
  have hlim := Top.nolimit T
  k_dflt (refine' code_gr (binds := [(Str.ofString "code", .int 124 tk), (Str.ofString "x", .int x tx), (Str.ofString "y", .int y ty)]) st hsz X hlim N0 ?k6 ?k7 ?k8 ?k9 ?kB ?_ ?c5 ?c2 ?c3 ?c4; (case k6 => k_is); (case k7 => k_is); (case k8 => (simp only [recursionLimit]; omega)); (case k9 => exact BindsTo.of_eq rfl); (case c5 => decide); (case kB => exact locs rfl); (case c2 => exact rfl); (case c3 => exact rfl); (case c4 => exact rfl); k_whole)
  clear N0 st hsz hE
  intro L' h' F' N' l1
  (try dsimp only)
  (try k_fold)
  k_steps
  rename Fr _ _ _ _ => kF9
  have e : Builtin.bitAnd (x + y) (1 * 2 ^ Int.toNat 64 - 1) = (x + y) % 18446744073709551616 := bitAnd_64 _
  exact ret _ _ _ kF9.keep ⟨_, congrArg (fun x => Value.int x _) e⟩
theorem rk_sub64 {x y : Int} {tk tx ty : Tok} (hx0 : 0 ≤ x) (hx1 : x < 18446744073709551616) (hy0 : 0 ≤ y) (hy1 : y < 18446744073709551616) :
    RX prog w mean mg mb 6 284 [.int 125 tk, .int x tx, .int y ty] (fun _ => True) (fun r => ∃ tk, r = .int ((x - y) % 18446744073709551616) tk) False := by
  intro dp un gd stk base s Q E B X T hP hd hu ret hE
  have st : s.heap.StaysIn s.heap := fun _ _ e => e
  have hsz : s.heap.objs.size ≤ s.heap.objs.size := Nat.le_refl _
  have N0 : ∀ p ∈ ([] : List (Addr × Obj)), s.heap.get? p.1 = some p.2 ∧ s.heap.get? p.1 = none := fun _ hp => nomatch hp
  refine wpAny_call ?_
  have hlim := Top.nolimit T
  k_dflt (refine' code_gr (binds := [(Str.ofString "code", .int 125 tk), (Str.ofString "x", .int x tx), (Str.ofString "y", .int y ty)]) st hsz X hlim N0 ?k6 ?k7 ?k8 ?k9 ?kB ?_ ?c5 ?c2 ?c3 ?c4; (case k6 => k_is); (case k7 => k_is); (case k8 => (simp only [recursionLimit]; omega)); (case k9 => exact BindsTo.of_eq rfl); (case c5 => decide); (case kB => exact locs rfl); (case c2 => exact rfl); (case c3 => exact rfl); (case c4 => exact rfl); k_whole)
  clear N0 st hsz hE
  intro L' h' F' N' l1
  (try dsimp only)
  (try k_fold)
  k_steps
  rename Fr _ _ _ _ => kF9
  have e : Builtin.bitAnd (x - y) (1 * 2 ^ Int.toNat 64 - 1) = (x - y) % 18446744073709551616 := bitAnd_64 _
  exact ret _ _ _ kF9.keep ⟨_, congrArg (fun x => Value.int x _) e⟩
theorem rk_mul64 {x y : Int} {tk tx ty : Tok} (hx0 : 0 ≤ x) (hx1 : x < 18446744073709551616) (hy0 : 0 ≤ y) (hy1 : y < 18446744073709551616) :
    RX prog w mean mg mb 6 284 [.int 126 tk, .int x tx, .int y ty] (fun _ => True) (fun r => ∃ tk, r = .int ((x * y) % 18446744073709551616) tk) False := by
  intro dp un gd stk base s Q E B X T hP hd hu ret hE
  have st : s.heap.StaysIn s.heap := fun _ _ e => e
  have hsz : s.heap.objs.size ≤ s.heap.objs.size := Nat.le_refl _
  have N0 : ∀ p ∈ ([] : List (Addr × Obj)), s.heap.get? p.1 = some p.2 ∧ s.heap.get? p.1 = none := fun _ hp => nomatch hp
  refine wpAny_call ?_
  have hlim := Top.nolimit T
  k_dflt (refine' code_gr (binds := [(Str.ofString "code", .int 126 tk), (Str.ofString "x", .int x tx), (Str.ofString "y", .int y ty)]) st hsz X hlim N0 ?k6 ?k7 ?k8 ?k9 ?kB ?_ ?c5 ?c2 ?c3 ?c4; (case k6 => k_is); (case k7 => k_is); (case k8 => (simp only [recursionLimit]; omega)); (case k9 => exact BindsTo.of_eq rfl); (case c5 => decide); (case kB => exact locs rfl); (case c2 => exact rfl); (case c3 => exact rfl); (case c4 => exact rfl); k_whole)
  clear N0 st hsz hE
  intro L' h' F' N' l1
  (try dsimp only)
  (try k_fold)
  k_steps
  rename Fr _ _ _ _ => kF9
  have e : Builtin.bitAnd (x * y) (1 * 2 ^ Int.toNat 64 - 1) = (x * y) % 18446744073709551616 := bitAnd_64 _
  exact ret _ _ _ kF9.keep ⟨_, congrArg (fun x => Value.int x _) e⟩
end
def VR (v : Value) (x : Option Int) : Prop := match x with
  | none => v = .none
  | some i => ∃ tk, v = .int i tk
inductive VRs : List Value → List (Option Int) → Prop
  | nil : VRs [] []
  | cons {v : Value} {x : Option Int} {vs : List Value} {xs : List (Option Int)} : VR v x → VRs vs xs → VRs (v :: vs) (x :: xs)
theorem VRs.length {vs : List Value} {xs : List (Option Int)} (h : VRs vs xs) : vs.length = xs.length := by
  induction h with
  | nil => rfl
  | cons _ _ ih => simp [ih]
theorem VRs.app {vs us : List Value} {xs ys : List (Option Int)} (h : VRs vs xs) (k : VRs us ys) : VRs (vs ++ us) (xs ++ ys) := by
  induction h with
  | nil => exact k
  | cons a _ ih => exact .cons a ih
theorem VRs.split {ys : List (Option Int)} : ∀ {xs : List (Option Int)} {vs : List Value}, VRs vs (xs ++ ys) → ∃ us ws, vs = us ++ ws ∧ VRs us xs ∧ VRs ws ys
  | [], vs, h => ⟨[], vs, rfl, .nil, h⟩
  | _ :: _, _, .cons a h => let ⟨us, ws, e, h1, h2⟩ := h.split; ⟨_ :: us, ws, by rw [e]; rfl, .cons a h1, h2⟩
structure EnvAt (h : Heap) (cl fl : Addr) (cv : List (Option Int)) (fv : List Int) : Prop where
  cells : ∃ cs : List Value, h.IsList cl cs.toArray ∧ ∀ i, i < 6 → ∃ c v x, cs[i]? = some (.ref c) ∧ CellAt h c v ∧ cv[i]? = some x ∧ VR v x
  funcs : ∃ fs : List Value, h.IsList fl fs.toArray ∧ ∀ i, i < 3 → ∃ x tx, fs[i]? = some (.int x tx) ∧ fv[i]? = some x
theorem EnvAt.keeps {h h' : Heap} {cl fl : Addr} {cv : List (Option Int)} {fv : List Int} (x : EnvAt h cl fl cv fv) (k : ∀ b o, h.get? b = some o → h'.get? b = some o) : EnvAt h' cl fl cv fv := by
  obtain ⟨⟨cs, h1, h2⟩, fs, h3, h4⟩ := x
  refine ⟨⟨cs, stays_list k h1, fun i hi => ?_⟩, fs, stays_list k h3, h4⟩
  obtain ⟨c, v, x, e1, e2, e3⟩ := h2 i hi
  exact ⟨c, v, x, e1, e2.keeps k, e3⟩
abbrev inR (c : Int) : Prop := c = 106 ∨ c = 107 ∨ c = 108 ∨ c = 124 ∨ c = 125 ∨ c = 126
def opF (c x y : Int) : Int :=
  if c = 106 then (x + y) % 4294967296 else if c = 107 then (x - y) % 4294967296 else if c = 108 then (x * y) % 4294967296
  else if c = 124 then (x + y) % 18446744073709551616 else if c = 125 then (x - y) % 18446744073709551616 else (x * y) % 18446744073709551616
def leafF (cv : List (Option Int)) (fv : List Int) (i : Ins) : Option (Option (Option Int)) := match i.x with
  | some z => if i.c = 65 then some (some (some (z % 4294967296))) else if i.c = 66 then some (some (some (z % 18446744073709551616)))
    else if i.c = 35 then (if 0 ≤ z ∧ z < 6 then (cv[z.toNat]?).map some else none)
    else if i.c = 210 then (if 0 ≤ z ∧ z < 3 then (fv[z.toNat]?).map fun x => some (some x) else none)
    else if i.c = 208 then some (some none) else some none
  | none => if i.c = 65 ∨ i.c = 66 ∨ i.c = 35 ∨ i.c = 210 ∨ i.c = 208 then none else some none
abbrev inB (x : Int) : Prop := 0 ≤ x ∧ x < 18446744073709551616
def topF (c : Int) (st : List (Option Int)) : Option (List (Option Int)) := match st.reverse with
  | some y :: some x :: r => if inB x ∧ inB y then some (r.reverse ++ [some (opF c x y)]) else none
  | _ => none
def stepF (cv : List (Option Int)) (fv : List Int) (st : List (Option Int)) (i : Ins) : Option (Option (List (Option Int))) :=
  if inR i.c ∧ 1 < st.length then (topF i.c st).map some
  else if i.c = 11 then some (some st)
  else match leafF cv fv i with
    | none => none
    | some none => some none
    | some (some x) => some (some (st ++ [x]))
def runF (cv : List (Option Int)) (fv : List Int) : List (Option Int) → List Ins → Option (Option (List (Option Int)))
  | st, [] => some (some st)
  | st, i :: r => match stepF cv fv st i with
    | some (some st') => runF cv fv st' r
    | q => q
theorem topF_some {c : Int} {st st' : List (Option Int)} (h : topF c st = some st') : ∃ r x y, st = r ++ [some x, some y] ∧ st' = r ++ [some (opF c x y)] ∧ inB x ∧ inB y := by
  unfold topF at h
  split at h
  · rename_i y x r e
    split at h
    · rename_i hb
      refine ⟨r.reverse, x, y, ?_, (Option.some.inj h).symm, hb.1, hb.2⟩
      have := congrArg List.reverse e
      rw [List.reverse_reverse] at this
      rw [this]; simp
    · cases h
  · cases h
theorem topF_at (c : Int) (r : List (Option Int)) (x y : Int) (hx : inB x) (hy : inB y) : topF c (r ++ [some x, some y]) = some (r ++ [some (opF c x y)]) := by
  unfold topF
  simp [hx, hy]
theorem RX.use {prog : Program} {w : World} {mean : ExcName → Option Value} {mg mb : Str → Option Value} {need : Nat} {f : Addr} {vals : List Value} {P : Heap → Prop} {Post : Value → Prop} {may : Prop}
    {dp un : Nat} {gd : Option (List Code)} {cn : Str} {cs : Scope} {L a : Addr} {ccd : Value} {cl : List (Str × Addr)} {outer : List Env} {A₀ : Around} {base h₀ : Heap} {m : Str → Option Value} {news : List (Addr × Obj)} {s : Shared} {Q E : Value → Shared → Prop}
    (C : RX prog w mean mg mb need f vals P Post may)
    (B : Below A₀ base outer h₀) (F : Fr h₀ L s.heap m) (N : News h₀ L s.heap news) (X : (Mine.hd.heap_39 w.params).In h₀) (T : kTop mean mg mb h₀)
    (hP : P s.heap) (hk : cs.kind = .function) (hd : dp + need < 1000) (hu : un + 8 * need + 400 < 9900)
    (ret : ∀ r h' tk, Fr h₀ L h' m → News h₀ L h' news → s.heap.StaysIn h' → Post r → Q r { s with heap := h', toks := tk })
    (thr : ∀ e h' tk, may → Thrown base s.heap (envX cn cs L a ccd cl :: outer) e h' → E (.ref e) { s with heap := h', toks := tk }) :
    wpAny (model prog w) (ktrTop dp un gd cn cs L a ccd cl outer) (call (.ref f) vals) Q E s := by
  obtain ⟨_, BG, st, _⟩ := groundX (A := ktrTop dp un gd cn cs L a ccd cl outer) (env := envX cn cs L a ccd cl) (R := fun _ _ => True) B F (News.nil : News h₀ L s.heap []) rfl rfl hk
  exact C (dp := dp) (un := un) (gd := gd) (stk := envX cn cs L a ccd cl :: outer) BG (X.keeps st) (Top.keeps T st) hP hd hu (fun r h' tk hst hpo =>
    ret r h' tk (F.keeps hst) (News.keepsAll N hst) hst hpo) thr
section
variable {prog : Program} {w : World} {mean : ExcName → Option Value} {mg mb : Str → Option Value}
theorem RX.weaken {need : Nat} {f : Addr} {vals : List Value} {P P' : Heap → Prop} {Post Post' : Value → Prop} {may may' : Prop} (C : RX prog w mean mg mb need f vals P Post may) (hp : ∀ h, P' h → P h) (hq : ∀ r, Post r → Post' r) (hm : may → may') :
    RX prog w mean mg mb need f vals P' Post' may' := by
  intro dp un gd stk base s Q E B X T hP hd hu ret thr
  exact C B X T (hp _ hP) hd hu (fun r h' tk st p => ret r h' tk st (hq r p)) fun e h' tk m => thr e h' tk (hm m)
theorem RX.byP {need : Nat} {f : Addr} {vals : List Value} {P : Heap → Prop} {Post : Value → Prop} {may : Prop} (C : ∀ h₁ : Heap, P h₁ → RX prog w mean mg mb need f vals (fun h => h = h₁) Post may) :
    RX prog w mean mg mb need f vals P Post may := by
  intro dp un gd stk base s Q E B X T hP hd hu ret thr
  exact C s.heap hP B X T rfl hd hu ret thr
theorem leaf_gen {v : Value} {cl fl : Addr} {i : Ins} {cv : List (Option Int)} {fv : List Int} {res : Option (Option Int)} (hr : leafF cv fv i = some res) :
    RX prog w mean mg mb 5 292 [v, .ref cl, .ref fl] (fun h => InsR (inH h) v i ∧ EnvAt h cl fl cv fv) (fun r => ∃ x, res = some x ∧ VR r x) (res = none) := by
  refine RX.byP fun h₁ hP => ?_
  obtain ⟨⟨a, tk, tk', n, rfl, ha⟩, hE⟩ := hP
  obtain ⟨c, x⟩ := i
  cases x with
  | none =>
    simp only [leafF] at hr
    split at hr
    · cases hr
    · rename_i hc
      cases hr
      have hb : c ≠ 65 ∧ c ≠ 66 ∧ c ≠ 35 ∧ c ≠ 210 ∧ c ≠ 208 := by (try dsimp only at hc); omega
      exact (leaf_bad1 (tk := tk) (n := n) hb).weaken (fun h e => by subst e; exact ⟨_, ha, rfl, _, rfl⟩) (fun _ h => h.elim) (fun _ => rfl)
  | some z =>
    simp only [leafF] at hr
    have hT : IsTup h₁ a #[.int c tk, .int z tk'] := ⟨_, ha, rfl, _, rfl⟩
    split at hr
    · rename_i hc; subst hc; cases hr
      exact (leaf65 (z := z) (tk := tk) (tk' := tk')).weaken (fun h e => by subst e; exact hT) (fun r hr => ⟨_, rfl, hr⟩) False.elim
    split at hr
    · rename_i hc; subst hc; cases hr
      exact (leaf66 (z := z) (tk := tk) (tk' := tk')).weaken (fun h e => by subst e; exact hT) (fun r hr => ⟨_, rfl, hr⟩) False.elim
    split at hr
    · rename_i hc; subst hc
      split at hr
      · rename_i hz
        obtain ⟨cs, h1, h2⟩ := hE.cells
        obtain ⟨c', v', x, e1, e2, e3, e4⟩ := h2 z.toNat (by omega)
        rw [e3] at hr; cases hr
        exact (leaf35 (v := v') (tk := tk) (tk' := tk') hz.1 hz.2 e1).weaken (fun h e => by subst e; exact ⟨hT, h1, e2⟩) (fun r hr => ⟨_, rfl, by rw [hr]; exact e4⟩) False.elim
      · cases hr
    split at hr
    · rename_i hc; subst hc
      split at hr
      · rename_i hz
        obtain ⟨fs, h1, h2⟩ := hE.funcs
        obtain ⟨x, tx, e1, e2⟩ := h2 z.toNat (by omega)
        rw [e2] at hr; cases hr
        exact (leaf210 (tk := tk) (tk' := tk') hz.1 hz.2 e1).weaken (fun h e => by subst e; exact ⟨hT, h1⟩) (fun r hr => ⟨_, rfl, by rw [hr]; exact ⟨_, rfl⟩⟩) False.elim
      · cases hr
    split at hr
    · rename_i hc; subst hc; cases hr
      exact (leaf208 (i := z) (tk := tk) (tk' := tk')).weaken (fun h e => by subst e; exact hT) (fun r hr => ⟨_, rfl, hr⟩) False.elim
    · cases hr
      have hb : c ≠ 65 ∧ c ≠ 66 ∧ c ≠ 35 ∧ c ≠ 210 ∧ c ≠ 208 := by (try dsimp only at *); omega
      exact (leaf_bad2 (z := z) (tk := tk) (tk' := tk') hb).weaken (fun h e => by subst e; exact hT) (fun _ h => h.elim) (fun _ => rfl)
theorem rk_gen {c x y : Int} {tk tx ty : Tok} (hc : inR c) (hx : inB x) (hy : inB y) :
    RX prog w mean mg mb 6 284 [.int c tk, .int x tx, .int y ty] (fun _ => True) (fun r => ∃ tk, r = .int (opF c x y) tk) False := by
  unfold inR at hc
  rcases hc with rfl | rfl | rfl | rfl | rfl | rfl
  · exact rk_add32 hx.1 hx.2 hy.1 hy.2
  · exact rk_sub32 hx.1 hx.2 hy.1 hy.2
  · exact rk_mul32 hx.1 hx.2 hy.1 hy.2
  · exact rk_add64 hx.1 hx.2 hy.1 hy.2
  · exact rk_sub64 hx.1 hx.2 hy.1 hy.2
  · exact rk_mul64 hx.1 hx.2 hy.1 hy.2
end
def StEnd (h₀ : Heap) (L sA : Addr) (own : List (Addr × Obj)) (stored : List Str) (x : Str) (m₀ : Str → Option Value) (J : List Value → Prop) (s₁ s₂ : Shared) : Prop :=
  ∃ h' tk m' sv n, s₂ = { s₁ with heap := h', toks := tk } ∧ Fr h₀ L h' m' ∧ News h₀ L h' ((sA, listOf (List.toArray sv) n) :: own) ∧ (∀ z, z ≠ x → stored.contains z = false → m' z = m₀ z) ∧ J sv
def StPost (h₀ : Heap) (L sA : Addr) (own : List (Addr × Obj)) (stored : List Str) (x : Str) (m₀ : Str → Option Value) (J : List Value → Prop) (s₁ : Shared) (Q : Flow → Shared → Prop) (f : Flow) (s₂ : Shared) : Prop := match f with
  | .ret v => Q (.ret v) s₂
  | .brk => Q .next s₂
  | _ => StEnd h₀ L sA own stored x m₀ J s₁ s₂
theorem loop_stack {prog : Program} {w : World} {A : Around} {E : Value → Shared → Prop} {s : Shared} {env : Env} {h₀ : Heap} {x : Str} {body : List Stmt} {Q : Flow → Shared → Prop}
    {l sA : Addr} {vs sv₀ : List Value} {n₀ : Nat} {m₀ : Str → Option Value} (Jst : Nat → List Value → Prop) (stored : List Str)
    (hh : A.handled = none) (hl : h₀.IsList l vs.toArray) (F : Fr h₀ env.locals s.heap m₀) (N : News h₀ env.locals s.heap [(sA, listOf sv₀.toArray n₀)]) (hj : Jst 0 sv₀)
    (turn : ∀ i v (u : Str → Option Value) sv n h tk own, vs[i]? = some v → Jst i sv → OwnOff own [sA] → Fr h₀ env.locals h (fun z => if z = x then some v else if stored.contains z then u z else m₀ z) → News h₀ env.locals h ((sA, listOf (List.toArray sv) n) :: own) →
      wpAny (model prog w) A (execs body env) (StPost h₀ env.locals sA own stored x m₀ (Jst (i + 1)) { s with heap := h, toks := tk } Q) E { s with heap := h, toks := tk })
    (done : ∀ (u : Str → Option Value) sv n h tk, Jst vs.length sv → Fr h₀ env.locals h (fun z => if z = x then u z else if stored.contains z then u z else m₀ z) → News h₀ env.locals h [(sA, listOf (List.toArray sv) n)] → Q .next { s with heap := h, toks := tk }) :
    wpAny (model prog w) A (pyIter (.ref l)) (fun it s₂ => LoopAtV prog w A h₀ env x body Q E it s₂) E s := by
  have hls : s.heap.IsList l vs.toArray := hl.at fun o e => F.keep l o e
  obtain ⟨ol, hol, _⟩ := id hl
  have hlt : l < h₀.objs.size := Heap.lt_size hol
  have hne : l ≠ s.heap.objs.size := Nat.ne_of_lt (Nat.lt_trans (Nat.lt_of_lt_of_le hlt F.above) F.ns.lt)
  refine wpAny_pyIter_list hls ?_
  have W := Walks.list (prog := prog) (w := w) hh s.heap.objs.size l hne vs.toArray
  rw [List.size_toArray] at W
  have fold : ∀ (m : Str → Option Value) (v : Option Value), (∀ z, z ≠ x → stored.contains z = false → m z = m₀ z) → (fun z => if z = x then v else m z) = fun z => if z = x then v else if stored.contains z then m z else m₀ z := by
    intro m v hm
    funext z
    by_cases h1 : z = x
    · simp [h1]
    · simp only [if_neg h1]
      cases h3 : stored.contains z with
      | true => simp
      | false => simp only [Bool.false_eq_true, if_false]; exact hm z h1 h3
  refine ⟨_, _, _, vs.length, _, _, m₀, [(sA, listOf sv₀.toArray n₀)], fun i m nw => (∃ sv n, nw = [(sA, listOf (List.toArray sv) n)] ∧ Jst i sv) ∧ ∀ z, z ≠ x → stored.contains z = false → m z = m₀ z, rfl, W, ?_, ?_, ?_, ⟨⟨_, Heap.get?_push_size _ rfl, rfl, rfl⟩, hls.at fun o e => Heap.get?_push_of_some _ e⟩, F.push _, (fun p hp => ⟨Heap.get?_push_of_some _ (N p hp).1, (N p hp).2⟩), ⟨⟨_, _, rfl, hj⟩, fun _ _ _ => rfl⟩, ?_, ?_⟩
  · intro hm
    rcases List.mem_cons.mp hm with e | hm
    · exact absurd F.ns.lt (e ▸ Nat.lt_irrefl _)
    · exact absurd (Nat.lt_of_lt_of_le hlt F.above) ((List.mem_singleton.mp hm) ▸ Nat.lt_irrefl _)
  · intro b hb
    rw [List.mem_singleton.mp hb]
    exact next_is_new F
  · intro p hp hI
    exact absurd (Heap.lt_size (N p hp).1) ((List.mem_singleton.mp hI) ▸ Nat.lt_irrefl _)
  · rintro i v m₁ news₁ s₁ own ⟨hh', tk', rfl⟩ hin hP ⟨⟨sv, n, rfl, hJ⟩, hm⟩ hoff hown _ _ _ F₁ N₁
    have hsA : sA ≠ s.heap.objs.size := fun e => hoff _ (.head _) (by rw [e]; exact .head _)
    have hsep : OwnOff own [sA] := by
      intro p hp b hb e
      rw [List.mem_singleton.mp hb] at e
      rcases List.mem_cons.mp (hown p hp) with h1 | h1
      · exact hsA (e.symm.trans h1)
      · have h2 := List.mem_singleton.mp h1
        have h3 := (N _ (.head _)).2.2
        have h4 : sA = l := e.symm.trans h2
        rw [h4, hol] at h3
        cases h3
    have hP' : vs[i]? = some v := by simpa using hP
    rw [fold m₁ (some v) hm] at F₁
    have N₂ : News h₀ env.locals hh' ((sA, listOf (List.toArray sv) n) :: own) := fun p hp => N₁ p ((List.mem_cons.mp hp).elim (fun h => List.mem_append.mpr (.inr (by rw [h]; exact .head _))) fun h => List.mem_append.mpr (.inl h))
    refine wpAny_mono (turn i v m₁ sv n hh' tk' own hP' hJ hsep F₁ N₂) (fun f s₂ p => ?_) fun _ _ e => e
    have fin : StEnd h₀ env.locals sA own stored x m₀ (Jst (i + 1)) { s with heap := hh', toks := tk' } s₂ → LoopStepU h₀ env.locals [s.heap.objs.size] own ((fun i m nw => (∃ sv n, nw = [(sA, listOf (List.toArray sv) n)] ∧ Jst i sv) ∧ ∀ z, z ≠ x → stored.contains z = false → m z = m₀ z) (i + 1)) { s with heap := hh', toks := tk' } .next s₂ := by
      rintro ⟨h', tk, m', sv', n', e, F', N', hm', hJ'⟩
      refine ⟨rfl, h', tk, m', [(sA, listOf (List.toArray sv') n')], e, F', fun p hp => N' p ((List.mem_append.mp hp).elim (fun h => .tail _ h) (fun h => by rw [List.mem_singleton.mp h]; exact .head _)), fun p hp hq => ?_, ⟨_, _, rfl, hJ'⟩, hm'⟩
      rw [List.mem_singleton.mp hp] at hq
      exact hsA (List.mem_singleton.mp hq)
    cases f with
    | ret v => exact .ret p
    | brk => exact .brk p
    | next => exact .next (fin p)
    | cont => exact .cont (fin p)
  · rintro h' tk m' news' F' N' _ ⟨⟨sv, n, rfl, hJ⟩, hm⟩
    refine done m' sv n h' tk hJ ?_ N'
    have e := fold m' (m' x) hm
    have e2 : (fun z => if z = x then m' x else m' z) = m' := by
      funext z; by_cases h1 : z = x <;> simp [h1]
    have e3 : (fun z => if z = x then m' z else if stored.contains z then m' z else m₀ z) = fun z => if z = x then m' x else if stored.contains z then m' z else m₀ z := by
      funext z; by_cases h1 : z = x <;> simp [h1]
    rw [e3, ← e, e2]; exact F'
theorem StPost.nextI {h₀ h' : Heap} {L sA : Addr} {own : List (Addr × Obj)} {stored : List Str} {x : Str} {m₀ m' : Str → Option Value} {J : List Value → Prop} {s₁ : Shared} {Q : Flow → Shared → Prop} {its : Array Value} {n tk : Nat} (sv : List Value)
    (F : Fr h₀ L h' m') (N : News h₀ L h' ((sA, listOf its n) :: own)) (hm : ∀ z, z ≠ x → stored.contains z = false → m' z = m₀ z) (e : its = sv.toArray) (hJ : J sv) :
    StPost h₀ L sA own stored x m₀ J s₁ Q .next { s₁ with heap := h', toks := tk } := by
  subst e
  exact ⟨h', tk, m', sv, n, rfl, F, N, hm, hJ⟩
theorem VR.int {i : Int} {tk : Tok} : VR (.int i tk) (some i) := ⟨tk, rfl⟩
theorem VR.app1 {vs : List Value} {xs : List (Option Int)} {v : Value} {x : Option Int} (h : VRs vs xs) (k : VR v x) : VRs (vs ++ [v]) (xs ++ [x]) := h.app (.cons k .nil)
theorem fr_none {g h : Heap} {L : Addr} {m : Str → Option Value} (F : Fr g L h m) : g.get? L = none := by
  cases q : g.get? L with
  | none => rfl
  | some o => exact absurd (Nat.lt_of_lt_of_le (Heap.lt_size q) F.above) (Nat.lt_irrefl _)
inductive InsRs (G : Addr → Obj → Prop) : List Value → List Ins → Prop
  | nil : InsRs G [] []
  | cons {v : Value} {i : Ins} {vs : List Value} {is : List Ins} : InsR G v i → InsRs G vs is → InsRs G (v :: vs) (i :: is)
theorem InsRs.length {G : Addr → Obj → Prop} {vs : List Value} {is : List Ins} (h : InsRs G vs is) : vs.length = is.length := by
  induction h with
  | nil => rfl
  | cons _ _ ih => simp [ih]
theorem InsRs.at {G : Addr → Obj → Prop} {vs : List Value} {is : List Ins} (h : InsRs G vs is) : ∀ {k : Nat} {v : Value}, vs[k]? = some v → ∃ i, is.drop k = i :: is.drop (k + 1) ∧ InsR G v i := by
  induction h with
  | nil => intro k v e; cases e
  | cons a _ ih =>
    intro k v e
    cases k with
    | zero => cases e; exact ⟨_, rfl, a⟩
    | succ k => exact ih (by simpa using e)
theorem InsR.mono {G G' : Addr → Obj → Prop} {v : Value} {i : Ins} (h : InsR G v i) (hs : ∀ a o, G a o → G' a o) : InsR G' v i := let ⟨a, tk, tk', n, e, h⟩ := h; ⟨a, tk, tk', n, e, hs _ _ h⟩
theorem InsRs.mono {G G' : Addr → Obj → Prop} {vs : List Value} {is : List Ins} (h : InsRs G vs is) (hs : ∀ a o, G a o → G' a o) : InsRs G' vs is := by
  induction h with
  | nil => exact .nil
  | cons a _ ih => exact .cons (a.mono hs) ih
section
variable {prog : Program} {w : World} {mean : ExcName → Option Value} {mg mb : Str → Option Value}
theorem in_reck {A : Around} {E : Value → Shared → Prop} {s : Shared} {h₀ : Heap} {L : Addr} {m : Str → Option Value} {c : Int} {tk : Tok} {Q : Value → Shared → Prop} (F : Fr h₀ L s.heap m) (X₀ : (Mine.hd.heap_39 w.params).In h₀)
    (h : Q (.bool (decide (inR c))) s) : wpAny (model prog w) A (compareOp .In (.int c tk) (.ref 285)) Q E s := by
  have e : ∃ (t1 t2 t3 t4 t5 t6 : Tok), ∃ o, (Mine.hd.heap_39 w.params).lookup 285 = some o ∧ ∃ n, o = { cls := .type "tuple", data := .seq #[.int 106 t1, .int 107 t2, .int 108 t3, .int 124 t4, .int 125 t5, .int 126 t6] n } :=
    ⟨_, _, _, _, _, _, _, by k_is, _, rfl⟩
  obtain ⟨t1, t2, t3, t4, t5, t6, o, e1, n, rfl⟩ := e
  have hT : s.heap.IsTuple 285 #[.int 106 t1, .int 107 t2, .int 108 t3, .int 124 t4, .int 125 t5, .int 126 t6] := ⟨_, F.keep _ _ (X₀ _ _ e1), rfl, n, rfl⟩
  refine PySem.SeqAt.in_tupleAt (fun y => match y with | .int j _ => decide (j = c) | _ => false) hT ?_ ?_
  · intro y hy
    have hy' : y = .int 106 t1 ∨ y = .int 107 t2 ∨ y = .int 108 t3 ∨ y = .int 124 t4 ∨ y = .int 125 t5 ∨ y = .int 126 t6 := by simpa using hy
    rcases hy' with rfl | rfl | rfl | rfl | rfl | rfl <;> exact PySem.MeetsSeq.EqGives.at (PySem.MeetsSeq.EqGives.int _ _ _ _) _ _
  · have q : (#[Value.int 106 t1, .int 107 t2, .int 108 t3, .int 124 t4, .int 125 t5, .int 126 t6].any fun y => match y with | .int j _ => decide (j = c) | _ => false) = decide (inR c) := by
      rw [Bool.eq_iff_iff]
      simp only [List.any_toArray, List.any_cons, List.any_nil, Bool.or_false, Bool.or_eq_true, decide_eq_true_eq]
      unfold inR
      constructor <;> intro h9 <;> (try simp only [decide_eq_true_eq] at *) <;> omega
    rw [q]; exact h
theorem pop_last {A : Around} {E : Value → Shared → Prop} {s : Shared} {h₀ : Heap} {L D : Addr} {m : Str → Option Value} {news news' : List (Addr × Obj)} {n : Nat} {us : List Value} {y : Value} {Q : Value → Shared → Prop} (F : Fr h₀ L s.heap m) (N : News h₀ L s.heap news)
    (U : Upd D (listOf (us ++ [y]).toArray n) (listOf us.toArray (n + 1)) news news') (hz : (us ++ [y]).length ≤ 16777216) (h : ∀ h', Fr h₀ L h' m → News h₀ L h' news' → Q y { s with heap := h' }) :
    wpAny (model prog w) A (call (.builtin "list.pop") [.ref D]) Q E s :=
  kl_pop F N (p := us) (y := y) (by simpa using kpa_last y us) U (by rw [sizeLine_eq]; simpa using hz) h
end
section
variable {prog : Program} {w : World} {mean : ExcName → Option Value} {mg mb : Str → Option Value}
local macro_rules | `(tactic| walk_at "exec Raise some none") => `(tactic| (k_here; k_dflt (refine' raise63 ?hX ?hh ?_; (case hX => k_asm); (case hh => rfl))))
local macro_rules | `(tactic| walk_at "ite") => `(tactic| (k_here; first | refine ite_neg (dec_neg (by with_reducible assumption)) ?_ | refine ite_neg (by with_reducible assumption) ?_ | refine ite_pos (dec_pos (by with_reducible assumption)) ?_ | refine ite_pos (by with_reducible assumption) ?_))
def Stop (p : Prop) : Prop := p
theorem Stop.mk {p : Prop} (h : Stop p) : p := h
local macro_rules | `(tactic| walk_at "exec For Name Name cons nil") => `(tactic| (k_here; (rename Fr _ _ _ _ => lF'); (with_unfolding_all refine' For_invVF lF' ?k1 ?k2 ?_; (case k1 => exact rfl); (case k2 => exact rfl); k_whole)))
local macro_rules | `(tactic| walk_at "pyIter ref") => `(tactic| (refine Stop.mk ?_))
local macro_rules | `(tactic| walk_at "call builtin:len") => `(tactic| (k_here; (with_reducible show wpAny _ _ (call (Value.builtin "len") [Value.ref _]) _ _ _); k_dflt (refine' call_len_list ?hl ?hf ?_; (case hl => exact News.isList (by k_asm) (by k_mem)); (case hf => (simp only [List.size_toArray, List.length_append, List.length_cons, List.length_nil] at *; omega)); k_whole)))
local macro_rules | `(tactic| walk_at "compareOp In int ref") => `(tactic| (k_here; k_dflt (refine' in_reck ?F ?X ?_; (case F => k_asm); (case X => k_asm); k_whole)))
local macro_rules | `(tactic| walk_at "call builtin:list.pop") => `(tactic| (k_here; (with_reducible show wpAny _ _ (call (Value.builtin _) [Value.ref _]) _ _ _); k_dflt (refine' pop_last ?F ?N ?U ?z ?_; (case F => k_asm); (case N => k_asm); (case U => k_upd); (case z => (simp only [List.length_append, List.length_cons, List.length_nil] at *; omega)); k_whole); (intro h' F' N'); (try k_sweep)))
local macro_rules | `(tactic| k_all) => `(tactic| (with_reducible assumption))
local macro_rules | `(tactic| walk_at "call ref") => `(tactic| (k_here; (with_reducible show wpAny _ _ (call (Value.ref 284) _) _ _ _); first | ((k_dflt (refine' RX.use (rk_gen ?hc ?hx ?hy) ?k1 ?k2 ?k3 ?k4 ?k5 ?P ?kk ?hd ?hu ?_ ?thr; (case k1 => k_asm); (case k2 => k_asm); (case k3 => k_asm); (case k4 => k_asm); (case k5 => k_asm); (case hc => assumption); (case hx => assumption); (case hy => assumption); (case P => trivial); (case kk => exact rfl); (case thr => exact fun _ _ _ hf => hf.elim); (case hd => ((try simp only [depth_in1, depth_deeper]); (try dsimp only [kAr, ktrTop]); omega)); (case hu => ((try simp only [units_in1, units_deeper, Around.mark_units]); (try dsimp only [kAr, ktrTop]); omega)); k_whole)); (intro r9 h9 tk9 F9 N9 st9 post9); (obtain ⟨tkr9, hz9⟩ := post9); (subst hz9); (try clear st9); (try dsimp only); (try k_sweep)) | (refine Stop.mk ?_)))
local macro_rules | `(tactic| walk_at "call ref") => `(tactic| (k_here; (with_reducible show wpAny _ _ (call (Value.ref 292) _) _ _ _); (refine Stop.mk ?_)))
local macro_rules | `(tactic| walk_at "call ref") => `(tactic| (k_here; (with_reducible show wpAny _ _ (call (Value.ref 63) _) _ _ _); (refine Stop.mk ?_)))
theorem body_ctr {bd cl fl : Addr} {vs : List Value} {is : List Ins} {cv : List (Option Int)} {fv : List Int} {R : Option (List (Option Int))} (hr : runF cv fv [] is = some R) (hlen : vs.length ≤ 100000) :
    RX prog w mean mg mb 8 299 [.ref bd, .ref cl, .ref fl] (fun h => h.IsList bd vs.toArray ∧ InsRs (inH h) vs is ∧ EnvAt h cl fl cv fv) (fun r => ∃ x, R = some [x] ∧ VR r x) (∀ x, R ≠ some [x]) := by
  intro dp un gd stk base s Q E B X T hP hd hu ret hE
  obtain ⟨hL, hI, hEn⟩ := hP
  have st : s.heap.StaysIn s.heap := fun _ _ e => e
  have hsz : s.heap.objs.size ≤ s.heap.objs.size := Nat.le_refl _
  have N0 : ∀ p ∈ ([] : List (Addr × Obj)), s.heap.get? p.1 = some p.2 ∧ s.heap.get? p.1 = none := fun _ hp => nomatch hp
  refine wpAny_call ?_
  have hlim := Top.nolimit T
  k_dflt (refine' code_gr (binds := [(Str.ofString "body", .ref bd), (Str.ofString "cells", .ref cl), (Str.ofString "funcs", .ref fl)]) st hsz X hlim N0 ?k6 ?k7 ?k8 ?k9 ?kB ?_ ?c5 ?c2 ?c3 ?c4; (case k6 => k_is); (case k7 => k_is); (case k8 => (simp only [recursionLimit]; omega)); (case k9 => exact BindsTo.of_eq rfl); (case c5 => decide); (case kB => exact locs rfl); (case c2 => exact rfl); (case c3 => exact rfl); (case c4 => exact rfl); k_whole)
  clear N0 st hsz
  intro L' h' F' N' l1
  (try dsimp only)
  (try k_fold)
  k_steps
  unfold Stop
  rename Fr _ _ _ _ => Fz
  rename News _ _ _ _ => Nz
  rename_i sA hA0 lA0 hA1
  refine loop_stack (sv₀ := []) (fun k sv => ∃ st, VRs sv st ∧ runF cv fv st (is.drop k) = some R ∧ sv.length ≤ k) [Str.ofString "code", Str.ofString "second", Str.ofString "first"] rfl hL Fz Nz ⟨[], .nil, hr, Nat.le_refl _⟩ ?turn ?done
  case done =>
    clear Fz Nz
    intro u sv n h tk hJ F1 N1
    obtain ⟨st, hst, hrun, hln⟩ := hJ
    have hdrop : is.drop vs.length = [] := by rw [hI.length]; exact List.drop_length
    rw [hdrop] at hrun
    simp only [runF] at hrun
    have hRs : R = some st := by cases hrun; rfl
    clear hrun hr
    have hslen := hst.length
    by_cases h1 : st.length = 1
    · obtain ⟨x, rfl⟩ : ∃ x, st = [x] := List.length_eq_one_iff.mp h1
      cases hst with
      | cons a1 a2 =>
        cases a2
        clear hE
        rename_i v1
        have hh1 : handedIn v1 = true := by
          cases x with
          | none => rw [show v1 = Value.none from a1]; rfl
          | some i => obtain ⟨t1, rfl⟩ := (a1 : ∃ tk, v1 = Value.int i tk); rfl
        show wpAny _ _ _ _ _ _
        (try k_fold)
        k_steps
        · exfalso; simp only [List.size_toArray, List.length_cons, List.length_nil] at *; omega
        rename Fr _ _ _ _ => Fy
        exact ret _ _ _ Fy.keep ⟨x, hRs, a1⟩
    · have hn1 : ((sv.toArray.size : Nat) : Int) ≠ 1 := by simp only [List.size_toArray]; omega
      clear ret
      show wpAny _ _ _ _ _ _
      (try k_fold)
      k_steps
      rotate_left
      · exfalso; omega
      unfold Stop
      rename Fr _ _ _ _ => Fz
      refine misused_call (mean := mean) (mg := mg) (mb := mb) (s := Shared.mk _ _ _ _ _) ?_ ?_ ?_ ?_
      · exact X.keeps Fz.keep
      · exact Top.keeps T Fz.keep
      · (simp only [depth_under_make, depth_deeper]; (try dsimp only [kAr]); omega)
      intro h9 tk9 e9 t9 dx9 st9 hn9 he9
      refine ⟨e9, t9, dx9, rfl, (X.keeps Fz.keep).keeps st9, he9, ?_⟩
      show wpAny _ _ _ _ _ _
      exact thrown_first B Fz st9 hn9 he9 fun h' Th => hE _ _ _ (by intro x9 q; rw [hRs] at q; cases q; exact h1 rfl) Th
  case turn =>
    clear Fz Nz
    intro k v u sv n h tk own hv hJ hoff F1 N1
    obtain ⟨st, hst, hrun, hln⟩ := hJ
    obtain ⟨i, hdr, hIn⟩ := hI.at hv
    obtain ⟨a, tka, tkb, na, rfl, ha⟩ := id hIn
    have hkl : k < vs.length := (List.getElem?_eq_some_iff.mp hv).1
    have hne : ∀ p ∈ own, p.1 ≠ sA := fun p hp => hoff p hp _ (.head _)
    clear hoff hv
    rw [hdr] at hrun
    clear hdr
    obtain ⟨c, xx⟩ := i
    simp only [runF, stepF] at hrun
    have hT : IsTup s.heap a #[.int c tka] ∨ ∃ z, IsTup s.heap a #[.int c tka, .int z tkb] := by
      cases xx with
      | none => exact .inl ⟨_, ha, rfl, _, rfl⟩
      | some z => exact .inr ⟨z, _, ha, rfl, _, rfl⟩
    have hslen := hst.length
    clear ha
    by_cases hR : inR c ∧ 1 < st.length
    · rw [if_pos hR] at hrun
      cases hq : topF c st with
      | none => rw [hq] at hrun; cases hrun
      | some st' =>
        rw [hq] at hrun
        obtain ⟨r, x, y, rfl, rfl, hx, hy⟩ := topF_some hq
        obtain ⟨us, ws, rfl, hu1, hu2⟩ := hst.split
        cases hu2 with
        | cons a1 hu3 => cases hu3 with
          | cons a2 hu4 =>
            cases hu4
            obtain ⟨tx, rfl⟩ := a1
            obtain ⟨ty, rfl⟩ := a2
            have hR1 : inR c := hR.1
            clear hq hR hE ret hst hr hslen
            have e1 : us ++ [Value.int x tx, Value.int y ty] = (us ++ [Value.int x tx]) ++ [Value.int y ty] := by simp
            rw [e1] at N1 hln
            have hgt : (((us ++ [Value.int x tx] ++ [Value.int y ty]).toArray.size : Nat) : Int) > 1 := by simp only [List.size_toArray, List.length_append, List.length_cons, List.length_nil]; omega
            rcases hT with hT | ⟨z, hT⟩ <;> (
              show wpAny _ _ _ _ _ _
              k_fold
              k_steps
              rename Fr _ _ _ _ => Fy
              rename News _ _ _ _ => Ny
              refine StPost.nextI (us ++ [Value.int (opF c x y) _]) Fy Ny ?_ (by exact List.push_toArray _ _) ⟨_, VR.app1 hu1 VR.int, hrun, by simp only [List.length_append, List.length_cons, List.length_nil] at hln ⊢; omega⟩
              · intro z9 h1 h2
                have h3 : z9 ≠ Str.ofString "code" := by intro e9; subst e9; exact absurd h2 (by decide)
                have h4 : z9 ≠ Str.ofString "second" := by intro e9; subst e9; exact absurd h2 (by decide)
                have h5 : z9 ≠ Str.ofString "first" := by intro e9; subst e9; exact absurd h2 (by decide)
                simp only [if_neg h1, if_neg h3, if_neg h4, if_neg h5, h2, Bool.false_eq_true, if_false])
    · rw [if_neg hR] at hrun
      have hcase : ¬ inR c ∨ (inR c ∧ ¬ (((sv.toArray.size : Nat) : Int) > 1)) := by
        by_cases h9 : inR c
        · refine .inr ⟨h9, ?_⟩; simp only [List.size_toArray]; intro h8; exact hR ⟨h9, by omega⟩
        · exact .inl h9
      clear hR
      by_cases h11 : c = 11
      · subst h11
        rw [if_pos rfl] at hrun
        have hnr : ¬ inR 11 := by decide
        clear hcase hE ret hr
        rcases hT with hT | ⟨z, hT⟩ <;> (
          show wpAny _ _ _ _ _ _
          k_fold
          k_steps
          rename Fr _ _ _ _ => Fy
          rename News _ _ _ _ => Ny
          refine StPost.nextI sv Fy Ny ?_ rfl ⟨_, hst, hrun, by omega⟩
          · intro z9 h1 h2
            have h3 : z9 ≠ Str.ofString "code" := by intro e9; subst e9; exact absurd h2 (by decide)
            have h4 : z9 ≠ Str.ofString "second" := by intro e9; subst e9; exact absurd h2 (by decide)
            have h5 : z9 ≠ Str.ofString "first" := by intro e9; subst e9; exact absurd h2 (by decide)
            simp only [if_neg h1, if_neg h3, if_neg h4, if_neg h5, h2, Bool.false_eq_true, if_false])
      · rw [if_neg h11] at hrun
        have hne11 : c ≠ 11 := h11
        have hnL : ∀ {h : Heap} {m : Str → Option Value}, Fr s.heap L' h m → s.heap.get? L' = none := fun F => fr_none F
        cases hq : leafF cv fv ⟨c, xx⟩ with
        | none => rw [hq] at hrun; cases hrun
        | some res =>
        rw [hq] at hrun
        rcases hcase with hnr | ⟨hyr, hnl⟩
        · rcases hT with hT | ⟨z, hT⟩ <;> (
            show wpAny _ _ _ _ _ _
            k_fold
            k_steps
            rotate_left
            · exfalso; first | omega | (simp_all; done) | exact hne11 (by simp_all)
            unfold Stop
            rename Fr _ _ _ _ => Fc
            rename News _ _ _ _ => Nc
            cases res with
            | none =>
              have hRn : R = none := by cases hrun; rfl
              refine RX.use (leaf_gen hq) B Fc Nc X T ⟨hIn.mono Fc.keep, hEn.keeps Fc.keep⟩ rfl ?_ ?_ ?_ ?_
              · (try dsimp only [kAr, ktrTop]); omega
              · (show un + 3 + 8 * 5 + 400 < 9900); omega
              · intro r9 h9 tk9 F9 N9 st9 post9
                obtain ⟨x9, e9, _⟩ := post9
                cases e9
              · intro e9 h9 tk9 _ Th9
                show wpAny _ _ _ _ _ _
                exact thrown_next B Fc.keep (hnL Fc) Th9 fun h' Th' => hE _ _ _ (by intro x9; rw [hRn]; exact fun q => nomatch q) Th'
            | some x =>
              refine RX.use (leaf_gen hq) B Fc Nc X T ⟨hIn.mono Fc.keep, hEn.keeps Fc.keep⟩ rfl ?_ ?_ ?_ ?_
              · (try dsimp only [kAr, ktrTop]); omega
              · (show un + 3 + 8 * 5 + 400 < 9900); omega
              · intro r9 h9 tk9 F9 N9 st9 post9
                obtain ⟨x9, e9, hv9⟩ := post9
                cases e9
                clear Fc Nc st9
                show wpAny _ _ _ _ _ _
                k_steps
                rename Fr _ _ _ _ => Fy
                rename News _ _ _ _ => Ny
                refine StPost.nextI (sv ++ [r9]) Fy Ny ?_ (by exact List.push_toArray _ _) ⟨_, VR.app1 hst hv9, hrun, by simp only [List.length_append, List.length_cons, List.length_nil]; omega⟩
                intro z9 h1 h2
                have h3 : z9 ≠ Str.ofString "code" := by intro e9; subst e9; exact absurd h2 (by decide)
                have h4 : z9 ≠ Str.ofString "second" := by intro e9; subst e9; exact absurd h2 (by decide)
                have h5 : z9 ≠ Str.ofString "first" := by intro e9; subst e9; exact absurd h2 (by decide)
                simp only [if_neg h1, if_neg h3, if_neg h4, if_neg h5, h2, Bool.false_eq_true, if_false]
              · intro e9 h9 tk9 hf _
                cases hf)
        · rcases hT with hT | ⟨z, hT⟩ <;> (
            show wpAny _ _ _ _ _ _
            k_fold
            k_steps
            rotate_left
            · exfalso; first | omega | (simp_all; done) | exact hne11 (by simp_all)
            unfold Stop
            rename Fr _ _ _ _ => Fc
            rename News _ _ _ _ => Nc
            cases res with
            | none =>
              have hRn : R = none := by cases hrun; rfl
              refine RX.use (leaf_gen hq) B Fc Nc X T ⟨hIn.mono Fc.keep, hEn.keeps Fc.keep⟩ rfl ?_ ?_ ?_ ?_
              · (try dsimp only [kAr, ktrTop]); omega
              · (show un + 3 + 8 * 5 + 400 < 9900); omega
              · intro r9 h9 tk9 F9 N9 st9 post9
                obtain ⟨x9, e9, _⟩ := post9
                cases e9
              · intro e9 h9 tk9 _ Th9
                show wpAny _ _ _ _ _ _
                exact thrown_next B Fc.keep (hnL Fc) Th9 fun h' Th' => hE _ _ _ (by intro x9; rw [hRn]; exact fun q => nomatch q) Th'
            | some x =>
              refine RX.use (leaf_gen hq) B Fc Nc X T ⟨hIn.mono Fc.keep, hEn.keeps Fc.keep⟩ rfl ?_ ?_ ?_ ?_
              · (try dsimp only [kAr, ktrTop]); omega
              · (show un + 3 + 8 * 5 + 400 < 9900); omega
              · intro r9 h9 tk9 F9 N9 st9 post9
                obtain ⟨x9, e9, hv9⟩ := post9
                cases e9
                clear Fc Nc st9
                show wpAny _ _ _ _ _ _
                k_steps
                rename Fr _ _ _ _ => Fy
                rename News _ _ _ _ => Ny
                refine StPost.nextI (sv ++ [r9]) Fy Ny ?_ (by exact List.push_toArray _ _) ⟨_, VR.app1 hst hv9, hrun, by simp only [List.length_append, List.length_cons, List.length_nil]; omega⟩
                intro z9 h1 h2
                have h3 : z9 ≠ Str.ofString "code" := by intro e9; subst e9; exact absurd h2 (by decide)
                have h4 : z9 ≠ Str.ofString "second" := by intro e9; subst e9; exact absurd h2 (by decide)
                have h5 : z9 ≠ Str.ofString "first" := by intro e9; subst e9; exact absurd h2 (by decide)
                simp only [if_neg h1, if_neg h3, if_neg h4, if_neg h5, h2, Bool.false_eq_true, if_false]
              · intro e9 h9 tk9 hf _
                cases hf)
end
theorem handle63 {prog : Program} {w : World} {A : Around} {E : Value → Shared → Prop} {s : Shared} {env : Env} {e : Addr} {t : PySem.Expr} {b₀ : Stmt} {suite : List Stmt} {pos : Pos} {rest : List ExceptHandler} {Q : Flow → Shared → Prop}
    (h : wpAny (model prog w) (A.mark (some (.ref e))) (eval t env) (fun c s₁ => c = .ref 63 ∧ (Mine.hd.heap_39 w.params).In s₁.heap ∧ (∃ oe, s₁.heap.get? e = some oe ∧ oe.cls = .ref 63) ∧
      wpAny (model prog w) (A.mark (some (.ref e))) (setFlight (.ref e) none) (fun _ s₂ => wpAny (model prog w) (A.mark (some (.ref e))) (execs (b₀ :: suite) env) Q (notedBy (model prog w) (A.mark (some (.ref e))) env (cameBackBy (model prog w) A env E)) s₂) (notedBy (model prog w) (A.mark (some (.ref e))) env (cameBackBy (model prog w) A env E)) s₁) (notedBy (model prog w) (A.mark (some (.ref e))) env (cameBackBy (model prog w) A env E)) s) :
    wpAny (model prog w) A (handleBy (.ref e) env (.ExceptHandler (some t) none (b₀ :: suite) pos :: rest)) Q E s := by
  refine wpAny_handleBy_cons (codeAny_handlers_test (wpAny_mono h (fun c s₁ h₁ => ?_) fun _ _ x => x)) (by intro q; cases q)
  obtain ⟨rfl, X, ⟨oe, he, hcls⟩, hk⟩ := h₁
  obtain ⟨nm, q, bs, sn, sub, ab, col, dd, k0, k1, k2, k3, k5, hC⟩ := cls_at X
  obtain ⟨hp, g, d, tk, os⟩ := s₁
  refine wpAny_excMatches_sub_self hC he hcls (by decide +kernel) ?_
  exact codeAny_handlers_suite hk
def ROB (prog : Program) (w : World) (mean : ExcName → Option Value) (mg mb : Str → Option Value) (need : Nat) (f : Addr) (vals : List Value) (P : Heap → Prop) (Post : Value → Prop) : Prop :=
  ∀ ⦃dp un : Nat⦄ ⦃gd : Option (List Code)⦄ ⦃stk : List Env⦄ ⦃base : Heap⦄ ⦃s : Shared⦄ ⦃Q E : Value → Shared → Prop⦄,
    Below (kAr dp un gd stk) base stk s.heap → (Mine.hd.heap_39 w.params).In s.heap → kTop mean mg mb s.heap → (Mine.hd.heap_39 w.params).In base → kTop mean mg mb base → P s.heap →
    dp + need < 1000 → un + 8 * need + 400 < 9900 →
    (∀ r h' tk, (∀ b o, s.heap.get? b = some o → b ∉ stk.filterMap (·.frame) → h'.get? b = some o) → s.heap.UpToSlots h' → Post r → Q r { s with heap := h', toks := tk }) →
    wpAny (model prog w) (kAr dp un gd stk) (call (.ref f) vals) Q E s
section
variable {prog : Program} {w : World} {mean : ExcName → Option Value} {mg mb : Str → Option Value}
local macro_rules | `(tactic| walk_at "call ref") => `(tactic| (k_here; (with_reducible show wpAny _ _ (call (Value.ref 299) _) _ _ _); (refine Stop.mk ?_)))
theorem refused_ctr {bd cl fl : Addr} {vs : List Value} {is : List Ins} {cv : List (Option Int)} {fv : List Int} {R : Option (List (Option Int))} (hr : runF cv fv [] is = some R) (hlen : vs.length ≤ 100000) (hR : ∀ x, R ≠ some [x]) :
    ROB prog w mean mg mb 12 390 [.ref bd, .ref cl, .ref fl] (fun h => h.IsList bd vs.toArray ∧ InsRs (inH h) vs is ∧ EnvAt h cl fl cv fv) (fun r => r = .bool true) := by
  intro dp un gd stk base s Q E B X T Xb Tb hP hd hu ret
  have st : s.heap.StaysIn s.heap := fun _ _ e => e
  have hsz : s.heap.objs.size ≤ s.heap.objs.size := Nat.le_refl _
  have N0 : ∀ p ∈ ([] : List (Addr × Obj)), s.heap.get? p.1 = some p.2 ∧ s.heap.get? p.1 = none := fun _ hp => nomatch hp
  refine wpAny_call ?_
  have hlim := Top.nolimit T
  k_dflt (refine' code_gr (binds := [(Str.ofString "body", .ref bd), (Str.ofString "cells", .ref cl), (Str.ofString "funcs", .ref fl)]) st hsz X hlim N0 ?k6 ?k7 ?k8 ?k9 ?kB ?_ ?c5 ?c2 ?c3 ?c4; (case k6 => k_is); (case k7 => k_is); (case k8 => (simp only [recursionLimit]; omega)); (case k9 => exact BindsTo.of_eq rfl); (case c5 => decide); (case kB => exact locs rfl); (case c2 => exact rfl); (case c3 => exact rfl); (case c4 => exact rfl); k_whole)
  clear N0 st hsz
  intro L' h' F' N' l1
  (try dsimp only)
  (try k_fold)
  k_steps
  unfold Stop
  rename Fr _ _ _ _ => Fc
  rename News _ _ _ _ => Nc
  refine RX.use (body_ctr hr hlen) B Fc Nc X T (by obtain ⟨h1, h2, h3⟩ := hP; exact ⟨stays_list Fc.keep h1, h2.mono Fc.keep, h3.keeps Fc.keep⟩) rfl ?_ ?_ ?_ ?_
  · (try dsimp only [kAr, ktrTop]); omega
  · (show un + 3 + 8 * 8 + 400 < 9900); omega
  · intro r9 h9 tk9 F9 N9 st9 post9
    obtain ⟨x9, e9, _⟩ := post9
    exact absurd e9 (hR x9)
  · intro e9 h9 tk9 _ Th9
    have hL : s.heap.get? L' = none := fr_none Fc
    obtain ⟨B', a0, hb0, hB, hfl, hup⟩ := Th9
    refine wpAny_looks_onW (Around.frames_deeper B.stack) rfl hfl fun h₄ hheld₄ hsm₄ => ?_
    refine wpAny_landsW hheld₄ fun h₅ hheld hsm₅ => ?_
    have kb : base.StaysIn h₅ := fun b o q => hheld.1 b o (hb0 b o q)
    refine handle63 (Calls.Name_function_global rfl rfl (Calls.loadGlobal_global (Tb.g.keeps kb) (mg_of (n := Str.ofString "Misused") (v := .ref 63) Xb Tb.g (by k_is)) ⟨rfl, Xb.keeps kb, hheld.there, ?_⟩) (by decide))
    refine lands_againW hheld fun h₆ hfl₆ hsm₆ => ?_
    have k6 : ∀ b o, s.heap.get? b = some o → b ∉ stk.filterMap (·.frame) → h₆.get? b = some o := fun b o q hn => hfl₆.1 _ _ (hB b o (Fc.keep b o q) fun hm => by
      rw [List.filterMap_cons] at hm
      rcases List.mem_cons.mp hm with q2 | hm
      · rw [q2] at q
        have : s.heap.get? L' = some o := q
        rw [hL] at this; cases this
      · exact hn hm)
    have u6 : s.heap.UpToSlots h₆ := ((((Heap.UpToSlots.of_keeps Fc.keep).trans hup).trans hsm₄).trans hsm₅).trans hsm₆
    clear hB hup hsm₄ hsm₅ hsm₆ hfl hheld₄ hheld hfl₆
    k_steps
    exact ret _ _ _ k6 u6 rfl
end
def ValsAt (h : Heap) (vl : Addr) (cv : List (Option Int)) : Prop := ∃ vv : List Value, h.IsList vl vv.toArray ∧ ∀ i, i < 4 → ∃ x tk, vv[i]? = some (.int x tk) ∧ cv[i]? = some (some x)
theorem ValsAt.keeps {h h' : Heap} {vl : Addr} {cv : List (Option Int)} (x : ValsAt h vl cv) (k : ∀ b o, h.get? b = some o → h'.get? b = some o) : ValsAt h' vl cv := let ⟨vv, a, b⟩ := x; ⟨vv, stays_list k a, b⟩
def md (b : Int) : Int := if b = 32 then 4294967296 else 18446744073709551616
def Op3.ev : Op3 → Int → Int → Int
  | .sub, x, y => x - y
  | .add, x, y => x + y
  | .mul, x, y => x * y
def cellI (cv : List (Option Int)) (i : Int) : Int := match cv[i.toNat]? with
  | some (some x) => x
  | _ => 0
def due (b : Int) (cv : List (Option Int)) : Tr → Int
  | .num z => z % md b
  | .cel i => cellI cv i
  | .op k x y => (k.ev (due b cv x) (due b cv y)) % md b
def CvOk (b : Int) (cv : List (Option Int)) : Prop := ∀ i : Int, 0 ≤ i → i < 4 → inB (cellI cv i)
theorem md_pos (b : Int) : 0 < md b := by unfold md; split <;> decide
theorem md_le (b : Int) : md b ≤ 18446744073709551616 := by unfold md; split <;> decide
theorem due_in {b : Int} {cv : List (Option Int)} (hc : CvOk b cv) : ∀ {t : Tr} {d : Int}, TreeOk b d t → inB (due b cv t)
  | .num z, _, _ => ⟨Int.emod_nonneg _ (Int.ne_of_gt (md_pos b)), Int.lt_of_lt_of_le (Int.emod_lt_of_pos _ (md_pos b)) (md_le b)⟩
  | .cel i, _, h => hc i (by simp only [TreeOk] at h; omega) (by simp only [TreeOk] at h; omega)
  | .op _ _ _, _, _ => ⟨Int.emod_nonneg _ (Int.ne_of_gt (md_pos b)), Int.lt_of_lt_of_le (Int.emod_lt_of_pos _ (md_pos b)) (md_le b)⟩
def Tr.depth : Tr → Nat
  | .num _ => 0
  | .cel _ => 0
  | .op _ x y => max x.depth y.depth + 1
theorem depth_le {b : Int} : ∀ {t : Tr} {d : Int}, TreeOk b d t → (t.depth : Int) ≤ max d 0
  | .num _, d, _ => by simp only [Tr.depth]; omega
  | .cel _, d, _ => by simp only [Tr.depth]; omega
  | .op _ x y, d, h => by
    simp only [TreeOk] at h
    have h1 := depth_le h.2.1
    have h2 := depth_le h.2.2
    simp only [Tr.depth]
    omega
theorem fm_md {b : Int} (hb : b = 32 ∨ b = 64) (z : Int) : z.fmod (2 ^ Int.toNat b) = z % md b := by
  rcases hb with rfl | rfl
  · exact Int.fmod_eq_emod_of_nonneg _ (by decide)
  · exact Int.fmod_eq_emod_of_nonneg _ (by decide)
section
local macro_rules | `(tactic| walk_at "pad") => `(tactic| skip)
variable {prog : Program} {w : World} {mean : ExcName → Option Value} {mg mb : Str → Option Value}
def Stop2 (p : Prop) : Prop := p
theorem Stop2.mk {p : Prop} (h : Stop2 p) : p := h
def DueC (prog : Program) (w : World) (mean : ExcName → Option Value) (mg mb : Str → Option Value) (b : Int) (cv : List (Option Int)) (vl : Addr) (t : Tr) : Prop :=
  ∀ ⦃v : Value⦄ ⦃tk : Tok⦄, RO prog w mean mg mb (t.depth + 2) 383 [v, .int b tk, .ref vl] (fun h => TreeR (inH h) v t ∧ ValsAt h vl cv) (fun r => ∃ tk, r = .int (due b cv t) tk)
theorem DueC.use {b : Int} {cv : List (Option Int)} {vl : Addr} {t : Tr} {h₀ hz : Heap} {v : Value} {tk : Tok} {A₀ : Around} {base : Heap} {outer : List Env} {L : Addr} {s : Shared} {m : Str → Option Value} {news : List (Addr × Obj)} {dp un : Nat} {gd : Option (List Code)} {cn : Str} {cs : Scope} {a : Addr} {ccd : Value} {cl : List (Str × Addr)} {Q E : Value → Shared → Prop}
    (C : DueC prog w mean mg mb b cv vl t) (R : TreeR (inH hz) v t) (V : ValsAt hz vl cv)
    (B : Below A₀ base outer h₀) (F : Fr h₀ L s.heap m) (N : News h₀ L s.heap news) (X : (Mine.hd.heap_39 w.params).In h₀) (T : kTop mean mg mb h₀)
    (hP : ∀ a o, hz.get? a = some o → s.heap.get? a = some o) (hk : cs.kind = .function) (hd : dp + (t.depth + 2) < 1000) (hu : un + 8 * (t.depth + 2) + 400 < 9900)
    (ret : ∀ h' tk tkr, Fr h₀ L h' m → News h₀ L h' news → s.heap.StaysIn h' → Q (.int (due b cv t) tkr) { s with heap := h', toks := tk }) :
    wpAny (model prog w) (ktrTop dp un gd cn cs L a ccd cl outer) (call (.ref 383) [v, .int b tk, .ref vl]) Q E s := by
  refine RO.use (P := fun h => TreeR (inH h) v t ∧ ValsAt h vl cv) (PostR := fun r => ∃ tk, r = .int (due b cv t) tk) ?_ B F N X T ⟨R.mono hP, V.keeps hP⟩ hk hd hu ?_
  · intro dp un gd stk base s Q E B X T hP hd hu ret
    exact C B X T hP hd hu ret
  · intro r h' tk F N st hp
    obtain ⟨tkr, rfl⟩ := hp
    exact ret h' tk tkr F N st
local macro_rules | `(tactic| walk_at "call ref") => `(tactic| (k_here; (with_reducible show wpAny _ _ (call (Value.ref 383) _) _ _ _); (k_dflt (refine' DueC.use ?C ?R ?V ?k1 ?k2 ?k3 ?k4 ?k5 ?P ?kk ?hd ?hu ?_; (case R => with_reducible assumption); (case C => with_reducible assumption); (case V => with_reducible assumption); (case k1 => k_asm); (case k2 => k_asm); (case k3 => k_asm); (case k4 => k_asm); (case k5 => k_asm); (case P => exact Fr.keep (by k_asm)); (case kk => exact rfl); (case hd => ((try simp only [depth_in1, depth_deeper]); (try dsimp only [kAr, ktrTop]); omega)); (case hu => ((try simp only [units_in1, units_deeper, Around.mark_units]); (try dsimp only [kAr, ktrTop]); omega)); k_whole)); (intro h9 tk9 tkr9 F9 N9 st9); (try clear st9); (try dsimp only); (try k_sweep)))
theorem due_num {b : Int} (hb : b = 32 ∨ b = 64) {cv : List (Option Int)} {vl : Addr} {z : Int} : DueC prog w mean mg mb b cv vl (.num z) := by
  intro v tk dp un gd stk base s Q E B X T hP hd hu ret
  obtain ⟨hP, hV⟩ := hP
  have st : s.heap.StaysIn s.heap := fun _ _ e => e
  have hsz : s.heap.objs.size ≤ s.heap.objs.size := Nat.le_refl _
  have N0 : ∀ p ∈ ([] : List (Addr × Obj)), s.heap.get? p.1 = some p.2 ∧ s.heap.get? p.1 = none := fun _ hp => nomatch hp
  cases hP with
  | @num a t1 t2 n _ hG =>
  have hT : IsTup s.heap a #[.str (Str.ofString "n") t1, .int z t2] := ⟨_, hG, rfl, n, rfl⟩
  refine wpAny_call ?_
  have hlim := Top.nolimit T
  k_dflt (refine' code_gr (binds := [(Str.ofString "tree", .ref a), (Str.ofString "bits", .int b tk), (Str.ofString "values", .ref vl)]) st hsz X hlim N0 ?k6 ?k7 ?k8 ?k9 ?kB ?_ ?c5 ?c2 ?c3 ?c4; (case k6 => k_is); (case k7 => k_is); (case k8 => (simp only [recursionLimit]; omega)); (case k9 => exact BindsTo.of_eq rfl); (case c5 => decide); (case kB => exact locs rfl); (case c2 => exact rfl); (case c3 => exact rfl); (case c4 => exact rfl); k_whole)
  clear N0 st hsz
  intro L' h' F' N' l1
  (try dsimp only)
  rcases hb with hb | hb <;> (
    subst hb
    (try k_fold)
    k_steps)
  · rename Fr _ _ _ _ => Fz
    exact ret _ _ _ Fz.keep ⟨_, congrArg (fun x => Value.int x _) (fm_md (.inl rfl) z)⟩
  · rename Fr _ _ _ _ => Fz
    exact ret _ _ _ Fz.keep ⟨_, congrArg (fun x => Value.int x _) (fm_md (.inr rfl) z)⟩
local macro_rules | `(tactic| walk_at "subscriptTail") => `(tactic| (k_here; (with_reducible show wpAny _ _ (subscriptTail _ _ (Value.ref _) (Value.int _ _)) _ _ _); (k_dflt (refine' list_item ?hl ?h0 ?hhi ?hx ?_; (case hl => exact stays_list (Fr.keep (by k_asm)) (by assumption)); (case hx => assumption); (case h0 => omega); (case hhi => omega); k_whole))))
theorem due_cel {b : Int} (hb : b = 32 ∨ b = 64) {cv : List (Option Int)} {vl : Addr} {i : Int} (h0i : 0 ≤ i) (h4i : i < 4) : DueC prog w mean mg mb b cv vl (.cel i) := by
  intro v tk dp un gd stk base s Q E B X T hP hd hu ret
  obtain ⟨hP, hV⟩ := hP
  have st : s.heap.StaysIn s.heap := fun _ _ e => e
  have hsz : s.heap.objs.size ≤ s.heap.objs.size := Nat.le_refl _
  have N0 : ∀ p ∈ ([] : List (Addr × Obj)), s.heap.get? p.1 = some p.2 ∧ s.heap.get? p.1 = none := fun _ hp => nomatch hp
  cases hP with
  | @cel a t1 t2 n _ hG =>
  have hT : IsTup s.heap a #[.str (Str.ofString "c") t1, .int i t2] := ⟨_, hG, rfl, n, rfl⟩
  obtain ⟨vv, hVl, hV⟩ := hV
  obtain ⟨x, tx, hx, hcx⟩ := hV i.toNat (by omega)
  have hlt : i.toNat < vv.length := (List.getElem?_eq_some_iff.mp hx).1
  have hdue : due b cv (.cel i) = x := by simp only [due, cellI, hcx]
  refine wpAny_call ?_
  have hlim := Top.nolimit T
  k_dflt (refine' code_gr (binds := [(Str.ofString "tree", .ref a), (Str.ofString "bits", .int b tk), (Str.ofString "values", .ref vl)]) st hsz X hlim N0 ?k6 ?k7 ?k8 ?k9 ?kB ?_ ?c5 ?c2 ?c3 ?c4; (case k6 => k_is); (case k7 => k_is); (case k8 => (simp only [recursionLimit]; omega)); (case k9 => exact BindsTo.of_eq rfl); (case c5 => decide); (case kB => exact locs rfl); (case c2 => exact rfl); (case c3 => exact rfl); (case c4 => exact rfl); k_whole)
  clear N0 st hsz
  intro L' h' F' N' l1
  (try dsimp only)
  (try k_fold)
  k_steps
  all_goals (
    rename Fr _ _ _ _ => Fz
    exact ret _ _ _ Fz.keep ⟨_, congrArg (fun x => Value.int x _) hdue.symm⟩)
local macro_rules | `(tactic| walk_at "evalPairs") => `(tactic| (k_here; dsimp only))
local macro_rules | `(tactic| walk_at "KdnMade") => `(tactic| (k_here; dsimp only))
local macro_rules | `(tactic| walk_at "subscriptTail") => `(tactic| (k_here; dsimp only))
theorem due_op {b : Int} (hb : b = 32 ∨ b = 64) {cv : List (Option Int)} {vl : Addr} (hc : CvOk b cv) {d : Int} {k : Op3} {x y : Tr} (hx : TreeOk b d x) (hy : TreeOk b d y) (Cx : DueC prog w mean mg mb b cv vl x) (Cy : DueC prog w mean mg mb b cv vl y) : DueC prog w mean mg mb b cv vl (.op k x y) := by
  intro v tk dp un gd stk base s Q E B X T hP hd hu ret
  obtain ⟨hP, hV⟩ := hP
  have st : s.heap.StaysIn s.heap := fun _ _ e => e
  have hsz : s.heap.objs.size ≤ s.heap.objs.size := Nat.le_refl _
  have N0 : ∀ p ∈ ([] : List (Addr × Obj)), s.heap.get? p.1 = some p.2 ∧ s.heap.get? p.1 = none := fun _ hp => nomatch hp
  have hbx := due_in hc hx
  have hby := due_in hc hy
  generalize gx : due b cv x = dx at hbx
  generalize gy : due b cv y = dy at hby
  obtain ⟨hbx0, hbx1⟩ := hbx
  obtain ⟨hby0, hby1⟩ := hby
  have hdx : x.depth + 1 ≤ (Tr.op k x y).depth := by simp only [Tr.depth]; omega
  have hdy : y.depth + 1 ≤ (Tr.op k x y).depth := by simp only [Tr.depth]; omega
  cases hP with
  | @op a t1 n _ v1 v2 _ _ hG hR1 hR2 =>
  refine wpAny_call ?_
  have hlim := Top.nolimit T
  k_dflt (refine' code_gr (binds := [(Str.ofString "tree", .ref a), (Str.ofString "bits", .int b tk), (Str.ofString "values", .ref vl)]) st hsz X hlim N0 ?k6 ?k7 ?k8 ?k9 ?kB ?_ ?c5 ?c2 ?c3 ?c4; (case k6 => k_is); (case k7 => k_is); (case k8 => (simp only [recursionLimit]; omega)); (case k9 => exact BindsTo.of_eq rfl); (case c5 => decide); (case kB => exact locs rfl); (case c2 => exact rfl); (case c3 => exact rfl); (case c4 => exact rfl); k_whole)
  clear N0 st hsz
  intro L' h' F' N' l1
  (try dsimp only)
  cases k
  all_goals (
    have hT : IsTup s.heap a #[.str _ t1, v1, v2] := ⟨_, hG, rfl, n, rfl⟩
    dsimp only [Op3.nm] at hT
    (try k_fold)
    k_steps
    rename Fr _ _ _ _ => Fz
    exact ret _ _ _ Fz.keep ⟨_, congrArg (fun x => Value.int x _) (fm_md hb _)⟩)
theorem due_all {b : Int} (hb : b = 32 ∨ b = 64) {cv : List (Option Int)} {vl : Addr} (hc : CvOk b cv) : ∀ {t : Tr} {d : Int}, TreeOk b d t → DueC prog w mean mg mb b cv vl t
  | .num _, _, _ => due_num hb
  | .cel i, _, h => due_cel hb (by simp only [TreeOk] at h; omega) (by simp only [TreeOk] at h; omega)
  | .op _ _ _, _, h => due_op hb hc h.2.1 h.2.2 (due_all hb hc h.2.1) (due_all hb hc h.2.2)
end
def Op3.opc : Op3 → Int
  | .sub => 107
  | .add => 106
  | .mul => 108
def codeOf (b : Int) : Tr → List Ins
  | .num z => [⟨if b = 32 then 65 else 66, some z⟩]
  | .cel i => [⟨35, some i⟩]
  | .op k x y => codeOf b x ++ codeOf b y ++ [⟨k.opc + if b = 32 then 0 else 18, none⟩]
theorem InsRs.app {G : Addr → Obj → Prop} {vs us : List Value} {is js : List Ins} (h : InsRs G vs is) (k : InsRs G us js) : InsRs G (vs ++ us) (is ++ js) := by
  induction h with
  | nil => exact k
  | cons a _ ih => exact .cons a ih
section
variable {prog : Program} {w : World} {mean : ExcName → Option Value} {mg mb : Str → Option Value}
def CodeC (prog : Program) (w : World) (mean : ExcName → Option Value) (mg mb : Str → Option Value) (b : Int) (tr : Tr) : Prop :=
  ∀ ⦃v : Value⦄ ⦃t : Addr⦄ ⦃vs : List Value⦄ ⦃n : Nat⦄ ⦃tk : Tok⦄, vs.length + (codeOf b tr).length ≤ 4000 →
    Mut prog w mean mg mb (tr.depth + 2) 376 [v, .int b tk, .ref t] t (listOf vs.toArray n) (fun g => TreeR (inH g) v tr)
      (fun r o' tl => r = .none ∧ ∃ new n', o' = listOf (List.toArray (vs ++ new)) n' ∧ InsRs (inL tl) new (codeOf b tr))
theorem CodeC.use {b : Int} {tr : Tr} {v : Value} {t : Addr} {vs : List Value} {n : Nat} {tk : Tok} {dp un : Nat} {gd : Option (List Code)} {cn : Str} {cs : Scope} {L a : Addr} {ccd : Value} {cl : List (Str × Addr)} {outer : List Env} {A₀ : Around} {base h₀ : Heap} {m : Str → Option Value} {news : List (Addr × Obj)} {up : Obj → List (Addr × Obj)} {s : Shared} {Q E : Value → Shared → Prop}
    (C : CodeC prog w mean mg mb b tr) (hlen : vs.length + (codeOf b tr).length ≤ 4000)
    (B : Below A₀ base outer h₀) (F : Fr h₀ L s.heap m) (N : News h₀ L s.heap news) (X : (Mine.hd.heap_39 w.params).In h₀) (T : kTop mean mg mb h₀)
    (U : ∀ o', Upd t (listOf vs.toArray n) o' news (up o')) (hP : ∀ g : Heap, h₀.StaysIn g → (∀ p ∈ news, p.1 ≠ t → g.get? p.1 = some p.2) → TreeR (inH g) v tr)
    (hk : cs.kind = .function) (hd : dp + (tr.depth + 2) < 1000) (hu : un + 8 * (tr.depth + 2) + 400 < 9900)
    (ret : ∀ h' tl tk new n', Fr h₀ L h' m → News h₀ L h' (up (listOf (List.toArray (vs ++ new)) n') ++ tl) → Off tl news → InsRs (inL tl) new (codeOf b tr) → new.length = (codeOf b tr).length → Q .none { s with heap := h', toks := tk }) :
    wpAny (model prog w) (ktrTop dp un gd cn cs L a ccd cl outer) (call (.ref 376) [v, .int b tk, .ref t]) Q E s := by
  refine Mut.use (P := fun g => TreeR (inH g) v tr) (Post := fun r o' tl => r = .none ∧ ∃ new n', o' = listOf (List.toArray (vs ++ new)) n' ∧ InsRs (inL tl) new (codeOf b tr)) ?_ B F N X T U hP hk hd hu ?_
  · intro dp un gd stk base g s Q E B st hsz X T ht hg hP hd hu ret
    exact C hlen B st hsz X T ht hg hP hd hu ret
  · intro r h' o' tl tk F N off hp
    obtain ⟨rfl, new, n', rfl, hI⟩ := hp
    exact ret h' tl tk new n' F N off hI hI.length
local macro_rules | `(tactic| walk_at "call ref") => `(tactic| (k_here; (with_reducible show wpAny _ _ (call (Value.ref 376) _) _ _ _); (k_dflt (refine' CodeC.use ?C ?hlen ?k1 ?k2 ?k3 ?k4 ?k5 ?U ?P ?kk ?hd ?hu ?_; (case k1 => k_asm); (case k2 => k_asm); (case k3 => k_asm); (case k4 => k_asm); (case k5 => k_asm); (case U => (intro o9; k_upd)); (case P => (intro g9 hg9 _; exact TreeR.mono (by with_reducible assumption) (fun a o => hg9 a o))); (case C => with_reducible assumption); (case hlen => ((try simp only [List.length_append]); omega)); (case kk => exact rfl); (case hd => ((try simp only [depth_in1, depth_deeper]); (try dsimp only [kAr, ktrTop]); omega)); (case hu => ((try simp only [units_in1, units_deeper, Around.mark_units]); (try dsimp only [kAr, ktrTop]); omega)); k_whole)); (intro h9 tl9 tk9 new9 n9 F9 N9 off9 hI9 hln9); (simp only [List.cons_append, List.nil_append, List.append_assoc] at N9); (try dsimp only); (try k_sweep)))
theorem code_num {b : Int} (hb : b = 32 ∨ b = 64) {z : Int} : CodeC prog w mean mg mb b (.num z) := by
  intro v t vs n tk hlen dp un gd stk base g s Q E B st hsz X T ht hg hP hd hu ret
  have N0 : ∀ p ∈ [(t, (listOf vs.toArray n : Obj))], s.heap.get? p.1 = some p.2 ∧ g.get? p.1 = none := by
    intro p hp; rw [List.mem_singleton.mp hp]; exact ⟨ht, hg⟩
  cases hP with
  | @num a t1 t2 n _ hG =>
  have hT : IsTup g a #[.str (Str.ofString "n") t1, .int z t2] := ⟨_, hG, rfl, n, rfl⟩
  refine wpAny_call ?_
  have hlim := Top.nolimit T
  k_dflt (refine' code_gr (binds := [(Str.ofString "tree", .ref a), (Str.ofString "bits", .int b tk), (Str.ofString "out", .ref t)]) st hsz X hlim N0 ?k6 ?k7 ?k8 ?k9 ?kB ?_ ?c5 ?c2 ?c3 ?c4; (case k6 => k_is); (case k7 => k_is); (case k8 => (simp only [recursionLimit]; omega)); (case k9 => exact BindsTo.of_eq rfl); (case c5 => decide); (case kB => exact locs rfl); (case c2 => exact rfl); (case c3 => exact rfl); (case c4 => exact rfl); k_whole)
  clear N0 st hsz ht
  intro L' h' F' N' l1
  (try k_lt l1)
  (try dsimp only)
  rcases hb with hb | hb <;> (
    subst hb
    (try k_fold)
    k_steps
    rename Fr _ _ _ _ => Fz
    rename News _ _ _ _ => Nz
    exact ret _ _ _ [(_, _)] _ Fz.keep (by exact Nz.get (by k_mem)) (by intro p hp; rw [List.mem_singleton.mp hp]; exact ⟨Nz.get (.head _), Nz.fresh (.head _), by k_ne⟩) ⟨rfl, [_], _, congrArg (fun q => listOf q _) (List.push_toArray _ _), .cons ⟨_, _, _, _, rfl, List.mem_singleton.mpr rfl⟩ .nil⟩)
theorem code_cel {b : Int} (hb : b = 32 ∨ b = 64) {z : Int} : CodeC prog w mean mg mb b (.cel z) := by
  intro v t vs n tk hlen dp un gd stk base g s Q E B st hsz X T ht hg hP hd hu ret
  have N0 : ∀ p ∈ [(t, (listOf vs.toArray n : Obj))], s.heap.get? p.1 = some p.2 ∧ g.get? p.1 = none := by
    intro p hp; rw [List.mem_singleton.mp hp]; exact ⟨ht, hg⟩
  cases hP with
  | @cel a t1 t2 n _ hG =>
  have hT : IsTup g a #[.str (Str.ofString "c") t1, .int z t2] := ⟨_, hG, rfl, n, rfl⟩
  refine wpAny_call ?_
  have hlim := Top.nolimit T
  k_dflt (refine' code_gr (binds := [(Str.ofString "tree", .ref a), (Str.ofString "bits", .int b tk), (Str.ofString "out", .ref t)]) st hsz X hlim N0 ?k6 ?k7 ?k8 ?k9 ?kB ?_ ?c5 ?c2 ?c3 ?c4; (case k6 => k_is); (case k7 => k_is); (case k8 => (simp only [recursionLimit]; omega)); (case k9 => exact BindsTo.of_eq rfl); (case c5 => decide); (case kB => exact locs rfl); (case c2 => exact rfl); (case c3 => exact rfl); (case c4 => exact rfl); k_whole)
  clear N0 st hsz ht
  intro L' h' F' N' l1
  (try k_lt l1)
  (try dsimp only)
  (try k_fold)
  k_steps
  all_goals (
    rename Fr _ _ _ _ => Fz
    rename News _ _ _ _ => Nz
    exact ret _ _ _ [(_, _)] _ Fz.keep (by exact Nz.get (by k_mem)) (by intro p hp; rw [List.mem_singleton.mp hp]; exact ⟨Nz.get (.head _), Nz.fresh (.head _), by k_ne⟩) ⟨rfl, [_], _, congrArg (fun q => listOf q _) (List.push_toArray _ _), .cons ⟨_, _, _, _, rfl, List.mem_singleton.mpr rfl⟩ .nil⟩)
theorem op_close {g h' : Heap} {L D dd t : Addr} {oo ob1 ob2 : Obj} {fy : Str → Option Value} {c : Int} {tk : Tok} {vs n1 n2 : List Value} {m n0 : Nat} {tl1 tl2 nw1 nw2 : List (Addr × Obj)} {c1 c2 : List Ins} {P : Prop}
    (F : Fr g L h' fy) (N : News g L h' ((D, tupO [.int c tk] n0) :: (dd, oo) :: (t, listOf ((vs ++ (n1 ++ n2)).toArray.push (.ref D)) m) :: (tl1 ++ tl2))) (lt : D ≠ t)
    (o1 : Off tl1 nw1) (m1 : (t, ob1) ∈ nw1) (o2 : Off tl2 nw2) (m2 : (t, ob2) ∈ nw2) (I1 : InsRs (inL tl1) n1 c1) (I2 : InsRs (inL tl2) n2 c2)
    (ret : ∀ o' tl, g.StaysIn h' → h'.get? t = some o' → (∀ p ∈ tl, h'.get? p.1 = some p.2 ∧ g.get? p.1 = none ∧ p.1 ≠ t) →
      (∃ new n', o' = listOf (List.toArray (vs ++ new)) n' ∧ InsRs (inL tl) new (c1 ++ c2 ++ [⟨c, none⟩])) → P) : P := by
  refine ret _ ((D, tupO [.int c tk] n0) :: (tl1 ++ tl2)) F.keep (N.get (.tail _ (.tail _ (.head _)))) ?_ ?_
  · intro p hp
    rcases List.mem_cons.mp hp with rfl | hp
    · exact ⟨N.get (.head _), N.fresh (.head _), lt⟩
    · have hq := N p (.tail _ (.tail _ (.tail _ hp)))
      refine ⟨hq.1, hq.2.2, ?_⟩
      rcases List.mem_append.mp hp with hp | hp
      · exact off_at o1 m1 p hp
      · exact off_at o2 m2 p hp
  · refine ⟨n1 ++ n2 ++ [.ref D], m, ?_, ((I1.mono fun a o h => .tail _ (List.mem_append.mpr (.inl h))).app (I2.mono fun a o h => .tail _ (List.mem_append.mpr (.inr h)))).app (.cons ⟨D, tk, tk, n0, rfl, .head _⟩ .nil)⟩
    rw [List.push_toArray]; simp only [List.append_assoc]
local macro_rules | `(tactic| walk_at "op fin") => `(tactic| (
  rename Fr _ _ _ _ => Fz
  rename News _ _ _ _ => Nz
  refine' op_close Fz Nz ?lt ?o1 ?m1 ?o2 ?m2 ?I1 ?I2 ?rr
  (case o1 => with_reducible assumption)
  (case o2 => with_reducible assumption)
  (case m1 => exact .head _)
  (case m2 => exact .head _)
  (case I1 => with_reducible assumption)
  (case I2 => with_reducible assumption)
  (case lt => k_ne)))
local macro_rules | `(tactic| walk_at "callWith") => `(tactic| (k_here; refine callWith_method1 ?_))
local macro_rules | `(tactic| walk_at "evalPairs") => `(tactic| (k_here; dsimp only))
local macro_rules | `(tactic| walk_at "KdnMade") => `(tactic| (k_here; dsimp only))
local macro_rules | `(tactic| walk_at "subscriptTail") => `(tactic| (k_here; dsimp only))
theorem code_op {b : Int} (hb : b = 32 ∨ b = 64) {k : Op3} {x y : Tr} (Cx : CodeC prog w mean mg mb b x) (Cy : CodeC prog w mean mg mb b y) : CodeC prog w mean mg mb b (.op k x y) := by
  intro v t vs n tk hlen dp un gd stk base g s Q E B st hsz X T ht hg hP hd hu ret
  have N0 : ∀ p ∈ [(t, (listOf vs.toArray n : Obj))], s.heap.get? p.1 = some p.2 ∧ g.get? p.1 = none := by
    intro p hp; rw [List.mem_singleton.mp hp]; exact ⟨ht, hg⟩
  have hdx : x.depth + 1 ≤ (Tr.op k x y).depth := by simp only [Tr.depth]; omega
  have hdy : y.depth + 1 ≤ (Tr.op k x y).depth := by simp only [Tr.depth]; omega
  have hln : vs.length + ((codeOf b x).length + ((codeOf b y).length + 1)) ≤ 4000 := by
    simp only [codeOf, List.length_append, List.length_cons, List.length_nil] at hlen; omega
  clear hlen
  cases hP with
  | @op a t1 n _ v1 v2 _ _ hG hR1 hR2 =>
  refine wpAny_call ?_
  have hlim := Top.nolimit T
  k_dflt (refine' code_gr (binds := [(Str.ofString "tree", .ref a), (Str.ofString "bits", .int b tk), (Str.ofString "out", .ref t)]) st hsz X hlim N0 ?k6 ?k7 ?k8 ?k9 ?kB ?_ ?c5 ?c2 ?c3 ?c4; (case k6 => k_is); (case k7 => k_is); (case k8 => (simp only [recursionLimit]; omega)); (case k9 => exact BindsTo.of_eq rfl); (case c5 => decide); (case kB => exact locs rfl); (case c2 => exact rfl); (case c3 => exact rfl); (case c4 => exact rfl); k_whole)
  clear N0 st hsz ht
  intro L' h' F' N' l1
  (try k_lt l1)
  (try dsimp only)
  cases k
  all_goals (
    have hT : IsTup g a #[.str _ t1, v1, v2] := ⟨_, hG, rfl, n, rfl⟩
    dsimp only [Op3.nm] at hT
    (try k_fold)
    k_steps
    all_goals (
      walk_at "op fin"
      intro o9 tl9 q1 q2 q3 q4
      refine ret _ _ _ _ _ q1 q2 q3 ⟨rfl, ?_⟩
      obtain ⟨new9, n9, e9, i9⟩ := q4
      refine ⟨new9, n9, e9, ?_⟩
      first | (rename b = 32 => hb9; simp only [codeOf, if_pos hb9]; exact i9) | (rename b ≠ 32 => hb9; simp only [codeOf, if_neg hb9]; exact i9)))
theorem code_all {b : Int} (hb : b = 32 ∨ b = 64) : ∀ tr : Tr, CodeC prog w mean mg mb b tr
  | .num _ => code_num hb
  | .cel _ => code_cel hb
  | .op _ x y => code_op hb (code_all hb x) (code_all hb y)
end
def LawAt (prog : Program) (w : World) (mean : ExcName → Option Value) (mg mb : Str → Option Value) (name : Str) (body : List Stmt) (scope : Scope) : Prop :=
  ∀ ⦃h₀ : Heap⦄ ⦃L fa l0 : Addr⦄ ⦃cdv : Value⦄ ⦃s : Shared⦄ ⦃m : Str → Option Value⦄ ⦃o1 o2 o3 o4 o5 : Obj⦄ ⦃sv : List Value⦄ ⦃ns : List Int⦄ ⦃Q : Flow → Shared → Prop⦄ ⦃E : Value → Shared → Prop⦄,
    (Mine.hd.heap_39 w.params).In h₀ → kTop mean mg mb h₀ → Below callerA h₀ [] h₀ → Fr h₀ L s.heap m → m (Str.ofString "script") = some (.ref l0) →
    News h₀ L s.heap [(L + 1 + 1 + 1 + 1 + 1, o5), (L + 1 + 1 + 1 + 1, o4), (L + 1 + 1 + 1, o3), (L + 1 + 1, o2), (L + 1, o1)] →
    o1.data = .cell none → o2.data = .cell none → o3.data = .cell none → o4.data = .cell none → o5.data = .cell none →
    h₀.IsList l0 sv.toArray → IntsAre sv ns → ns.length ≤ 63 →
    (∀ h' tk m', Fr h₀ L h' m' → Q (.ret (.bool true)) { s with heap := h', toks := tk }) →
    wpAny (model prog w) (callerA.deeper (envOfC name scope L fa cdv)) (execs body (envOfC name scope L fa cdv)) Q E s
theorem law_at_of {prog : Program} {w : World} {mean : ExcName → Option Value} {mg mb : Str → Option Value} {name qual : Str} {params : Arguments} {body : List Stmt} {scope : Scope} {dV kV doc pm cdv ct oc : Value} {an od : Option Addr} {osl : Array (Option Value)}
    {name' qual' : Str} {params' : Arguments} {body' : List Stmt} {scope' : Scope} {dV' kV' doc' pm' cdv' ct' oc' : Value} {an' od' : Option Addr} {osl' : Array (Option Value)}
    (h : (Mine.hd.heap_39 w.params).lookup 395 = some ⟨oc, od, .func (fnOf name qual params body scope dV kV doc pm an cdv ct), osl⟩)
    (h' : (Mine.hd.heap_39 w.params).lookup 395 = some ⟨oc', od', .func (fnOf name' qual' params' body' scope' dV' kV' doc' pm' an' cdv' ct'), osl'⟩)
    (H : LawAt prog w mean mg mb name' body' scope') : LawAt prog w mean mg mb name body scope := by
  have e := h.symm.trans h'
  cases e
  exact H
theorem bits_item {prog : Program} {w : World} {A : Around} {E : Value → Shared → Prop} {s : Shared} {value slice : PySem.Expr} {l : Addr} {t1 t2 : Tok} {k : Int} {u : Tok} {Q : Value → Shared → Prop}
    (hl : s.heap.IsList l #[.int 32 t1, .int 64 t2]) (h0 : 0 ≤ k) (h1 : k < 2) (h : ∀ (b : Int) (tk : Tok), b = 32 ∨ b = 64 → Q (.int b tk) s)
    (hs : subscripted slice false (.ref l) (.int k u) = operate [.ref l, .int k u] (getItem (.ref l) (.int k u)) := by with_unfolding_all rfl) :
    wpAny (model prog w) A (subscriptTail value slice (.ref l) (.int k u)) Q E s := by
  have hc : k = 0 ∨ k = 1 := by omega
  rcases hc with rfl | rfl
  · exact tail_any hl.typeIs slot_list_getitem.lookup (wpAny_getItem_list hl (by decide) (by decide) rfl (h 32 t1 (.inl rfl))) hs
  · exact tail_any hl.typeIs slot_list_getitem.lookup (wpAny_getItem_list hl (by decide) (by decide) rfl (h 64 t2 (.inr rfl))) hs
theorem opt2_item {prog : Program} {w : World} {A : Around} {E : Value → Shared → Prop} {s : Shared} {value slice : PySem.Expr} {l : Addr} {x : Int} {t1 : Tok} {k : Int} {u : Tok} {Q : Value → Shared → Prop}
    (hl : s.heap.IsList l #[.none, .int x t1]) (h0 : 0 ≤ k) (h1 : k < 2) (h : ∀ (v : Value) (y : Option Int), VR v y → Q v s)
    (hs : subscripted slice false (.ref l) (.int k u) = operate [.ref l, .int k u] (getItem (.ref l) (.int k u)) := by with_unfolding_all rfl) :
    wpAny (model prog w) A (subscriptTail value slice (.ref l) (.int k u)) Q E s := by
  have hc : k = 0 ∨ k = 1 := by omega
  rcases hc with rfl | rfl
  · exact tail_any hl.typeIs slot_list_getitem.lookup (wpAny_getItem_list hl (by decide) (by decide) rfl (h .none none rfl)) hs
  · exact tail_any hl.typeIs slot_list_getitem.lookup (wpAny_getItem_list hl (by decide) (by decide) rfl (h _ (some x) ⟨t1, rfl⟩)) hs
theorem opt3_item {prog : Program} {w : World} {A : Around} {E : Value → Shared → Prop} {s : Shared} {value slice : PySem.Expr} {l : Addr} {x y : Int} {t1 t2 : Tok} {k : Int} {u : Tok} {Q : Value → Shared → Prop}
    (hl : s.heap.IsList l #[.none, .int x t1, .int y t2]) (h0 : 0 ≤ k) (h1 : k < 3) (h : ∀ (v : Value) (y : Option Int), VR v y → Q v s)
    (hs : subscripted slice false (.ref l) (.int k u) = operate [.ref l, .int k u] (getItem (.ref l) (.int k u)) := by with_unfolding_all rfl) :
    wpAny (model prog w) A (subscriptTail value slice (.ref l) (.int k u)) Q E s := by
  have hc : k = 0 ∨ k = 1 ∨ k = 2 := by omega
  rcases hc with rfl | rfl | rfl
  · exact tail_any hl.typeIs slot_list_getitem.lookup (wpAny_getItem_list hl (by decide) (by decide) rfl (h .none none rfl)) hs
  · exact tail_any hl.typeIs slot_list_getitem.lookup (wpAny_getItem_list hl (by decide) (by decide) rfl (h _ (some x) ⟨t1, rfl⟩)) hs
  · exact tail_any hl.typeIs slot_list_getitem.lookup (wpAny_getItem_list hl (by decide) (by decide) rfl (h _ (some y) ⟨t2, rfl⟩)) hs
theorem off3_same {I C D : Addr} : ∀ {news news' : List (Addr × Obj)}, LCg.Off3 I C D news → news'.map (·.1) = news.map (·.1) → LCg.Off3 I C D news'
  | [], [], _, _ => trivial
  | [], _ :: _, _, e => by cases e
  | _ :: _, [], _, _ => trivial
  | p :: r, q :: r', h, e => by
    have e1 : q.1 = p.1 ∧ r'.map (·.1) = r.map (·.1) := by simpa using e
    exact ⟨by rw [e1.1]; exact h.1, off3_same h.2 e1.2⟩
theorem comp_end0 {h₀ : Heap} {L I C D : Addr} {m : Str → Option Value} {s₁ : Shared} {oI oC oD : Obj} {S : List (Addr × Obj) → Prop} {rest : Value → List (Addr × Obj) → Prop} {y : Value} {h' : Heap} {tk : Nat} {news news' : List (Addr × Obj)}
    (F : Fr h₀ L h' m) (N : News h₀ L h' ((I, oI) :: (C, oC) :: (D, oD) :: news')) (off : LCg.Off3 I C D news) (e : news'.map (·.1) = news.map (·.1)) (hS : S news') (r : rest y news') :
    LCg.CompEnd h₀ L m s₁ I oI C oC D oD S rest y { s₁ with heap := h', toks := tk } := LCg.CompEnd.intro F N news' (fun _ hp => hp) (off3_same off e) hS r
theorem news_pick {h₀ h : Heap} {L : Addr} {a b c d e x y z p5 p4 p3 p2 p1 : Addr × Obj} {tl : List (Addr × Obj)} (N : News h₀ L h (a :: b :: c :: d :: e :: x :: y :: z :: p5 :: p4 :: p3 :: p2 :: p1 :: tl)) : News h₀ L h (a :: d :: e :: p5 :: p4 :: p3 :: p2 :: p1 :: tl) := by
  intro p hp
  apply N
  simp only [List.mem_cons] at hp ⊢
  rcases hp with h | h | h | h | h | h | h | h | h
  · exact .inl h
  · exact .inr (.inr (.inr (.inl h)))
  · exact .inr (.inr (.inr (.inr (.inl h))))
  all_goals (refine .inr (.inr (.inr (.inr (.inr (.inr (.inr (.inr ?_))))))))
  · exact .inl h
  · exact .inr (.inl h)
  · exact .inr (.inr (.inl h))
  · exact .inr (.inr (.inr (.inl h)))
  · exact .inr (.inr (.inr (.inr (.inl h))))
  · exact .inr (.inr (.inr (.inr (.inr h))))
theorem inB32 {i : Int} (h0 : 0 ≤ i) (h1 : i < 2 ^ Int.toNat 32) : inB i := ⟨h0, Int.lt_of_lt_of_le h1 (by decide)⟩
theorem inB64 {i : Int} (h0 : 0 ≤ i) (h1 : i < 2 ^ Int.toNat 64) : inB i := ⟨h0, Int.lt_of_lt_of_le h1 (by decide)⟩
theorem news_sub {h₀ h : Heap} {L : Addr} {all small : List (Addr × Obj)} (N : News h₀ L h all) (sub : ∀ p ∈ small, p ∈ all) : News h₀ L h small := fun p hp => N p (sub p hp)
theorem allLt_ne {d : Addr} : ∀ {l : List (Addr × Obj)}, AllLt d l → ∀ p ∈ l, p.1 ≠ d
  | [], _ => fun _ h => nomatch h
  | _ :: _, h => fun p hp => by
    rcases List.mem_cons.mp hp with rfl | hp
    · exact Nat.ne_of_lt h.1
    · exact allLt_ne h.2 p hp
theorem off1_ne {d : Addr} : ∀ {l : List (Addr × Obj)}, LCg.Off1 d l → ∀ p ∈ l, p.1 ≠ d
  | [], _ => fun _ h => nomatch h
  | _ :: _, h => fun p hp => by
    rcases List.mem_cons.mp hp with rfl | hp
    · exact h.1
    · exact off1_ne h.2 p hp
theorem off_none {tl : List (Addr × Obj)} : Off tl [] := fun _ h => nomatch h
theorem off_cons {tl news : List (Addr × Obj)} {q : Addr × Obj} (h : ∀ p ∈ tl, p.1 ≠ q.1) (hs : Off tl news) : Off tl (q :: news) := fun r hr => by
  rcases List.mem_cons.mp hr with rfl | hr
  · exact h
  · exact hs r hr
def LawTail (prog : Program) (w : World) (mean : ExcName → Option Value) (mg mb : Str → Option Value) (name : Str) (body : List Stmt) (scope : Scope) : Prop :=
  ∀ ⦃h₀ : Heap⦄ ⦃L fa : Addr⦄ ⦃cdv : Value⦄ ⦃s : Shared⦄ ⦃m : Str → Option Value⦄ ⦃o1 o2 o3 o4 o5 : Obj⦄ ⦃b : Int⦄ ⦃tkb : Tok⦄ ⦃rt ro : Value⦄ ⦃tr tr' : Tr⦄ ⦃tl : List (Addr × Obj)⦄ ⦃kd vl fl : Addr⦄
    ⦃f0 f1 f2 i0 i1 i2 i3 : Int⦄ ⦃g0 g1 g2 t0 t1 t2 t3 k0 k1 k2 k3 k4 k5 : Tok⦄ ⦃v4 v5 : Value⦄ ⦃x4 x5 : Option Int⦄ ⦃nk nv nf : Nat⦄ ⦃Q : Flow → Shared → Prop⦄ ⦃E : Value → Shared → Prop⦄,
    (Mine.hd.heap_39 w.params).In h₀ → kTop mean mg mb h₀ → Below callerA h₀ [] h₀ → Fr h₀ L s.heap m →
    m (Str.ofString "bits") = some (.int b tkb) → m (Str.ofString "tree") = some rt → m (Str.ofString "other") = some ro → b = 32 ∨ b = 64 →
    TreeR (inL tl) rt tr → TreeOk b 4 tr → TreeR (inL tl) ro tr' → TreeOk b 1 tr' → inB i0 → inB i1 → inB i2 → inB i3 → VR v4 x4 → VR v5 x5 →
    News h₀ L s.heap ((kd, listOf #[.int (-1) k0, .int (-2) k1, .int (-1) k2, .int (-2) k3, .int (-16) k4, .int (-17) k5] nk) :: (vl, listOf #[.int i0 t0, .int i1 t1, .int i2 t2, .int i3 t3, v4, v5] nv) ::
      (fl, listOf #[.int f0 g0, .int f1 g1, .int f2 g2] nf) :: (L + 1 + 1 + 1 + 1 + 1, o5) :: (L + 1 + 1 + 1 + 1, o4) :: (L + 1 + 1 + 1, o3) :: (L + 1 + 1, o2) :: (L + 1, o1) :: tl) →
    o2.data = .cell (some (.ref fl)) → o3.data = .cell (some (.ref vl)) → o4.data = .cell (some (.ref kd)) → o5.data = .cell none →
    vl < kd → fl < vl → L + 1 + 1 + 1 + 1 + 1 < vl → (@Ne Nat fl (L + 1 + 1 + 1 + 1 + 1) ∧ @Ne Nat fl (L + 1 + 1 + 1 + 1) ∧ @Ne Nat fl (L + 1 + 1 + 1) ∧ @Ne Nat fl (L + 1 + 1) ∧ @Ne Nat fl (L + 1)) →
    Off tl [(kd, listOf #[.int (-1) k0, .int (-2) k1, .int (-1) k2, .int (-2) k3, .int (-16) k4, .int (-17) k5] nk), (vl, listOf #[.int i0 t0, .int i1 t1, .int i2 t2, .int i3 t3, v4, v5] nv),
      (fl, listOf #[.int f0 g0, .int f1 g1, .int f2 g2] nf), (L + 1 + 1 + 1 + 1 + 1, o5), (L + 1 + 1 + 1 + 1, o4), (L + 1 + 1 + 1, o3), (L + 1 + 1, o2), (L + 1, o1)] →
    (∀ h' tk m', Fr h₀ L h' m' → Q (.ret (.bool true)) { s with heap := h', toks := tk }) →
    wpAny (model prog w) (callerA.deeper (envOfC name scope L fa cdv)) (execs (body.drop 9) (envOfC name scope L fa cdv)) Q E s
theorem law_at2_of {prog : Program} {w : World} {mean : ExcName → Option Value} {mg mb : Str → Option Value} {name qual : Str} {params : Arguments} {body : List Stmt} {scope : Scope} {dV kV doc pm cdv ct oc : Value} {an od : Option Addr} {osl : Array (Option Value)}
    {name' qual' : Str} {params' : Arguments} {body' : List Stmt} {scope' : Scope} {dV' kV' doc' pm' cdv' ct' oc' : Value} {an' od' : Option Addr} {osl' : Array (Option Value)}
    (h : (Mine.hd.heap_39 w.params).lookup 395 = some ⟨oc, od, .func (fnOf name qual params body scope dV kV doc pm an cdv ct), osl⟩)
    (h' : (Mine.hd.heap_39 w.params).lookup 395 = some ⟨oc', od', .func (fnOf name' qual' params' body' scope' dV' kV' doc' pm' an' cdv' ct'), osl'⟩)
    (H : LawTail prog w mean mg mb name' body' scope' → LawAt prog w mean mg mb name' body' scope') : LawTail prog w mean mg mb name body scope → LawAt prog w mean mg mb name body scope := by
  have e := h.symm.trans h'
  cases e
  exact H
theorem law_tail_of {prog : Program} {w : World} {mean : ExcName → Option Value} {mg mb : Str → Option Value} {name qual : Str} {params : Arguments} {body : List Stmt} {scope : Scope} {dV kV doc pm cdv ct oc : Value} {an od : Option Addr} {osl : Array (Option Value)}
    {name' qual' : Str} {params' : Arguments} {body' : List Stmt} {scope' : Scope} {dV' kV' doc' pm' cdv' ct' oc' : Value} {an' od' : Option Addr} {osl' : Array (Option Value)}
    (h : (Mine.hd.heap_39 w.params).lookup 395 = some ⟨oc, od, .func (fnOf name qual params body scope dV kV doc pm an cdv ct), osl⟩)
    (h' : (Mine.hd.heap_39 w.params).lookup 395 = some ⟨oc', od', .func (fnOf name' qual' params' body' scope' dV' kV' doc' pm' an' cdv' ct'), osl'⟩)
    (H : LawTail prog w mean mg mb name' body' scope') : LawTail prog w mean mg mb name body scope := by
  have e := h.symm.trans h'
  cases e
  exact H
section
variable {prog : Program} {w : World} {mean : ExcName → Option Value} {mg mb : Str → Option Value}
local macro_rules | `(tactic| walk_at "call ref") => `(tactic| (refine Stop2.mk ?_))
local macro_rules | `(tactic| walk_at "call ref") => `(tactic| (k_here; (with_reducible show wpAny _ _ (call (Value.ref 355) _) _ _ _); (k_dflt (refine' Mut.use (next_mut ?hi ?hl ?hm ?hmb) ?k1 ?k2 ?k3 ?k4 ?k5 ?U ?P ?kk ?hd ?hu ?_; (case k1 => k_asm); (case k2 => k_asm); (case k3 => k_asm); (case k4 => k_asm); (case k5 => k_asm); (case U => (intro o9; k_upd)); (case hi => assumption); (case hl => first | assumption | omega); (case hm => first | omega | decide); (case hmb => first | omega | decide); (case P => exact fun _ _ _ => trivial); (case kk => exact rfl); (case hd => exact Nat.le_of_ble_eq_true rfl); (case hu => exact Nat.le_of_ble_eq_true rfl); k_whole)); (intro r9 h9 o9 tl9 tk9 F9 N9 off9 post9); (obtain ⟨hz9, i9, tk9', vs9, ns9, n9, hz9', hz9'', hi9, hl9, h09, h19⟩ := post9); (subst hz9 hz9' hz9''); (clear off9); (simp only [List.append_nil] at N9); (try dsimp only); (try k_sweep)))
local macro_rules | `(tactic| walk_at "call ref") => `(tactic| (k_here; (with_reducible show wpAny _ _ (call (Value.ref 369) [_, _, Value.int 4 _]) _ _ _); (k_dflt (refine' Mut.use (TreeC.at (tree_all ?hb 4 (Nat.le_refl 4)) ?hx ?hi ?hl) ?k1 ?k2 ?k3 ?k4 ?k5 ?U ?P ?kk ?hd ?hu ?_; (case k1 => k_asm); (case k2 => k_asm); (case k3 => k_asm); (case k4 => k_asm); (case k5 => k_asm); (case U => (intro o9; k_upd)); (case hi => assumption); (case hl => assumption); (case hb => assumption); (case hx => rfl); (case P => exact fun _ _ _ => trivial); (case kk => exact rfl); (case hd => exact Nat.le_of_ble_eq_true rfl); (case hu => exact Nat.le_of_ble_eq_true rfl); k_whole)); (intro r9 h9 o9 tl9 tk9 F9 N9 off9 post9); (obtain ⟨tr9, vs9, ns9, n9, hz9, hi9, hl9, hR9, hO9⟩ := post9); (subst hz9); (simp only [List.cons_append, List.nil_append, List.append_assoc] at N9); (try dsimp only); (try k_sweep)))
local macro_rules | `(tactic| walk_at "call ref") => `(tactic| (k_here; (with_reducible show wpAny _ _ (call (Value.ref 369) [_, _, Value.int 1 _]) _ _ _); (k_dflt (refine' Mut.use (TreeC.at (tree_all ?hb 1 (by decide)) ?hx ?hi ?hl) ?k1 ?k2 ?k3 ?k4 ?k5 ?U ?P ?kk ?hd ?hu ?_; (case k1 => k_asm); (case k2 => k_asm); (case k3 => k_asm); (case k4 => k_asm); (case k5 => k_asm); (case U => (intro o9; k_upd)); (case hi => assumption); (case hl => assumption); (case hb => assumption); (case hx => rfl); (case P => exact fun _ _ _ => trivial); (case kk => exact rfl); (case hd => exact Nat.le_of_ble_eq_true rfl); (case hu => exact Nat.le_of_ble_eq_true rfl); k_whole)); (intro r9 h9 o9 tl9 tk9 F9 N9 off9 post9); (obtain ⟨tr9, vs9, ns9, n9, hz9, hi9, hl9, hR9, hO9⟩ := post9); (subst hz9); (simp only [List.cons_append, List.nil_append, List.append_assoc] at N9); (try dsimp only); (try k_sweep)))
local macro_rules | `(tactic| walk_at "subscriptTail") => `(tactic| (k_here; (with_reducible show wpAny _ _ (subscriptTail _ _ (Value.ref _) (Value.int _ _)) _ _ _); (k_dflt (refine' bits_item ?hl ?h0 ?h1 ?_; (case hl => exact News.isList (by k_asm) (by k_mem)); (case h0 => omega); (case h1 => omega); k_whole)); (intro b9 tk9' hb9); (try dsimp only)))
local macro_rules | `(tactic| walk_at "subscriptTail") => `(tactic| (k_here; (with_reducible show wpAny _ _ (subscriptTail _ _ (Value.ref _) (Value.int _ _)) _ _ _); (k_dflt (refine' opt2_item ?hl ?h0 ?h1 ?_; (case hl => exact News.isList (by k_asm) (by k_mem)); (case h0 => omega); (case h1 => omega); k_whole)); (intro v9 x9 hv9); (try dsimp only)))
local macro_rules | `(tactic| walk_at "subscriptTail") => `(tactic| (k_here; (with_reducible show wpAny _ _ (subscriptTail _ _ (Value.ref _) (Value.int _ _)) _ _ _); (k_dflt (refine' opt3_item ?hl ?h0 ?h1 ?_; (case hl => exact News.isList (by k_asm) (by k_mem)); (case h0 => omega); (case h1 => omega); k_whole)); (intro v9 x9 hv9); (try dsimp only)))
local macro_rules | `(tactic| walk_at "eval ListComp") => `(tactic| (k_here; k_dflt (refine LCg.ListComp_U (F₀ := by k_asm) (by with_unfolding_all rfl) (by decide) (by rfl) (by decide) (by rfl) ?_); k_dflt lcg_toSrc))
local macro_rules | `(tactic| walk_at "CompSrc") => `(tactic| (k_here; k_dflt (first
  | (refine LCg.CompSrc.ledger (by rfl) (by k_asm) (by k_asm) (by k_mem) (by first | size_fits | exact Nat.le_of_ble_eq_true rfl) ?_; intro g'; lcg_lit)
  | (refine LCg.CompSrc.range (by rfl) (by k_asm) (by k_asm) (by assumption) (by first | decide | rfl) (by first | rfl | decide) (by first | size_fits | exact Nat.le_of_ble_eq_true rfl) ?_; intro g'; lcg_lit))))
local macro_rules | `(tactic| walk_at "CompRest") => `(tactic| (with_unfolding_all first
  | (refine LCg.CompRest.succ ?_; intro v' I' oI' C' oC' D' m' h' tk' E' hv' hC' hx' F' N' off' ne'; (first | lcg_open hv' | (obtain ⟨t9', hv9'⟩ := hv'; subst hv9')); (have offK := off'); (try simp only [LCg.Off3, and_true] at off'))
  | refine LCg.CompRest.zero ?_))
local macro_rules | `(tactic| walk_at "CompEnd") => `(tactic| ((refine' comp_end0 ?F ?N ?off ?e ?s ?_); (case F => with_reducible assumption); (case N => with_reducible assumption); (case off => with_reducible assumption); (case e => rfl); (case s => lcg_src)))
local macro_rules | `(tactic| walk_at "execs cons") => `(tactic| ((with_reducible show wpAny _ _ (execs (Stmt.Assign [Expr.Name (Str.ofString "cells") _] _ _ :: _) _) _ _ _); (refine Stop2.mk ?_)))
theorem law_at {name qual : Str} {params : Arguments} {body : List Stmt} {scope : Scope} {dV kV doc pm cdv ct oc : Value} {an od : Option Addr} {osl : Array (Option Value)}
    (h : (Mine.hd.heap_39 w.params).lookup 395 = some ⟨oc, od, .func (fnOf name qual params body scope dV kV doc pm an cdv ct), osl⟩) (hT : LawTail prog w mean mg mb name body scope) : LawAt prog w mean mg mb name body scope := by
  revert hT
  refine' law_at2_of h ?h1 ?_
  case h1 => k_is
  intro hT
  intro h₀ L fa l0 cdv s m o1 o2 o3 o4 o5 sv ns Q E X T B F hm N d1 d2 d3 d4 d5 hL hI hlen ret
  have hmm : m = fun y => if y = Str.ofString "script" then some (.ref l0) else m y := by
    funext y; split
    · rename_i q; rw [q, hm]
    · rfl
  rw [hmm] at F
  clear hmm hm
  (try k_fold)
  k_steps
  unfold Stop2
  rename Fr _ _ _ _ => Fz
  rename News _ _ _ _ => Nz
  (try dsimp only at Nz)
  refine' hT X T B Fz rfl rfl rfl ?hb ?r1 ?ok1 ?r2 ?ok2 ?b0 ?b1 ?b2 ?b3 ?v4 ?v5 (news_pick Nz) ?c2 ?c3 ?c4 ?c5 ?l1 ?l2 ?l3 ?l4 ?off ?ret
  case hb => assumption
  case r1 => exact TreeR.mono (by with_reducible assumption) fun a o q => List.mem_append.mpr (.inl q)
  case r2 => exact TreeR.mono (by with_reducible assumption) fun a o q => List.mem_append.mpr (.inr q)
  case ok1 => assumption
  case ok2 => assumption
  case v4 => with_reducible assumption
  case v5 => with_reducible assumption
  case c2 => with_reducible assumption
  case c3 => with_reducible assumption
  case c4 => with_reducible assumption
  case c5 => with_reducible assumption
  case ret => intro h9 tk9; exact ret _ _
  case b0 => exact inB32 (by assumption) (by assumption)
  case b1 => exact inB64 (by assumption) (by assumption)
  case b2 => exact inB32 (by assumption) (by assumption)
  case b3 => exact inB64 (by assumption) (by assumption)
  case off =>
    refine off_cons (allLt_ne (by rw [allLt_app]; constructor <;> simp only [*])) (off_cons (allLt_ne (by rw [allLt_app]; constructor <;> simp only [*])) (off_cons (off1_ne (by simp only [*])) ?_))
    (repeat' first | exact off_none | refine off_cons ?_ ?_)
    all_goals ((try dsimp only); refine List.forall_mem_append.mpr (And.intro ?_ ?_) <;> (refine' off_at (by with_reducible assumption) ?hm; (case hm => k_mem)))
  case l1 => exact ltN (by omega)
  case l2 => exact ltN (by omega)
  case l3 => exact ltN (by omega)
  case l4 => (refine ⟨neN ?_, neN ?_, neN ?_, neN ?_, neN ?_⟩ <;> omega)
end
section
variable {prog : Program} {w : World} {mean : ExcName → Option Value} {mg mb : Str → Option Value}
local macro_rules | `(tactic| k_room) => `(tactic| ((try simp only [depth_under_make, depth_under_kw, depth_in1, depth_deeper, depth_caller]); (try simp only [recursionLimit]); (try dsimp only [ktrTop]); omega))
local macro_rules | `(tactic| units_room) => `(tactic| (show _ < 9900; (simp only [units_in1, units_deeper, Around.mark_units]); (try dsimp only [ktrTop]); omega))
theorem cell_use {dp un : Nat} {gd : Option (List Code)} {cn : Str} {cs : Scope} {L a : Addr} {ccd : Value} {cl : List (Str × Addr)} {outer : List Env} {A₀ : Around} {base h₀ : Heap} {m : Str → Option Value} {news : List (Addr × Obj)} {s : Shared} {Q E : Value → Shared → Prop}
    {v1 v2 v3 : Value}
    (B : Below A₀ base outer h₀) (F : Fr h₀ L s.heap m) (N : News h₀ L s.heap news) (X : (Mine.hd.heap_39 w.params).In h₀) (T : kTop mean mg mb h₀)
    (hv1 : handedIn v1 = true) (hv2 : handedIn v2 = true) (hv3 : handedIn v3 = true)
    (hk : cs.kind = .function) (hd : dp + 2 < 1000) (hu : un + 8 * 2 + 400 < 9900)
    (ret : ∀ x d es n h' tk, Fr h₀ L h' m → News h₀ L h' ((x, instObj 344 d) :: (d, dictOf es n) :: news) → (∀ p ∈ news, p.1 < d) → @LT.lt Nat _ d x → getL (Str.ofString "value") es = some (some v3) → Q (.ref x) { s with heap := h', toks := tk }) :
    wpAny (model prog w) (ktrTop dp un gd cn cs L a ccd cl outer) (call (.ref 344) [v1, v2, v3]) Q E s := by
  obtain ⟨kind, nms, ig, ic, mo⟩ := cs
  simp only at hk
  subst hk
  k_steps
  exact ret _ _ _ _ _ _ (by assumption) (by assumption) (by assumption) (by assumption) (by first | rfl | k_is | k_get)
end
theorem step_op {cv : List (Option Int)} {fv : List Int} {c x y : Int} {st : List (Option Int)} (hc : inR c) (hx : inB x) (hy : inB y) :
    stepF cv fv (st ++ [some x, some y]) ⟨c, none⟩ = some (some (st ++ [some (opF c x y)])) := by
  have hl : 1 < (st ++ [some x, some y]).length := by simp
  unfold stepF
  rw [if_pos ⟨hc, hl⟩]
  show Option.map some (topF c _) = _
  rw [topF_at c st x y hx hy]; rfl
theorem run_code {b : Int} (hb : b = 32 ∨ b = 64) {cv : List (Option Int)} {fv : List Int} (hc : CvOk b cv) (h4 : ∀ i : Nat, i < 4 → ∃ x, cv[i]? = some (some x)) :
    ∀ {t : Tr} {d : Int}, TreeOk b d t → ∀ (st : List (Option Int)) (rest : List Ins), runF cv fv st (codeOf b t ++ rest) = runF cv fv (st ++ [some (due b cv t)]) rest
  | .num z, _, _, st, rest => by
    rcases hb with rfl | rfl <;> simp [codeOf, runF, stepF, inR, leafF, due, md]
  | .cel i, _, h, st, rest => by
    have h0 : 0 ≤ i ∧ i < 4 := by simp only [TreeOk] at h; omega
    obtain ⟨x, hx⟩ := h4 i.toNat (by omega)
    have h6 : 0 ≤ i ∧ i < 6 := by omega
    simp [codeOf, runF, stepF, inR, leafF, due, cellI, hx, h6]
  | .op k x y, d, h, st, rest => by
    have hx := run_code hb (fv := fv) hc h4 h.2.1
    have hy := run_code hb (fv := fv) hc h4 h.2.2
    have bx := due_in hc h.2.1
    have by' := due_in hc h.2.2
    simp only [codeOf, List.append_assoc]
    rw [hx, hy]
    have e : st ++ [some (due b cv x)] ++ [some (due b cv y)] = st ++ [some (due b cv x), some (due b cv y)] := by simp
    rw [e]
    rcases hb with rfl | rfl <;> cases k <;> simp only [Op3.opc, List.cons_append, List.nil_append, runF] <;> rw [step_op (by unfold inR; simp) bx by'] <;> simp [opF, due, md, Op3.ev]
theorem run_end {cv : List (Option Int)} {fv : List Int} {st : List (Option Int)} : runF cv fv st [⟨11, none⟩] = some (some st) := by
  simp [runF, stepF, inR]
theorem code_len {b : Int} : ∀ t : Tr, (codeOf b t).length + 1 ≤ 2 ^ (t.depth + 1)
  | .num _ => by simp [codeOf, Tr.depth]
  | .cel _ => by simp [codeOf, Tr.depth]
  | .op k x y => by
    have hx := code_len (b := b) x
    have hy := code_len (b := b) y
    have h1 : 2 ^ (x.depth + 1) ≤ 2 ^ (max x.depth y.depth + 1) := Nat.pow_le_pow_right (by decide) (by omega)
    have h2 : 2 ^ (y.depth + 1) ≤ 2 ^ (max x.depth y.depth + 1) := Nat.pow_le_pow_right (by decide) (by omega)
    simp only [codeOf, Tr.depth, List.length_append, List.length_cons, List.length_nil]
    rw [Nat.pow_succ 2 (max x.depth y.depth + 1)]
    omega
theorem code_len4 {b d : Int} {t : Tr} (h : TreeOk b d t) (hd : d ≤ 4) : (codeOf b t).length ≤ 31 ∧ t.depth ≤ 4 := by
  have h1 := depth_le h
  have h2 : t.depth ≤ 4 := by omega
  have h3 := code_len (b := b) t
  have h4 : 2 ^ (t.depth + 1) ≤ 2 ^ 5 := Nat.pow_le_pow_right (by decide) (by omega)
  exact ⟨by omega, h2⟩
section
variable {b : Int} {i0 i1 i2 i3 : Int} {x4 x5 : Option Int} {f0 f1 f2 : Int} {t t' : Tr}
abbrev cv6 (i0 i1 i2 i3 : Int) (x4 x5 : Option Int) : List (Option Int) := [some i0, some i1, some i2, some i3, x4, x5]
theorem cv_ok (h0 : inB i0) (h1 : inB i1) (h2 : inB i2) (h3 : inB i3) : CvOk b (cv6 i0 i1 i2 i3 x4 x5) := by
  intro i a c
  have hc : i = 0 ∨ i = 1 ∨ i = 2 ∨ i = 3 := by omega
  rcases hc with rfl | rfl | rfl | rfl
  · exact h0
  · exact h1
  · exact h2
  · exact h3
theorem cv_4 : ∀ i : Nat, i < 4 → ∃ x, (cv6 i0 i1 i2 i3 x4 x5)[i]? = some (some x) := by
  intro i h
  have hc : i = 0 ∨ i = 1 ∨ i = 2 ∨ i = 3 := by omega
  rcases hc with rfl | rfl | rfl | rfl <;> exact ⟨_, rfl⟩
end
def CellIn (env : List (Addr × Obj)) (c : Addr) (v : Value) : Prop :=
  ∃ d es n, (c, instObj 344 d) ∈ env ∧ (d, dictOf es n) ∈ env ∧ getL (Str.ofString "value") es = some (some v) ∧ handedIn v = true
theorem CellIn.at {h : Heap} {env : List (Addr × Obj)} {c : Addr} {v : Value} (x : CellIn env c v) (hE : ∀ p ∈ env, h.get? p.1 = some p.2) : CellAt h c v := by
  obtain ⟨d, es, n, h1, h2, h3, h4⟩ := x
  exact ⟨_, es, n, ⟨hE _ h1, rfl, rfl, hE _ h2⟩, h3, h4⟩
theorem CellIn.mono {env env' : List (Addr × Obj)} {c : Addr} {v : Value} (x : CellIn env c v) (hs : ∀ p ∈ env, p ∈ env') : CellIn env' c v := by
  obtain ⟨d, es, n, h1, h2, h3, h4⟩ := x
  exact ⟨d, es, n, hs _ h1, hs _ h2, h3, h4⟩
theorem vr_handed {v : Value} {x : Option Int} (h : VR v x) : handedIn v = true := by
  cases x with
  | none => rw [show v = Value.none from h]; rfl
  | some i => obtain ⟨t, rfl⟩ := (h : ∃ tk, v = Value.int i tk); rfl
section
variable {prog : Program} {w : World} {mean : ExcName → Option Value} {mg mb : Str → Option Value}
theorem vr_ne {A : Around} {E : Value → Shared → Prop} {s : Shared} {Q : Value → Shared → Prop} {r v : Value} {x : Option Int} (h : VR r x) (k : VR v x) (hq : Q (.bool false) s) : wpAny (model prog w) A (compareOp .NotEq r v) Q E s := by
  cases x with
  | none =>
    rw [show r = Value.none from h, show v = Value.none from k]
    exact EqNone.ne_none_none hq
  | some i =>
    obtain ⟨t, rfl⟩ := (h : ∃ tk, r = Value.int i tk)
    obtain ⟨u, rfl⟩ := (k : ∃ tk, v = Value.int i tk)
    exact ne_int (by simpa using hq)
theorem ROB.use {need : Nat} {f : Addr} {vals : List Value} {P : Heap → Prop} {Post : Value → Prop}
    {dp un : Nat} {gd : Option (List Code)} {cn : Str} {cs : Scope} {L a : Addr} {ccd : Value} {cl : List (Str × Addr)} {A₀ : Around} {h₀ : Heap} {m : Str → Option Value} {news : List (Addr × Obj)} {s : Shared} {Q E : Value → Shared → Prop}
    (C : ROB prog w mean mg mb need f vals P Post)
    (B : Below A₀ h₀ [] h₀) (F : Fr h₀ L s.heap m) (N : News h₀ L s.heap news) (X : (Mine.hd.heap_39 w.params).In h₀) (T : kTop mean mg mb h₀)
    (hP : P s.heap) (hk : cs.kind = .function) (hd : dp + need < 1000) (hu : un + 8 * need + 400 < 9900)
    (ret : ∀ r h' tk, Fr h₀ L h' m → News h₀ L h' news → Post r → Q r { s with heap := h', toks := tk }) :
    wpAny (model prog w) (ktrTop dp un gd cn cs L a ccd cl []) (call (.ref f) vals) Q E s := by
  obtain ⟨_, BG, st, _⟩ := groundX (A := ktrTop dp un gd cn cs L a ccd cl []) (env := envX cn cs L a ccd cl) (R := fun _ _ => True) B F (News.nil : News h₀ L s.heap []) rfl rfl hk
  have hne : ∀ b : Addr, b ≠ L → b ∉ (envX cn cs L a ccd cl :: []).filterMap (·.frame) := fun b hb hm => by
    rw [List.filterMap_cons] at hm
    rcases List.mem_cons.mp hm with q | hm
    · exact hb q
    · cases hm
  have hL : h₀.get? L = none := fr_none F
  exact C (dp := dp) (un := un) (gd := gd) (stk := envX cn cs L a ccd cl :: []) BG (X.keeps st) (Top.keeps T st) X T hP hd hu (fun r h' tk hst hup hpo =>
    ret r h' tk ⟨hup.ns F.ns, fun b o e => hst b o (F.keep b o e) (hne b fun q => by rw [q, hL] at e; cases e), F.above⟩ (fun p hp => ⟨hst _ _ (N p hp).1 (hne _ (N p hp).2.1), (N p hp).2⟩) hpo)
section
variable {dp un : Nat} {gd : Option (List Code)} {cn : Str} {cs : Scope} {L a : Addr} {ccd : Value} {ccl : List (Str × Addr)} {A₀ : Around} {h₀ : Heap} {m : Str → Option Value} {news : List (Addr × Obj)} {s : Shared} {Q E : Value → Shared → Prop}
theorem refused_use {bd cl fl : Addr} {vs : List Value} {is : List Ins} {cv : List (Option Int)} {fv : List Int} {R : Option (List (Option Int))} (hr : runF cv fv [] is = some R) (hR : ∀ x, R ≠ some [x]) (hlen : vs.length ≤ 100000)
    (hP : ∀ h, News h₀ L h news → h.IsList bd vs.toArray ∧ InsRs (inH h) vs is ∧ EnvAt h cl fl cv fv)
    (B : Below A₀ h₀ [] h₀) (F : Fr h₀ L s.heap m) (N : News h₀ L s.heap news) (X : (Mine.hd.heap_39 w.params).In h₀) (T : kTop mean mg mb h₀)
    (hk : cs.kind = .function) (hd : dp + 12 < 1000) (hu : un + 8 * 12 + 400 < 9900)
    (ret : ∀ h' tk, Fr h₀ L h' m → News h₀ L h' news → Q (.bool true) { s with heap := h', toks := tk }) :
    wpAny (model prog w) (ktrTop dp un gd cn cs L a ccd ccl []) (call (.ref 390) [.ref bd, .ref cl, .ref fl]) Q E s :=
  ROB.use (refused_ctr hr hlen hR) B F N X T (hP _ N) hk hd hu fun r h' tk F' N' hr' => by subst hr'; exact ret h' tk F' N'
theorem body_use {bd cl fl : Addr} {vs : List Value} {is : List Ins} {cv : List (Option Int)} {fv : List Int} {x : Option Int} {outer : List Env} {base : Heap} (hr : runF cv fv [] is = some (some [x])) (hlen : vs.length ≤ 100000)
    (hP : ∀ h, News h₀ L h news → h.IsList bd vs.toArray ∧ InsRs (inH h) vs is ∧ EnvAt h cl fl cv fv)
    (B : Below A₀ base outer h₀) (F : Fr h₀ L s.heap m) (N : News h₀ L s.heap news) (X : (Mine.hd.heap_39 w.params).In h₀) (T : kTop mean mg mb h₀)
    (hk : cs.kind = .function) (hd : dp + 8 < 1000) (hu : un + 8 * 8 + 400 < 9900)
    (ret : ∀ r h' tk, Fr h₀ L h' m → News h₀ L h' news → VR r x → Q r { s with heap := h', toks := tk }) :
    wpAny (model prog w) (ktrTop dp un gd cn cs L a ccd ccl outer) (call (.ref 299) [.ref bd, .ref cl, .ref fl]) Q E s :=
  RX.use (body_ctr hr hlen) B F N X T (hP _ N) hk hd hu
    (fun r h' tk F' N' _ hp => by obtain ⟨y, e, hv⟩ := hp; cases e; exact ret r h' tk F' N' hv)
    (fun e h' tk hm _ => absurd rfl (hm x))
theorem due_use {v : Value} {tk : Tok} {vl : Addr} {cv : List (Option Int)} {b d : Int} {t : Tr} {outer : List Env} {base : Heap} (hb : b = 32 ∨ b = 64) (hc : CvOk b cv) (hO : TreeOk b d t) (hd4 : d ≤ 4)
    (hP : ∀ h, News h₀ L h news → TreeR (inH h) v t ∧ ValsAt h vl cv)
    (B : Below A₀ base outer h₀) (F : Fr h₀ L s.heap m) (N : News h₀ L s.heap news) (X : (Mine.hd.heap_39 w.params).In h₀) (T : kTop mean mg mb h₀)
    (hk : cs.kind = .function) (hd : dp + 6 < 1000) (hu : un + 8 * 6 + 400 < 9900)
    (ret : ∀ h' tk tkr, Fr h₀ L h' m → News h₀ L h' news → Q (.int (due b cv t) tkr) { s with heap := h', toks := tk }) :
    wpAny (model prog w) (ktrTop dp un gd cn cs L a ccd ccl outer) (call (.ref 383) [v, .int b tk, .ref vl]) Q E s := by
  have h4 := (code_len4 hO hd4).2
  exact DueC.use (due_all hb hc hO) (hP _ N).1 (hP _ N).2 B F N X T (fun _ _ e => e) hk (by omega) (by omega) fun h' tk tkr F' N' _ => ret h' tk tkr F' N'
theorem code_use {b d : Int} {tr : Tr} {v : Value} {t : Addr} {vs : List Value} {n : Nat} {tk : Tok} {outer : List Env} {base : Heap} {up : Obj → List (Addr × Obj)} (hb : b = 32 ∨ b = 64) (hO : TreeOk b d tr) (hd4 : d ≤ 4) (hlen : vs.length ≤ 100)
    (B : Below A₀ base outer h₀) (F : Fr h₀ L s.heap m) (N : News h₀ L s.heap news) (X : (Mine.hd.heap_39 w.params).In h₀) (T : kTop mean mg mb h₀)
    (U : ∀ o', Upd t (listOf vs.toArray n) o' news (up o')) (hP : ∀ g : Heap, (∀ p ∈ news, p.1 ≠ t → g.get? p.1 = some p.2) → TreeR (inH g) v tr)
    (hk : cs.kind = .function) (hd : dp + 6 < 1000) (hu : un + 8 * 6 + 400 < 9900)
    (ret : ∀ h' tl tk new n', Fr h₀ L h' m → News h₀ L h' (up (listOf (List.toArray (vs ++ new)) n') ++ tl) → Off tl news → InsRs (inL tl) new (codeOf b tr) → new.length ≤ 31 → Q .none { s with heap := h', toks := tk }) :
    wpAny (model prog w) (ktrTop dp un gd cn cs L a ccd ccl outer) (call (.ref 376) [v, .int b tk, .ref t]) Q E s := by
  have h4 := code_len4 hO hd4
  exact CodeC.use (code_all hb tr) (by omega) B F N X T U (fun g _ hg => hP g hg) hk (by omega) (by omega) fun h' tl tk new n' F' N' off hI hl => ret h' tl tk new n' F' N' off hI (by omega)
end
end
theorem at_of {w : World} {P : Str → List Stmt → Scope → Prop} {name qual : Str} {params : Arguments} {body : List Stmt} {scope : Scope} {dV kV doc pm cdv ct oc : Value} {an od : Option Addr} {osl : Array (Option Value)}
    {name' qual' : Str} {params' : Arguments} {body' : List Stmt} {scope' : Scope} {dV' kV' doc' pm' cdv' ct' oc' : Value} {an' od' : Option Addr} {osl' : Array (Option Value)}
    (h : (Mine.hd.heap_39 w.params).lookup 395 = some ⟨oc, od, .func (fnOf name qual params body scope dV kV doc pm an cdv ct), osl⟩)
    (h' : (Mine.hd.heap_39 w.params).lookup 395 = some ⟨oc', od', .func (fnOf name' qual' params' body' scope' dV' kV' doc' pm' an' cdv' ct'), osl'⟩)
    (H : P name' body' scope') : P name body scope := by
  have e := h.symm.trans h'
  cases e
  exact H
abbrev fiveL (cl vl fl c0 c1 c2 c3 c4 c5 : Addr) (nc nv nf : Nat) (i0 i1 i2 i3 f0 f1 f2 : Int) (t0 t1 t2 t3 g0 g1 g2 : Tok) (v4 v5 : Value) (L : Addr) (o5 o3 o2 : Obj) (env : List (Addr × Obj)) : List (Addr × Obj) :=
  (cl, listOf #[.ref c0, .ref c1, .ref c2, .ref c3, .ref c4, .ref c5] nc) :: (vl, listOf #[.int i0 t0, .int i1 t1, .int i2 t2, .int i3 t3, v4, v5] nv) :: (fl, listOf #[.int f0 g0, .int f1 g1, .int f2 g2] nf) ::
    (L + 1 + 1 + 1 + 1 + 1, o5) :: (L + 1 + 1 + 1, o3) :: (L + 1 + 1, o2) :: env
structure Kit (b : Int) (rt : Value) (tr tr' : Tr) (bvs mvs : List Value) (c0 c1 c2 c3 c4 c5 : Addr) (i0 i1 i2 i3 : Int) (t0 t1 t2 t3 : Tok) (v4 v5 : Value) (x4 x5 : Option Int) (env : List (Addr × Obj)) : Prop where
  hb : b = 32 ∨ b = 64
  r1 : TreeR (inL env) rt tr
  ok1 : TreeOk b 4 tr
  ok2 : TreeOk b 1 tr'
  b0 : inB i0
  b1 : inB i1
  b2 : inB i2
  b3 : inB i3
  w4 : VR v4 x4
  w5 : VR v5 x5
  k0 : CellIn env c0 (.int i0 t0)
  k1 : CellIn env c1 (.int i1 t1)
  k2 : CellIn env c2 (.int i2 t2)
  k3 : CellIn env c3 (.int i3 t3)
  k4 : CellIn env c4 v4
  k5 : CellIn env c5 v5
  j1 : InsRs (inL env) bvs (codeOf b tr)
  j2 : InsRs (inL env) mvs (codeOf b tr')
section
variable {b : Int} {rt : Value} {tr tr' : Tr} {bvs mvs : List Value} {c0 c1 c2 c3 c4 c5 : Addr} {i0 i1 i2 i3 f0 f1 f2 : Int} {t0 t1 t2 t3 g0 g1 g2 : Tok} {v4 v5 : Value} {x4 x5 : Option Int} {env : List (Addr × Obj)}
theorem Kit.cvOk (K : Kit b rt tr tr' bvs mvs c0 c1 c2 c3 c4 c5 i0 i1 i2 i3 t0 t1 t2 t3 v4 v5 x4 x5 env) : CvOk b (cv6 i0 i1 i2 i3 x4 x5) := cv_ok K.b0 K.b1 K.b2 K.b3
theorem env_at {h : Heap} {cl fl : Addr} {nc nf : Nat} (K : Kit b rt tr tr' bvs mvs c0 c1 c2 c3 c4 c5 i0 i1 i2 i3 t0 t1 t2 t3 v4 v5 x4 x5 env)
    (hc : h.get? cl = some (listOf #[.ref c0, .ref c1, .ref c2, .ref c3, .ref c4, .ref c5] nc)) (hf : h.get? fl = some (listOf #[.int f0 g0, .int f1 g1, .int f2 g2] nf)) (hE : ∀ p ∈ env, h.get? p.1 = some p.2) :
    EnvAt h cl fl (cv6 i0 i1 i2 i3 x4 x5) [f0, f1, f2] := by
  refine ⟨⟨[.ref c0, .ref c1, .ref c2, .ref c3, .ref c4, .ref c5], ⟨_, hc, rfl, nc, rfl⟩, fun i hi => ?_⟩, ⟨[.int f0 g0, .int f1 g1, .int f2 g2], ⟨_, hf, rfl, nf, rfl⟩, fun i hi => ?_⟩⟩
  · have hq : i = 0 ∨ i = 1 ∨ i = 2 ∨ i = 3 ∨ i = 4 ∨ i = 5 := by omega
    rcases hq with rfl | rfl | rfl | rfl | rfl | rfl
    · exact ⟨c0, _, _, rfl, K.k0.at hE, rfl, ⟨_, rfl⟩⟩
    · exact ⟨c1, _, _, rfl, K.k1.at hE, rfl, ⟨_, rfl⟩⟩
    · exact ⟨c2, _, _, rfl, K.k2.at hE, rfl, ⟨_, rfl⟩⟩
    · exact ⟨c3, _, _, rfl, K.k3.at hE, rfl, ⟨_, rfl⟩⟩
    · exact ⟨c4, _, _, rfl, K.k4.at hE, rfl, K.w4⟩
    · exact ⟨c5, _, _, rfl, K.k5.at hE, rfl, K.w5⟩
  · have hq : i = 0 ∨ i = 1 ∨ i = 2 := by omega
    rcases hq with rfl | rfl | rfl <;> exact ⟨_, _, rfl, rfl⟩
theorem vals_at {h : Heap} {vl : Addr} {nv : Nat} (hv : h.get? vl = some (listOf #[.int i0 t0, .int i1 t1, .int i2 t2, .int i3 t3, v4, v5] nv)) : ValsAt h vl (cv6 i0 i1 i2 i3 x4 x5) := by
  refine ⟨[.int i0 t0, .int i1 t1, .int i2 t2, .int i3 t3, v4, v5], ⟨_, hv, rfl, nv, rfl⟩, fun i hi => ?_⟩
  have hq : i = 0 ∨ i = 1 ∨ i = 2 ∨ i = 3 := by omega
  rcases hq with rfl | rfl | rfl | rfl <;> exact ⟨_, _, rfl, rfl⟩
theorem Kit.envAt {h₀ h : Heap} {L : Addr} {news : List (Addr × Obj)} {cl fl : Addr} {nc nf : Nat} (K : Kit b rt tr tr' bvs mvs c0 c1 c2 c3 c4 c5 i0 i1 i2 i3 t0 t1 t2 t3 v4 v5 x4 x5 env) (N : News h₀ L h news)
    (hc : (cl, (listOf #[.ref c0, .ref c1, .ref c2, .ref c3, .ref c4, .ref c5] nc : Obj)) ∈ news) (hf : (fl, (listOf #[.int f0 g0, .int f1 g1, .int f2 g2] nf : Obj)) ∈ news) (hE : ∀ p ∈ env, p ∈ news) :
    EnvAt h cl fl (cv6 i0 i1 i2 i3 x4 x5) [f0, f1, f2] := env_at K (N _ hc).1 (N _ hf).1 fun p hp => (N p (hE p hp)).1
theorem Kit.run (K : Kit b rt tr tr' bvs mvs c0 c1 c2 c3 c4 c5 i0 i1 i2 i3 t0 t1 t2 t3 v4 v5 x4 x5 env) {fv : List Int} {rest : List Ins} {R : Option (List (Option Int))}
    (h : runF (cv6 i0 i1 i2 i3 x4 x5) fv [some (due b (cv6 i0 i1 i2 i3 x4 x5) tr)] rest = some R) : runF (cv6 i0 i1 i2 i3 x4 x5) fv [] (codeOf b tr ++ rest) = some R := by
  rw [run_code K.hb K.cvOk cv_4 K.ok1]; exact h
theorem Kit.run2 (K : Kit b rt tr tr' bvs mvs c0 c1 c2 c3 c4 c5 i0 i1 i2 i3 t0 t1 t2 t3 v4 v5 x4 x5 env) {fv : List Int} {rest : List Ins} {R : Option (List (Option Int))}
    (h : runF (cv6 i0 i1 i2 i3 x4 x5) fv [some (due b (cv6 i0 i1 i2 i3 x4 x5) tr), some (due b (cv6 i0 i1 i2 i3 x4 x5) tr')] rest = some R) : runF (cv6 i0 i1 i2 i3 x4 x5) fv [] (codeOf b tr ++ codeOf b tr' ++ rest) = some R := by
  rw [List.append_assoc, run_code K.hb K.cvOk cv_4 K.ok1, run_code K.hb K.cvOk cv_4 K.ok2]; exact h
end
def LawTail2 (prog : Program) (w : World) (mean : ExcName → Option Value) (mg mb : Str → Option Value) (name : Str) (body : List Stmt) (scope : Scope) : Prop :=
  ∀ ⦃h₀ : Heap⦄ ⦃L fa : Addr⦄ ⦃cdv : Value⦄ ⦃s : Shared⦄ ⦃m : Str → Option Value⦄ ⦃o2 o3 o5 : Obj⦄ ⦃b : Int⦄ ⦃tkb : Tok⦄ ⦃rt ro : Value⦄ ⦃tr tr' : Tr⦄ ⦃env : List (Addr × Obj)⦄ ⦃cl vl fl c0 c1 c2 c3 c4 c5 : Addr⦄
    ⦃f0 f1 f2 i0 i1 i2 i3 : Int⦄ ⦃g0 g1 g2 t0 t1 t2 t3 : Tok⦄ ⦃v4 v5 : Value⦄ ⦃x4 x5 : Option Int⦄ ⦃nc nv nf : Nat⦄ ⦃Q : Flow → Shared → Prop⦄ ⦃E : Value → Shared → Prop⦄,
    (Mine.hd.heap_39 w.params).In h₀ → kTop mean mg mb h₀ → Below callerA h₀ [] h₀ → Fr h₀ L s.heap m →
    m (Str.ofString "bits") = some (.int b tkb) → m (Str.ofString "tree") = some rt → m (Str.ofString "other") = some ro → b = 32 ∨ b = 64 →
    TreeR (inL env) rt tr → TreeOk b 4 tr → TreeR (inL env) ro tr' → TreeOk b 1 tr' → inB i0 → inB i1 → inB i2 → inB i3 → VR v4 x4 → VR v5 x5 →
    CellIn env c0 (.int i0 t0) → CellIn env c1 (.int i1 t1) → CellIn env c2 (.int i2 t2) → CellIn env c3 (.int i3 t3) → CellIn env c4 v4 → CellIn env c5 v5 →
    News h₀ L s.heap (fiveL cl vl fl c0 c1 c2 c3 c4 c5 nc nv nf i0 i1 i2 i3 f0 f1 f2 t0 t1 t2 t3 g0 g1 g2 v4 v5 L o5 o3 o2 env) →
    o2.data = .cell (some (.ref fl)) → o3.data = .cell (some (.ref vl)) → o5.data = .cell (some (.ref cl)) →
    (∀ h' tk m', Fr h₀ L h' m' → Q (.ret (.bool true)) { s with heap := h', toks := tk }) →
    wpAny (model prog w) (callerA.deeper (envOfC name scope L fa cdv)) (execs (body.drop 10) (envOfC name scope L fa cdv)) Q E s
def TailN (n : Nat) (prog : Program) (w : World) (mean : ExcName → Option Value) (mg mb : Str → Option Value) (name : Str) (body : List Stmt) (scope : Scope) : Prop :=
  ∀ ⦃h₀ : Heap⦄ ⦃L fa : Addr⦄ ⦃cdv : Value⦄ ⦃s : Shared⦄ ⦃m : Str → Option Value⦄ ⦃o2 o3 o5 : Obj⦄ ⦃b : Int⦄ ⦃tkb : Tok⦄ ⦃rt : Value⦄ ⦃tr tr' : Tr⦄ ⦃bvs mvs : List Value⦄ ⦃env : List (Addr × Obj)⦄ ⦃bd md kp cl vl fl c0 c1 c2 c3 c4 c5 : Addr⦄
    ⦃f0 f1 f2 i0 i1 i2 i3 : Int⦄ ⦃g0 g1 g2 t0 t1 t2 t3 : Tok⦄ ⦃v4 v5 : Value⦄ ⦃x4 x5 : Option Int⦄ ⦃nb nm nk nc nv nf : Nat⦄ ⦃Q : Flow → Shared → Prop⦄ ⦃E : Value → Shared → Prop⦄,
    (Mine.hd.heap_39 w.params).In h₀ → kTop mean mg mb h₀ → Below callerA h₀ [] h₀ → Fr h₀ L s.heap m →
    m (Str.ofString "bits") = some (.int b tkb) → m (Str.ofString "tree") = some rt → m (Str.ofString "body") = some (.ref bd) → m (Str.ofString "more") = some (.ref md) → m (Str.ofString "kept") = some (.ref kp) →
    Kit b rt tr tr' bvs mvs c0 c1 c2 c3 c4 c5 i0 i1 i2 i3 t0 t1 t2 t3 v4 v5 x4 x5 env → bvs.length ≤ 31 → mvs.length ≤ 31 →
    News h₀ L s.heap ((kp, listOf bvs.toArray nk) :: (md, listOf mvs.toArray nm) :: (bd, listOf bvs.toArray nb) :: fiveL cl vl fl c0 c1 c2 c3 c4 c5 nc nv nf i0 i1 i2 i3 f0 f1 f2 t0 t1 t2 t3 g0 g1 g2 v4 v5 L o5 o3 o2 env) →
    o2.data = .cell (some (.ref fl)) → o3.data = .cell (some (.ref vl)) → o5.data = .cell (some (.ref cl)) →
    (∀ h' tk m', Fr h₀ L h' m' → Q (.ret (.bool true)) { s with heap := h', toks := tk }) →
    wpAny (model prog w) (callerA.deeper (envOfC name scope L fa cdv)) (execs (body.drop n) (envOfC name scope L fa cdv)) Q E s
theorem news_dup {h₀ h : Heap} {L : Addr} {all pre : List (Addr × Obj)} (N : News h₀ L h all) (sub : ∀ p ∈ pre, p ∈ all) : News h₀ L h (pre ++ all) := fun p hp => by
  rcases List.mem_append.mp hp with hp | hp
  · exact N p (sub p hp)
  · exact N p hp
def cElt (body : List Stmt) : Option (Expr × Scope) := match body.drop 9 with
  | .Assign _ (.ListComp e _ sc _) _ :: _ => some (e, sc)
  | _ => none
abbrev clCells (L : Addr) : List (Str × Addr) := [(Str.ofString "values", L + 1 + 1 + 1), (Str.ofString "kinds", L + 1 + 1 + 1 + 1)]
abbrev turnL (C : Addr) (oC : Obj) (kd vl : Addr) (kvs vvs : List Value) (nk nv : Nat) (L : Addr) (o4 o3 : Obj) (news : List (Addr × Obj)) : List (Addr × Obj) :=
  (C, oC) :: (kd, listOf kvs.toArray nk) :: (vl, listOf vvs.toArray nv) :: (L + 1 + 1 + 1 + 1, o4) :: (L + 1 + 1 + 1, o3) :: news
def CellTurn (prog : Program) (w : World) (mean : ExcName → Option Value) (mg mb : Str → Option Value) (name : Str) (body : List Stmt) (scope : Scope) : Prop :=
  ∀ ⦃e : Expr⦄ ⦃sc : Scope⦄, cElt body = some (e, sc) → ∀ ⦃h₀ : Heap⦄ ⦃L fa C kd vl : Addr⦄ ⦃cdv : Value⦄ ⦃s : Shared⦄ ⦃m m₂ : Str → Option Value⦄ ⦃oC o3 o4 : Obj⦄ ⦃nk nv : Nat⦄ ⦃news : List (Addr × Obj)⦄ ⦃k z : Int⦄ ⦃tkk tz : Tok⦄ ⦃v : Value⦄ ⦃kvs vvs : List Value⦄ ⦃Q : Value → Shared → Prop⦄ ⦃E : Value → Shared → Prop⦄,
    (Mine.hd.heap_39 w.params).In h₀ → kTop mean mg mb h₀ → Below callerA h₀ [] h₀ → Fr h₀ L s.heap m → LCg.NsObj oC m₂ → m₂ (Str.ofString "k") = some (.int k tkk) → 0 ≤ k → k < 6 → kvs[k.toNat]? = some (.int z tz) → vvs[k.toNat]? = some v → handedIn v = true →
    o4.data = .cell (some (.ref kd)) → o3.data = .cell (some (.ref vl)) → News h₀ L s.heap (turnL C oC kd vl kvs vvs nk nv L o4 o3 news) →
    (∀ x d es n h' tk, Fr h₀ L h' m → News h₀ L h' ((x, instObj 344 d) :: (d, dictOf es n) :: turnL C oC kd vl kvs vvs nk nv L o4 o3 news) → (∀ p ∈ turnL C oC kd vl kvs vvs nk nv L o4 o3 news, p.1 < d) → @LT.lt Nat _ d x → getL (Str.ofString "value") es = some (some v) → Q (.ref x) { s with heap := h', toks := tk }) →
    wpAny (model prog w) (callerA.deeper (envOfC name scope L fa cdv)) (eval e (compEnvC sc (clCells L) C (envOfC name scope L fa cdv))) Q E s
section
variable {prog : Program} {w : World} {mean : ExcName → Option Value} {mg mb : Str → Option Value}
local macro_rules | `(tactic| walk_at "subscriptTail") => `(tactic| (k_here; (with_reducible show wpAny _ _ (subscriptTail _ _ (Value.ref _) (Value.int _ _)) _ _ _); (k_dflt (refine' list_item ?hl ?h0 ?hhi ?hx ?_; (case hl => exact News.isList (by k_asm) (by k_mem)); (case hx => with_reducible assumption); (case h0 => omega); (case hhi => omega); k_whole))))
local macro_rules | `(tactic| walk_at "call ref") => `(tactic| ((with_reducible show wpAny _ _ (call (Value.ref 344) _) _ _ _); refine Stop2.mk ?_))
theorem cell_turn {name qual : Str} {params : Arguments} {body : List Stmt} {scope : Scope} {dV kV doc pm cdv ct oc : Value} {an od : Option Addr} {osl : Array (Option Value)}
    (h : (Mine.hd.heap_39 w.params).lookup 395 = some ⟨oc, od, .func (fnOf name qual params body scope dV kV doc pm an cdv ct), osl⟩) : CellTurn prog w mean mg mb name body scope := by
  refine' at_of (P := fun name body scope => CellTurn prog w mean mg mb name body scope) h ?h1 ?_
  case h1 => k_is
  clear h
  intro e sc he
  have he' : some (_, _) = some (e, sc) := he
  cases he'
  intro h₀ L fa C kd vl cdv s m m₂ oC o3 o4 nk nv news k z tkk tz v kvs vvs Q E X T B F hC hm h0 h6 hk hv hh d4 d3 N ret
  have hkl : k.toNat < kvs.length := (List.getElem?_eq_some_iff.mp hk).1
  have hvl : k.toNat < vvs.length := (List.getElem?_eq_some_iff.mp hv).1
  show wpAny _ _ _ _ _ _
  (try k_fold)
  k_steps
  unfold Stop2
  rename Fr _ _ _ _ => Fz
  rename News _ _ _ _ => Nz
  exact cell_use B Fz Nz X T rfl rfl hh rfl (by exact Nat.le_of_ble_eq_true rfl) (by exact Nat.le_of_ble_eq_true rfl) fun x d es n h' tk F' N' l1 l2 hg => ret x d es n h' tk F' N' l1 l2 hg
end
theorem cells_step {prog : Program} {w : World} {mean : ExcName → Option Value} {mg mb : Str → Option Value} {name : Str} {body : List Stmt} {scope : Scope} (CT : CellTurn prog w mean mg mb name body scope) {e : Expr} {sc : Scope} (he : cElt body = some (e, sc))
    {h₀ : Heap} {L fa kd vl : Addr} {cdv : Value} {s : Shared} {m : Str → Option Value} {o3 o4 : Obj} {nk nv : Nat} {news : List (Addr × Obj)} {z : Int} {tz : Tok} {v : Value} {kvs vvs ys : List Value} {i j : Nat} {Fin : List Value → List (Addr × Obj) → Prop}
    (X : (Mine.hd.heap_39 w.params).In h₀) (T : kTop mean mg mb h₀) (B : Below callerA h₀ [] h₀) (h6 : i < 6) (hk : kvs[i]? = some (.int z tz)) (hv : vvs[i]? = some v) (hh : handedIn v = true)
    (d4 : o4.data = .cell (some (.ref kd))) (d3 : o3.data = .cell (some (.ref vl))) (mk : (kd, (listOf kvs.toArray nk : Obj)) ∈ news) (mv : (vl, (listOf vvs.toArray nv : Obj)) ∈ news) (m4 : (L + 1 + 1 + 1 + 1, o4) ∈ news) (m3 : (L + 1 + 1 + 1, o3) ∈ news)
    (rest : ∀ x d es n, (∀ p ∈ news, p.1 < d) → @LT.lt Nat _ d x → getL (Str.ofString "value") es = some (some v) → LCg.CompRest prog w (callerA.deeper (envOfC name scope L fa cdv)) h₀ L m (envOfC name scope L fa cdv) e (Str.ofString "k") sc (clCells L) s (fun _ => True) (fun i v => ∃ t, v = Value.int (0 + (i : Int)) t) Fin j (i + 1) (ys ++ [.ref x]) ((x, instObj 344 d) :: (d, dictOf es n) :: news)) :
    LCg.CompRest prog w (callerA.deeper (envOfC name scope L fa cdv)) h₀ L m (envOfC name scope L fa cdv) e (Str.ofString "k") sc (clCells L) s (fun _ => True) (fun i v => ∃ t, v = Value.int (0 + (i : Int)) t) Fin (j + 1) i ys news := by
  refine LCg.CompRest.succ ?_
  intro v' I oI C oC D m₂ h tk E' hv' hC hx F N off ne
  obtain ⟨t, rfl⟩ := hv'
  have e0 : ((0 + (i : Int)) : Int).toNat = i := by omega
  have N1 : News h₀ L h (turnL C oC kd vl kvs vvs nk nv L o4 o3 ((I, oI) :: (C, oC) :: (D, LCg.lst ys) :: news)) := by
    intro p hp
    apply N
    simp only [List.mem_cons] at hp ⊢
    rcases hp with rfl | rfl | rfl | rfl | rfl | hp
    · exact .inr (.inl rfl)
    · exact .inr (.inr (.inr mk))
    · exact .inr (.inr (.inr mv))
    · exact .inr (.inr (.inr m4))
    · exact .inr (.inr (.inr m3))
    · exact hp
  refine CT he X T B F hC hx (by omega) (by omega) (by rw [e0]; exact hk) (by rw [e0]; exact hv) hh d4 d3 N1 fun x d es n h' tk' F' N' l1 l2 hg => ?_
  have lI : @LT.lt Nat _ I d := l1 (I, oI) (.tail _ (.tail _ (.tail _ (.tail _ (.tail _ (.head _))))))
  have lC : @LT.lt Nat _ C d := l1 (C, oC) (.head _)
  have lD : @LT.lt Nat _ D d := l1 (D, LCg.lst ys) (.tail _ (.tail _ (.tail _ (.tail _ (.tail _ (.tail _ (.tail _ (.head _))))))))
  refine LCg.CompEnd.intro F' N' ((x, instObj 344 d) :: (d, dictOf es n) :: news) ?_ ⟨⟨neN ?_, neN ?_, neN ?_⟩, ⟨neN ?_, neN ?_, neN ?_⟩, off⟩ trivial (rest x d es n (fun p hp => l1 p (.tail _ (.tail _ (.tail _ (.tail _ (.tail _ (.tail _ (.tail _ (.tail _ hp))))))))) l2 hg)
  · intro p hp
    simp only [turnL, List.mem_cons] at hp ⊢
    rcases hp with h1 | h1 | h1 | h1 | h1 | h1
    · exact .inr (.inr (.inr (.inr (.inr (.inr (.inr (.inl h1)))))))
    · exact .inr (.inr (.inl h1))
    · exact .inr (.inr (.inr (.inr (.inr (.inr (.inr (.inr (.inr (.inl h1)))))))))
    · exact .inl h1
    · exact .inr (.inl h1)
    · exact .inr (.inr (.inr (.inr (.inr (.inr (.inr (.inr (.inr (.inr h1)))))))))
  all_goals omega
section
variable {prog : Program} {w : World} {mean : ExcName → Option Value} {mg mb : Str → Option Value}
local macro_rules | `(tactic| walk_at "eval ListComp") => `(tactic| (k_here; k_dflt (refine LCg.ListComp_U (F₀ := by k_asm) (by with_unfolding_all rfl) (by decide) (by rfl) (by decide) (by rfl) ?_); k_dflt lcg_toSrc))
local macro_rules | `(tactic| walk_at "CompSrc") => `(tactic| (k_here; k_dflt (first
  | (refine LCg.CompSrc.ledger (by rfl) (by k_asm) (by k_asm) (by k_mem) (by first | size_fits | exact Nat.le_of_ble_eq_true rfl) ?_; intro g'; lcg_lit)
  | (refine LCg.CompSrc.range (by rfl) (by k_asm) (by k_asm) (by assumption) (by first | decide | rfl) (by first | rfl | decide) (by first | size_fits | exact Nat.le_of_ble_eq_true rfl) ?_; intro g'; lcg_lit))))
local macro_rules | `(tactic| walk_at "execs cons") => `(tactic| ((with_reducible show wpAny _ _ (execs (Stmt.Assign [Expr.Tuple _ _ _] _ _ :: _) _) _ _ _); (refine Stop2.mk ?_)))
local macro_rules | `(tactic| walk_at "CompRest") => `(tactic| (refine Stop2.mk ?_))
theorem law_tail {name qual : Str} {params : Arguments} {body : List Stmt} {scope : Scope} {dV kV doc pm cdv ct oc : Value} {an od : Option Addr} {osl : Array (Option Value)}
    (h : (Mine.hd.heap_39 w.params).lookup 395 = some ⟨oc, od, .func (fnOf name qual params body scope dV kV doc pm an cdv ct), osl⟩) (hT : LawTail2 prog w mean mg mb name body scope) : LawTail prog w mean mg mb name body scope := by
  have CT := cell_turn (prog := prog) (w := w) (mean := mean) (mg := mg) (mb := mb) h
  revert CT hT
  refine' at_of (P := fun name body scope => LawTail2 prog w mean mg mb name body scope → CellTurn prog w mean mg mb name body scope → LawTail prog w mean mg mb name body scope) h ?h1 ?_
  case h1 => k_is
  clear h
  intro hT CT
  intro h₀ L fa cdv s m o1 o2 o3 o4 o5 b tkb rt ro tr tr' tl kd vl fl f0 f1 f2 i0 i1 i2 i3 g0 g1 g2 t0 t1 t2 t3 k0 k1 k2 k3 k4 k5 v4 v5 x4 x5 nk nv nf Q E X T B F hm1 hm2 hm3 hb hR1 hO1 hR2 hO2 hi0 hi1 hi2 hi3 hv4 hv5 N d2 d3 d4 d5 l1 l2 l3 l4 off ret
  have hmm : m = fun y => if y = Str.ofString "bits" then some (.int b tkb) else if y = Str.ofString "tree" then some rt else if y = Str.ofString "other" then some ro else m y := by
    funext y
    split
    · rename_i q; rw [q, hm1]
    split
    · rename_i q; rw [q, hm2]
    split
    · rename_i q; rw [q, hm3]
    rfl
  rw [hmm] at F
  clear hmm hm1 hm2 hm3
  show wpAny _ _ _ _ _ _
  dsimp only [List.drop]
  (try k_fold)
  k_steps
  unfold Stop2
  have mk : (kd, (listOf (List.toArray [.int (-1) k0, .int (-2) k1, .int (-1) k2, .int (-2) k3, .int (-16) k4, .int (-17) k5]) nk : Obj)) ∈ ((kd, listOf #[.int (-1) k0, .int (-2) k1, .int (-1) k2, .int (-2) k3, .int (-16) k4, .int (-17) k5] nk) :: (vl, listOf #[.int i0 t0, .int i1 t1, .int i2 t2, .int i3 t3, v4, v5] nv) ::
      (fl, listOf #[.int f0 g0, .int f1 g1, .int f2 g2] nf) :: (L + 1 + 1 + 1 + 1 + 1, o5) :: (L + 1 + 1 + 1 + 1, o4) :: (L + 1 + 1 + 1, o3) :: (L + 1 + 1, o2) :: (L + 1, o1) :: tl) := .head _
  refine cells_step (i := 0) CT rfl X T B (by decide) rfl rfl rfl d4 d3 mk (.tail _ (.head _)) (.tail _ (.tail _ (.tail _ (.tail _ (.head _))))) (.tail _ (.tail _ (.tail _ (.tail _ (.tail _ (.head _)))))) ?_
  intro c0 e0 es0 n0 l09 q0 hg0
  have p0 : @LT.lt Nat _ (L + 1 + 1 + 1 + 1 + 1) e0 := l09 (L + 1 + 1 + 1 + 1 + 1, o5) (.tail _ (.tail _ (.tail _ (.head _))))
  clear l09
  refine cells_step (i := 1) CT rfl X T B (by decide) rfl rfl rfl d4 d3 (.tail _ (.tail _ mk)) (.tail _ (.tail _ (.tail _ (.head _)))) (.tail _ (.tail _ (.tail _ (.tail _ (.tail _ (.tail _ (.head _))))))) (.tail _ (.tail _ (.tail _ (.tail _ (.tail _ (.tail _ (.tail _ (.head _)))))))) ?_
  intro c1 e1 es1 n1 l19 q1 hg1
  have p1 : @LT.lt Nat _ (L + 1 + 1 + 1 + 1 + 1) e1 := l19 (L + 1 + 1 + 1 + 1 + 1, o5) (.tail _ (.tail _ (.tail _ (.tail _ (.tail _ (.head _))))))
  clear l19
  refine cells_step (i := 2) CT rfl X T B (by decide) rfl rfl rfl d4 d3 (.tail _ (.tail _ (.tail _ (.tail _ mk)))) (.tail _ (.tail _ (.tail _ (.tail _ (.tail _ (.head _)))))) (.tail _ (.tail _ (.tail _ (.tail _ (.tail _ (.tail _ (.tail _ (.tail _ (.head _))))))))) (.tail _ (.tail _ (.tail _ (.tail _ (.tail _ (.tail _ (.tail _ (.tail _ (.tail _ (.head _)))))))))) ?_
  intro c2 e2 es2 n2 l29 q2 hg2
  have p2 : @LT.lt Nat _ (L + 1 + 1 + 1 + 1 + 1) e2 := l29 (L + 1 + 1 + 1 + 1 + 1, o5) (.tail _ (.tail _ (.tail _ (.tail _ (.tail _ (.tail _ (.tail _ (.head _))))))))
  clear l29
  refine cells_step (i := 3) CT rfl X T B (by decide) rfl rfl rfl d4 d3 (.tail _ (.tail _ (.tail _ (.tail _ (.tail _ (.tail _ mk)))))) (.tail _ (.tail _ (.tail _ (.tail _ (.tail _ (.tail _ (.tail _ (.head _)))))))) (.tail _ (.tail _ (.tail _ (.tail _ (.tail _ (.tail _ (.tail _ (.tail _ (.tail _ (.tail _ (.head _))))))))))) (.tail _ (.tail _ (.tail _ (.tail _ (.tail _ (.tail _ (.tail _ (.tail _ (.tail _ (.tail _ (.tail _ (.head _)))))))))))) ?_
  intro c3 e3 es3 n3 l39 q3 hg3
  have p3 : @LT.lt Nat _ (L + 1 + 1 + 1 + 1 + 1) e3 := l39 (L + 1 + 1 + 1 + 1 + 1, o5) (.tail _ (.tail _ (.tail _ (.tail _ (.tail _ (.tail _ (.tail _ (.tail _ (.tail _ (.head _))))))))))
  clear l39
  refine cells_step (i := 4) CT rfl X T B (by decide) rfl rfl (vr_handed hv4) d4 d3 (.tail _ (.tail _ (.tail _ (.tail _ (.tail _ (.tail _ (.tail _ (.tail _ mk)))))))) (.tail _ (.tail _ (.tail _ (.tail _ (.tail _ (.tail _ (.tail _ (.tail _ (.tail _ (.head _)))))))))) (.tail _ (.tail _ (.tail _ (.tail _ (.tail _ (.tail _ (.tail _ (.tail _ (.tail _ (.tail _ (.tail _ (.tail _ (.head _))))))))))))) (.tail _ (.tail _ (.tail _ (.tail _ (.tail _ (.tail _ (.tail _ (.tail _ (.tail _ (.tail _ (.tail _ (.tail _ (.tail _ (.head _)))))))))))))) ?_
  intro c4 e4 es4 n4 l49 q4 hg4
  have p4 : @LT.lt Nat _ (L + 1 + 1 + 1 + 1 + 1) e4 := l49 (L + 1 + 1 + 1 + 1 + 1, o5) (.tail _ (.tail _ (.tail _ (.tail _ (.tail _ (.tail _ (.tail _ (.tail _ (.tail _ (.tail _ (.tail _ (.head _))))))))))))
  clear l49
  refine cells_step (i := 5) CT rfl X T B (by decide) rfl rfl (vr_handed hv5) d4 d3 (.tail _ (.tail _ (.tail _ (.tail _ (.tail _ (.tail _ (.tail _ (.tail _ (.tail _ (.tail _ mk)))))))))) (.tail _ (.tail _ (.tail _ (.tail _ (.tail _ (.tail _ (.tail _ (.tail _ (.tail _ (.tail _ (.tail _ (.head _)))))))))))) (.tail _ (.tail _ (.tail _ (.tail _ (.tail _ (.tail _ (.tail _ (.tail _ (.tail _ (.tail _ (.tail _ (.tail _ (.tail _ (.tail _ (.head _))))))))))))))) (.tail _ (.tail _ (.tail _ (.tail _ (.tail _ (.tail _ (.tail _ (.tail _ (.tail _ (.tail _ (.tail _ (.tail _ (.tail _ (.tail _ (.tail _ (.head _)))))))))))))))) ?_
  intro c5 e5 es5 n5 l59 q5 hg5
  have p5 : @LT.lt Nat _ (L + 1 + 1 + 1 + 1 + 1) e5 := l59 (L + 1 + 1 + 1 + 1 + 1, o5) (.tail _ (.tail _ (.tail _ (.tail _ (.tail _ (.tail _ (.tail _ (.tail _ (.tail _ (.tail _ (.tail _ (.tail _ (.tail _ (.head _))))))))))))))
  clear l59
  refine LCg.CompRest.zero ?_
  clear mk CT
  unfold LCg.FinE
  intro D9 h9 tk9 F9 N9 o19
  replace l1 : @LT.lt Nat _ vl kd := l1
  replace l2 : @LT.lt Nat _ fl vl := l2
  replace l3 : @LT.lt Nat _ (L + 1 + 1 + 1 + 1 + 1) vl := l3
  obtain ⟨l4, l5, l6, l7, l8⟩ := l4
  simp only [LCg.Off1, and_true] at o19
  simp only [LCg.lst, List.nil_append, List.cons_append] at N9
  dsimp only
  k_steps
  unfold Stop2
  rename Fr _ _ _ _ => Fz
  rename News _ _ _ _ => Nz
  rename _ = Data.cell (some (Value.ref D9)) => d9
  clear o19
  refine' hT X T B Fz rfl rfl rfl hb ?r1 hO1 ?r2 hO2 hi0 hi1 hi2 hi3 hv4 hv5 ?k0 ?k1 ?k2 ?k3 ?k4 ?k5 (news_dup (pre := [_, _, _, _, _, _]) Nz ?sub) d2 d3 d9 ?ret
  case sub =>
    (repeat' first | exact List.forall_mem_nil _ | refine List.forall_mem_cons.mpr ⟨by k_mem, ?_⟩)
  case r1 => exact TreeR.mono hR1 fun a o q => (.tail _ (.tail _ (.tail _ (.tail _ (.tail _ (.tail _ (.tail _ (.tail _ (.tail _ (.tail _ (.tail _ (.tail _ (.tail _ (.tail _ (.tail _ (.tail _ (.tail _ (.tail _ (.tail _ (.tail _ (.tail _ q)))))))))))))))))))))
  case r2 => exact TreeR.mono hR2 fun a o q => (.tail _ (.tail _ (.tail _ (.tail _ (.tail _ (.tail _ (.tail _ (.tail _ (.tail _ (.tail _ (.tail _ (.tail _ (.tail _ (.tail _ (.tail _ (.tail _ (.tail _ (.tail _ (.tail _ (.tail _ (.tail _ q)))))))))))))))))))))
  case ret => intro h9 tk9; exact ret _ _
  case k0 => exact ⟨e0, es0, n0, (.tail _ (.tail _ (.tail _ (.tail _ (.tail _ (.tail _ (.tail _ (.tail _ (.tail _ (.tail _ (.tail _ (.head _)))))))))))), (.tail _ (.tail _ (.tail _ (.tail _ (.tail _ (.tail _ (.tail _ (.tail _ (.tail _ (.tail _ (.tail _ (.tail _ (.head _))))))))))))), hg0, rfl⟩
  case k1 => exact ⟨e1, es1, n1, (.tail _ (.tail _ (.tail _ (.tail _ (.tail _ (.tail _ (.tail _ (.tail _ (.tail _ (.head _)))))))))), (.tail _ (.tail _ (.tail _ (.tail _ (.tail _ (.tail _ (.tail _ (.tail _ (.tail _ (.tail _ (.head _))))))))))), hg1, rfl⟩
  case k2 => exact ⟨e2, es2, n2, (.tail _ (.tail _ (.tail _ (.tail _ (.tail _ (.tail _ (.tail _ (.head _)))))))), (.tail _ (.tail _ (.tail _ (.tail _ (.tail _ (.tail _ (.tail _ (.tail _ (.head _))))))))), hg2, rfl⟩
  case k3 => exact ⟨e3, es3, n3, (.tail _ (.tail _ (.tail _ (.tail _ (.tail _ (.head _)))))), (.tail _ (.tail _ (.tail _ (.tail _ (.tail _ (.tail _ (.head _))))))), hg3, rfl⟩
  case k4 => exact ⟨e4, es4, n4, (.tail _ (.tail _ (.tail _ (.head _)))), (.tail _ (.tail _ (.tail _ (.tail _ (.head _))))), hg4, vr_handed hv4⟩
  case k5 => exact ⟨e5, es5, n5, (.tail _ (.head _)), (.tail _ (.tail _ (.head _))), hg5, vr_handed hv5⟩
end
theorem news_drop2 {h₀ h : Heap} {L : Addr} {a b : Addr × Obj} {r : List (Addr × Obj)} (N : News h₀ L h (a :: b :: r)) : News h₀ L h (a :: r) := fun p hp => by
  rcases List.mem_cons.mp hp with rfl | hp
  · exact N _ (.head _)
  · exact N _ (.tail _ (.tail _ hp))
section
local macro_rules | `(tactic| walk_at "pad") => `(tactic| skip)
variable {prog : Program} {w : World} {mean : ExcName → Option Value} {mg mb : Str → Option Value}
local macro_rules | `(tactic| k_all) => `(tactic| exact allLt_ne (by simp only [*]))
local macro_rules | `(tactic| walk_at "in env") => `(tactic| (repeat' first | exact hm9 | exact List.mem_append.mpr (.inl hm9) | refine List.mem_cons_of_mem _ ?_))
local macro_rules | `(tactic| walk_at "call ref") => `(tactic| (k_here; (with_reducible show wpAny _ _ (call (Value.ref 376) _) _ _ _); (k_dflt (refine' code_use ?hb ?hO ?h4 ?hlen ?k1 ?k2 ?k3 ?k4 ?k5 ?U ?P ?kk ?hd ?hu ?_; (case k1 => k_asm); (case k2 => k_asm); (case k3 => k_asm); (case k4 => k_asm); (case k5 => k_asm); (case U => (intro o9; k_upd)); (case P => (intro g9 hg9; refine' TreeR.mono ?w1 ?w2; (case w1 => with_reducible assumption); (case w2 => (intro a9 o9 hm9; exact hg9 (a9, o9) (by repeat' first | exact hm9 | exact List.mem_append.mpr (.inl hm9) | refine List.mem_cons_of_mem _ ?_) (allLt_ne (by simp only [*]) _ hm9))))); (case hb => assumption); (case hO => with_reducible assumption); (case h4 => decide); (case hlen => exact Nat.le_of_ble_eq_true rfl); (case kk => exact rfl); (case hd => exact Nat.le_of_ble_eq_true rfl); (case hu => exact Nat.le_of_ble_eq_true rfl); k_whole)); (intro h9 tl9 tk9 new9 n9 F9 N9 off9 hI9 hln9); (simp only [List.cons_append, List.nil_append, List.append_assoc] at N9); (try dsimp only); (try k_sweep)))
local macro_rules | `(tactic| walk_at "call type:list") => `(tactic| (k_here; (with_reducible show wpAny _ _ (call (Value.type _) [Value.ref _]) _ _ _); (with_unfolding_all (refine' list_copyK ?k1 ?k2 ?k3 ?_ ?z; (case k1 => k_asm); (case k2 => k_asm); (case k3 => exact News.isList (by k_asm) (by k_mem)); (case z => (rw [sizeLine_eq, List.size_toArray]; omega)); k_whole)); (intro D' c' h' F' N' l1); (try k_lt l1); (try k_sweep)))
local macro_rules | `(tactic| walk_at "execs cons") => `(tactic| ((with_reducible show wpAny _ _ (execs (Stmt.If _ _ _ _ :: _) _) _ _ _); (refine Stop2.mk ?_)))
theorem law_tail2 {name qual : Str} {params : Arguments} {body : List Stmt} {scope : Scope} {dV kV doc pm cdv ct oc : Value} {an od : Option Addr} {osl : Array (Option Value)}
    (h : (Mine.hd.heap_39 w.params).lookup 395 = some ⟨oc, od, .func (fnOf name qual params body scope dV kV doc pm an cdv ct), osl⟩) (hT : TailN 14 prog w mean mg mb name body scope) : LawTail2 prog w mean mg mb name body scope := by
  revert hT
  refine' at_of (P := fun name body scope => TailN 14 prog w mean mg mb name body scope → LawTail2 prog w mean mg mb name body scope) h ?h1 ?_
  case h1 => k_is
  clear h
  intro hT
  intro h₀ L fa cdv s m o2 o3 o5 b tkb rt ro tr tr' env cl vl fl c0 c1 c2 c3 c4 c5 f0 f1 f2 i0 i1 i2 i3 g0 g1 g2 t0 t1 t2 t3 v4 v5 x4 x5 nc nv nf Q E X T B F hm1 hm2 hm3 hb hR1 hO1 hR2 hO2 hi0 hi1 hi2 hi3 hv4 hv5 hk0 hk1 hk2 hk3 hk4 hk5 N d2 d3 d5 ret
  have hmm : m = fun y => if y = Str.ofString "bits" then some (.int b tkb) else if y = Str.ofString "tree" then some rt else if y = Str.ofString "other" then some ro else m y := by
    funext y
    split
    · rename_i q; rw [q, hm1]
    split
    · rename_i q; rw [q, hm2]
    split
    · rename_i q; rw [q, hm3]
    rfl
  rw [hmm] at F
  clear hmm hm1 hm2 hm3
  unfold fiveL at N
  show wpAny _ _ _ _ _ _
  dsimp only [List.drop]
  (try k_fold)
  k_steps
  unfold Stop2
  rename Fr _ _ _ _ => Fz
  rename News _ _ _ _ => Nz
  rename InsRs _ _ (codeOf b tr) => j1
  rename InsRs _ _ (codeOf b tr') => j2
  refine' hT X T B Fz rfl rfl rfl rfl rfl ⟨hb, ?r1, hO1, hO2, hi0, hi1, hi2, hi3, hv4, hv5, ?k0, ?k1, ?k2, ?k3, ?k4, ?k5, ?j1, ?j2⟩ ?le1 ?le2 (news_drop2 Nz) d2 d3 d5 ?ret
  case ret => intro h9 tk9; exact ret _ _
  case le1 => with_reducible assumption
  case le2 => with_reducible assumption
  case r1 => exact TreeR.mono hR1 fun a o q => List.mem_append.mpr (.inl q)
  case k0 => exact hk0.mono fun p q => List.mem_append.mpr (.inl q)
  case k1 => exact hk1.mono fun p q => List.mem_append.mpr (.inl q)
  case k2 => exact hk2.mono fun p q => List.mem_append.mpr (.inl q)
  case k3 => exact hk3.mono fun p q => List.mem_append.mpr (.inl q)
  case k4 => exact hk4.mono fun p q => List.mem_append.mpr (.inl q)
  case k5 => exact hk5.mono fun p q => List.mem_append.mpr (.inl q)
  case j1 => exact j1.mono fun a o q => List.mem_append.mpr (.inr (List.mem_append.mpr (.inl q)))
  case j2 => exact j2.mono fun a o q => List.mem_append.mpr (.inr (List.mem_append.mpr (.inr q)))
end
theorem nt {h₀ h : Heap} {L : Addr} {a : Addr × Obj} {r : List (Addr × Obj)} (N : News h₀ L h (a :: r)) : News h₀ L h r := fun p hp => N p (.tail _ hp)
abbrev eightL (kp md bd : Addr) (bvs mvs : List Value) (nk nm nb : Nat) (cl vl fl c0 c1 c2 c3 c4 c5 : Addr) (nc nv nf : Nat) (i0 i1 i2 i3 f0 f1 f2 : Int) (t0 t1 t2 t3 g0 g1 g2 : Tok) (v4 v5 : Value) (L : Addr) (o5 o3 o2 : Obj) (env : List (Addr × Obj)) : List (Addr × Obj) :=
  (kp, listOf bvs.toArray nk) :: (md, listOf mvs.toArray nm) :: (bd, listOf bvs.toArray nb) :: fiveL cl vl fl c0 c1 c2 c3 c4 c5 nc nv nf i0 i1 i2 i3 f0 f1 f2 t0 t1 t2 t3 g0 g1 g2 v4 v5 L o5 o3 o2 env
section
variable {b : Int} {rt : Value} {tr tr' : Tr} {bvs mvs : List Value} {c0 c1 c2 c3 c4 c5 : Addr} {i0 i1 i2 i3 f0 f1 f2 : Int} {t0 t1 t2 t3 g0 g1 g2 : Tok} {v4 v5 : Value} {x4 x5 : Option Int} {env : List (Addr × Obj)}
theorem Kit.facts {h₀ h : Heap} {L kp md bd cl vl fl : Addr} {nk nm nb nc nv nf : Nat} {o5 o3 o2 : Obj} (K : Kit b rt tr tr' bvs mvs c0 c1 c2 c3 c4 c5 i0 i1 i2 i3 t0 t1 t2 t3 v4 v5 x4 x5 env)
    (N : News h₀ L h (eightL kp md bd bvs mvs nk nm nb cl vl fl c0 c1 c2 c3 c4 c5 nc nv nf i0 i1 i2 i3 f0 f1 f2 t0 t1 t2 t3 g0 g1 g2 v4 v5 L o5 o3 o2 env)) :
    EnvAt h cl fl (cv6 i0 i1 i2 i3 x4 x5) [f0, f1, f2] ∧ ValsAt h vl (cv6 i0 i1 i2 i3 x4 x5) ∧ TreeR (inH h) rt tr ∧ InsRs (inH h) bvs (codeOf b tr) ∧ InsRs (inH h) mvs (codeOf b tr') := by
  have hE : ∀ p ∈ env, h.get? p.1 = some p.2 := fun p hp => (N p (.tail _ (.tail _ (.tail _ (.tail _ (.tail _ (.tail _ (.tail _ (.tail _ (.tail _ hp)))))))))).1
  exact ⟨env_at K (N.get (.tail _ (.tail _ (.tail _ (.head _))))) (N.get (.tail _ (.tail _ (.tail _ (.tail _ (.tail _ (.head _))))))) hE, vals_at (N.get (.tail _ (.tail _ (.tail _ (.tail _ (.head _)))))), K.r1.mono fun a o q => hE _ q, K.j1.mono fun a o q => hE _ q, K.j2.mono fun a o q => hE _ q⟩
end
theorem add_two {prog : Program} {w : World} {A : Around} {E : Value → Shared → Prop} {s : Shared} {h₀ : Heap} {L a b : Addr} {m : Str → Option Value} {news : List (Addr × Obj)} {vs ws : List Value} {Q : Value → Shared → Prop}
    (F : Fr h₀ L s.heap m) (N : News h₀ L s.heap news) (ha : s.heap.IsList a vs.toArray) (hb : s.heap.IsList b ws.toArray)
    (h : ∀ D h', Fr h₀ L h' m → News h₀ L h' ((D, listOf (vs ++ ws).toArray 0) :: news) → (∀ p ∈ news, p.1 < D) → Q (.ref D) { s with heap := h' })
    (hz : vs.length + ws.length ≤ 1000) : wpAny (model prog w) A (binaryOp .Add (.ref a) (.ref b)) Q E s :=
  add_lists F N ha hb (fun h' F' N' => h _ h' F' N' fun p hp => Heap.lt_size (N p hp).1) (by rw [sizeLine_eq]; omega)
theorem m_five {m : Str → Option Value} {b : Int} {tkb : Tok} {rt : Value} {bd md kp : Addr} (hm1 : m (Str.ofString "bits") = some (.int b tkb)) (hm2 : m (Str.ofString "tree") = some rt) (hm3 : m (Str.ofString "body") = some (.ref bd)) (hm4 : m (Str.ofString "more") = some (.ref md)) (hm5 : m (Str.ofString "kept") = some (.ref kp)) :
    m = fun y => if y = Str.ofString "bits" then some (.int b tkb) else if y = Str.ofString "tree" then some rt else if y = Str.ofString "body" then some (.ref bd) else if y = Str.ofString "more" then some (.ref md) else if y = Str.ofString "kept" then some (.ref kp) else m y := by
  funext y
  split
  · rename_i q; rw [q, hm1]
  split
  · rename_i q; rw [q, hm2]
  split
  · rename_i q; rw [q, hm3]
  split
  · rename_i q; rw [q, hm4]
  split
  · rename_i q; rw [q, hm5]
  rfl
section
local macro_rules | `(tactic| walk_at "pad") => `(tactic| skip)
variable {prog : Program} {w : World} {mean : ExcName → Option Value} {mg mb : Str → Option Value}
local macro_rules | `(tactic| walk_at "binaryOp Add ref ref") => `(tactic| (k_here; (with_reducible show wpAny _ _ (binaryOp _ (Value.ref _) (Value.ref _)) _ _ _); k_dflt (refine' add_two ?F ?N ?a ?b ?_ ?z; (case F => k_asm); (case N => k_asm); (case a => exact News.isList (by k_asm) (by k_mem)); (case b => exact News.isList (by k_asm) (by k_mem)); (case z => (simp only [List.length_append, List.length_cons, List.length_nil]; omega))); intro D' h' F' N' l1; (try k_lt l1); (try k_sweep)))
local macro_rules | `(tactic| walk_at "call ref") => `(tactic| ((with_reducible show wpAny _ _ (call (Value.ref 299) _) _ _ _); refine Stop2.mk ?_))
local macro_rules | `(tactic| walk_at "call ref") => `(tactic| ((with_reducible show wpAny _ _ (call (Value.ref 383) _) _ _ _); refine Stop2.mk ?_))
local macro_rules | `(tactic| walk_at "execs cons") => `(tactic| ((with_reducible show wpAny _ _ (execs (Stmt.Assign _ _ _ :: _) _) _ _ _); (refine Stop2.mk ?_)))
local macro_rules | `(tactic| walk_at "env mem") => `(tactic| (intro p9 hp9; repeat' first | exact hp9 | refine List.mem_cons_of_mem _ ?_))
theorem tail14 {name qual : Str} {params : Arguments} {body : List Stmt} {scope : Scope} {dV kV doc pm cdv ct oc : Value} {an od : Option Addr} {osl : Array (Option Value)}
    (h : (Mine.hd.heap_39 w.params).lookup 395 = some ⟨oc, od, .func (fnOf name qual params body scope dV kV doc pm an cdv ct), osl⟩) (hT : TailN 15 prog w mean mg mb name body scope) : TailN 14 prog w mean mg mb name body scope := by
  revert hT
  refine' at_of (P := fun name body scope => TailN 15 prog w mean mg mb name body scope → TailN 14 prog w mean mg mb name body scope) h ?h1 ?_
  case h1 => k_is
  clear h
  intro hT
  intro h₀ L fa cdv s m o2 o3 o5 b tkb rt tr tr' bvs mvs env bd md kp cl vl fl c0 c1 c2 c3 c4 c5 f0 f1 f2 i0 i1 i2 i3 g0 g1 g2 t0 t1 t2 t3 v4 v5 x4 x5 nb nm nk nc nv nf Q E X T B F hm1 hm2 hm3 hm4 hm5 K le1 le2 N d2 d3 d5 ret
  have hmm := m_five hm1 hm2 hm3 hm4 hm5
  rw [hmm] at F
  clear hmm hm1 hm2 hm3 hm4 hm5
  unfold fiveL at N
  have N0 := N
  show wpAny _ _ _ _ _ _
  dsimp only [List.drop]
  (try k_fold)
  k_steps
  unfold Stop2
  rename Fr _ _ _ _ => F1
  rename News _ _ _ _ => N1
  refine body_use (K.run (fv := [f0, f1, f2]) (rest := [⟨11, none⟩]) run_end) ?len (fun h N => ⟨N.isList (.head _), (K.facts (nt (nt (nt N)))).2.2.2.1.app (.cons ⟨_, _, tkb, _, rfl, N.get (.tail _ (.tail _ (.head _)))⟩ .nil), (K.facts (nt (nt (nt N)))).1⟩) B F1 N1 X T rfl ?hd ?hu fun r h9 tk9 F9 N9 hv9 => ?_
  case len => simp only [List.length_append, List.length_cons, List.length_nil]; omega
  case hd => exact Nat.le_of_ble_eq_true rfl
  case hu => exact Nat.le_of_ble_eq_true rfl
  obtain ⟨tr9, rfl⟩ := hv9
  clear F1 N1
  (try dsimp only)
  k_steps
  unfold Stop2
  rename Fr _ _ _ _ => F1
  rename News _ _ _ _ => N1
  refine due_use K.hb K.cvOk K.ok1 (by decide) (fun h N => ⟨(K.facts (nt (nt (nt N)))).2.2.1, (K.facts (nt (nt (nt N)))).2.1⟩) B F1 N1 X T rfl ?hd ?hu fun h9 tk9 tkr9 F9 N9 => ?_
  case hd => exact Nat.le_of_ble_eq_true rfl
  case hu => exact Nat.le_of_ble_eq_true rfl
  clear F1 N1
  (try dsimp only)
  k_steps
  · rename due _ _ _ ≠ due _ _ _ => hne
    exact absurd rfl hne
  · unfold Stop2
    exact hT X T B F9 rfl rfl rfl rfl rfl K le1 le2 (nt (nt (nt N9))) d2 d3 d5 fun h9 tk9 => ret _ _
end
structure Five (m : Str → Option Value) (b : Int) (tkb : Tok) (rt : Value) (bd md kp : Addr) : Prop where
  h1 : m (Str.ofString "bits") = some (.int b tkb)
  h2 : m (Str.ofString "tree") = some rt
  h3 : m (Str.ofString "body") = some (.ref bd)
  h4 : m (Str.ofString "more") = some (.ref md)
  h5 : m (Str.ofString "kept") = some (.ref kp)
def RowOk (env : List (Addr × Obj)) (cv : List (Option Int)) (fv : List Int) (v : Value) : Prop :=
  ∃ (p q : Addr) (d : Value) (c z : Int) (x : Option Int) (t1 t2 : Tok) (n n' : Nat), v = .ref p ∧ (p, tupO [.ref q, d] n) ∈ env ∧ (q, tupO [.int c t1, .int z t2] n') ∈ env ∧ runF cv fv [] [⟨c, some z⟩, ⟨11, none⟩] = some (some [x]) ∧ VR d x
def forOf (n : Nat) (body : List Stmt) : Option (Expr × List Stmt) := match body.drop n with
  | .For t _ fb _ _ :: _ => some (t, fb)
  | _ => none
def RowTurn (prog : Program) (w : World) (mean : ExcName → Option Value) (mg mb : Str → Option Value) (name : Str) (body : List Stmt) (scope : Scope) : Prop :=
  ∀ ⦃ta : Expr⦄ ⦃fb : List Stmt⦄, forOf 17 body = some (ta, fb) → ∀ ⦃h₀ : Heap⦄ ⦃L fa : Addr⦄ ⦃cdv : Value⦄ ⦃s : Shared⦄ ⦃m : Str → Option Value⦄ ⦃o2 o3 o5 : Obj⦄ ⦃b : Int⦄ ⦃tkb : Tok⦄ ⦃rt : Value⦄ ⦃tr tr' : Tr⦄ ⦃bvs mvs : List Value⦄ ⦃env : List (Addr × Obj)⦄ ⦃bd md kp cl vl fl c0 c1 c2 c3 c4 c5 : Addr⦄
    ⦃f0 f1 f2 i0 i1 i2 i3 : Int⦄ ⦃g0 g1 g2 t0 t1 t2 t3 : Tok⦄ ⦃v4 v5 : Value⦄ ⦃x4 x5 : Option Int⦄ ⦃nb nm nk nc nv nf : Nat⦄ ⦃v : Value⦄ ⦃all : List (Addr × Obj)⦄ ⦃Q : Flow → Shared → Prop⦄ ⦃E : Value → Shared → Prop⦄,
    (Mine.hd.heap_39 w.params).In h₀ → kTop mean mg mb h₀ → Below callerA h₀ [] h₀ → Fr h₀ L s.heap m → Five m b tkb rt bd md kp →
    Kit b rt tr tr' bvs mvs c0 c1 c2 c3 c4 c5 i0 i1 i2 i3 t0 t1 t2 t3 v4 v5 x4 x5 env → RowOk env (cv6 i0 i1 i2 i3 x4 x5) [f0, f1, f2] v →
    News h₀ L s.heap all → (∀ p ∈ eightL kp md bd bvs mvs nk nm nb cl vl fl c0 c1 c2 c3 c4 c5 nc nv nf i0 i1 i2 i3 f0 f1 f2 t0 t1 t2 t3 g0 g1 g2 v4 v5 L o5 o3 o2 env, p ∈ all) →
    o2.data = .cell (some (.ref fl)) → o3.data = .cell (some (.ref vl)) → o5.data = .cell (some (.ref cl)) →
    (∀ m' h' tk, Five m' b tkb rt bd md kp → Fr h₀ L h' m' → News h₀ L h' all → Q .next { s with heap := h', toks := tk }) →
    wpAny (model prog w) (callerA.deeper (envOfC name scope L fa cdv)) (assign ta (envOfC name scope L fa cdv) v) (fun _ s₂ => wpAny (model prog w) (callerA.deeper (envOfC name scope L fa cdv)) (execs fb (envOfC name scope L fa cdv)) Q E s₂) E s
section
variable {prog : Program} {w : World} {mean : ExcName → Option Value} {mg mb : Str → Option Value}
local macro_rules | `(tactic| walk_at "call ref") => `(tactic| ((with_reducible show wpAny _ _ (call (Value.ref 299) _) _ _ _); refine Stop2.mk ?_))
local macro_rules | `(tactic| walk_at "compareOp NotEq") => `(tactic| (refine vr_ne (by with_reducible assumption) (by with_reducible assumption) ?_))
theorem row_turn {name qual : Str} {params : Arguments} {body : List Stmt} {scope : Scope} {dV kV doc pm cdv ct oc : Value} {an od : Option Addr} {osl : Array (Option Value)}
    (h : (Mine.hd.heap_39 w.params).lookup 395 = some ⟨oc, od, .func (fnOf name qual params body scope dV kV doc pm an cdv ct), osl⟩) : RowTurn prog w mean mg mb name body scope := by
  refine' at_of (P := fun name body scope => RowTurn prog w mean mg mb name body scope) h ?h1 ?_
  case h1 => k_is
  clear h
  intro ta fb he
  have he' : some (_, _) = some (ta, fb) := he
  cases he'
  clear he
  intro h₀ L fa cdv s m o2 o3 o5 b tkb rt tr tr' bvs mvs env bd md kp cl vl fl c0 c1 c2 c3 c4 c5 f0 f1 f2 i0 i1 i2 i3 g0 g1 g2 t0 t1 t2 t3 v4 v5 x4 x5 nb nm nk nc nv nf v all Q E X T B F M K R N sub d2 d3 d5 ret
  have hmm := m_five M.h1 M.h2 M.h3 M.h4 M.h5
  rw [hmm] at F
  clear hmm M
  obtain ⟨p, q, d, c, z, x, t1, t2, n1, n2, rfl, hp, hq, hrun, hd⟩ := R
  have hE : ∀ a ∈ env, a ∈ all := fun a ha => sub a (.tail _ (.tail _ (.tail _ (.tail _ (.tail _ (.tail _ (.tail _ (.tail _ (.tail _ ha)))))))))
  have N2 := news_dup (pre := [(p, tupO [.ref q, d] n1), (q, tupO [.int c t1, .int z t2] n2), (L + 1 + 1 + 1 + 1 + 1, o5), (L + 1 + 1 + 1, o3), (L + 1 + 1, o2)]) N (List.forall_mem_cons.mpr ⟨hE _ hp, List.forall_mem_cons.mpr ⟨hE _ hq, List.forall_mem_cons.mpr ⟨sub _ (.tail _ (.tail _ (.tail _ (.tail _ (.tail _ (.tail _ (.head _))))))), List.forall_mem_cons.mpr ⟨sub _ (.tail _ (.tail _ (.tail _ (.tail _ (.tail _ (.tail _ (.tail _ (.head _)))))))), List.forall_mem_cons.mpr ⟨sub _ (.tail _ (.tail _ (.tail _ (.tail _ (.tail _ (.tail _ (.tail _ (.tail _ (.head _))))))))), List.forall_mem_nil _⟩⟩⟩⟩⟩)
  clear N
  simp only [List.cons_append, List.nil_append] at N2
  show wpAny _ _ _ _ _ _
  (try k_fold)
  k_steps
  unfold Stop2
  rename Fr _ _ _ _ => F1
  rename News _ _ _ _ => N1
  refine body_use hrun ?len (fun h N => ⟨N.isList (.head _), .cons ⟨q, t1, t2, n2, rfl, N.get (.tail _ (.tail _ (.tail _ (.head _))))⟩ (.cons ⟨_, _, t1, _, rfl, N.get (.tail _ (.head _))⟩ .nil), (K.facts (fun a ha => N a (.tail _ (.tail _ (.tail _ (.tail _ (.tail _ (.tail _ (.tail _ (sub a ha)))))))))).1⟩) B F1 N1 X T rfl ?hd ?hu fun r h9 tk9 F9 N9 hv9 => ?_
  case len => exact Nat.le_of_ble_eq_true rfl
  case hd => exact Nat.le_of_ble_eq_true rfl
  case hu => exact Nat.le_of_ble_eq_true rfl
  clear F1 N1
  (try dsimp only)
  k_steps
  exact ret _ _ _ ⟨rfl, rfl, rfl, rfl, rfl⟩ F9 (nt (nt (nt (nt (nt (nt (nt N9)))))))
end
def TailFor (prog : Program) (w : World) (mean : ExcName → Option Value) (mg mb : Str → Option Value) (name : Str) (body : List Stmt) (scope : Scope) : Prop :=
  ∀ ⦃h₀ : Heap⦄ ⦃L fa : Addr⦄ ⦃cdv : Value⦄ ⦃s : Shared⦄ ⦃m : Str → Option Value⦄ ⦃o2 o3 o5 : Obj⦄ ⦃b : Int⦄ ⦃tkb : Tok⦄ ⦃rt : Value⦄ ⦃tr tr' : Tr⦄ ⦃bvs mvs rvs : List Value⦄ ⦃env : List (Addr × Obj)⦄ ⦃rl bd md kp cl vl fl c0 c1 c2 c3 c4 c5 : Addr⦄
    ⦃f0 f1 f2 i0 i1 i2 i3 : Int⦄ ⦃g0 g1 g2 t0 t1 t2 t3 : Tok⦄ ⦃v4 v5 : Value⦄ ⦃x4 x5 : Option Int⦄ ⦃nr nb nm nk nc nv nf : Nat⦄ ⦃Q : Flow → Shared → Prop⦄ ⦃E : Value → Shared → Prop⦄,
    (Mine.hd.heap_39 w.params).In h₀ → kTop mean mg mb h₀ → Below callerA h₀ [] h₀ → Fr h₀ L s.heap m → Five m b tkb rt bd md kp → m (Str.ofString "rows") = some (.ref rl) →
    Kit b rt tr tr' bvs mvs c0 c1 c2 c3 c4 c5 i0 i1 i2 i3 t0 t1 t2 t3 v4 v5 x4 x5 env → bvs.length ≤ 31 → mvs.length ≤ 31 → (∀ v ∈ rvs, RowOk env (cv6 i0 i1 i2 i3 x4 x5) [f0, f1, f2] v) →
    News h₀ L s.heap ((rl, listOf rvs.toArray nr) :: eightL kp md bd bvs mvs nk nm nb cl vl fl c0 c1 c2 c3 c4 c5 nc nv nf i0 i1 i2 i3 f0 f1 f2 t0 t1 t2 t3 g0 g1 g2 v4 v5 L o5 o3 o2 env) →
    o2.data = .cell (some (.ref fl)) → o3.data = .cell (some (.ref vl)) → o5.data = .cell (some (.ref cl)) →
    (∀ h' tk m', Fr h₀ L h' m' → Q (.ret (.bool true)) { s with heap := h', toks := tk }) →
    wpAny (model prog w) (callerA.deeper (envOfC name scope L fa cdv)) (execs (body.drop 17) (envOfC name scope L fa cdv)) Q E s
theorem rows_items {prog : Program} {w : World} {mean : ExcName → Option Value} {mg mb : Str → Option Value} {name : Str} {body : List Stmt} {scope : Scope} (RT : RowTurn prog w mean mg mb name body scope) {ta : Expr} {fb : List Stmt} (he : forOf 17 body = some (ta, fb))
    {h₀ : Heap} {L fa : Addr} {cdv : Value} {s : Shared} {o2 o3 o5 lo : Obj} {b : Int} {tkb : Tok} {rt : Value} {tr tr' : Tr} {bvs mvs : List Value} {env : List (Addr × Obj)} {I rl bd md kp cl vl fl c0 c1 c2 c3 c4 c5 : Addr}
    {f0 f1 f2 i0 i1 i2 i3 : Int} {g0 g1 g2 t0 t1 t2 t3 : Tok} {v4 v5 : Value} {x4 x5 : Option Int} {nb nm nk nc nv nf : Nat} {all : List (Addr × Obj)} {Q : Flow → Shared → Prop} {E : Value → Shared → Prop}
    (X : (Mine.hd.heap_39 w.params).In h₀) (T : kTop mean mg mb h₀) (B : Below callerA h₀ [] h₀)
    (K : Kit b rt tr tr' bvs mvs c0 c1 c2 c3 c4 c5 i0 i1 i2 i3 t0 t1 t2 t3 v4 v5 x4 x5 env)
    (sub : ∀ p ∈ eightL kp md bd bvs mvs nk nm nb cl vl fl c0 c1 c2 c3 c4 c5 nc nv nf i0 i1 i2 i3 f0 f1 f2 t0 t1 t2 t3 g0 g1 g2 v4 v5 L o5 o3 o2 env, p ∈ all)
    (d2 : o2.data = .cell (some (.ref fl))) (d3 : o3.data = .cell (some (.ref vl))) (d5 : o5.data = .cell (some (.ref cl))) (hI : ∀ p ∈ all, p.1 < I) (hrl : (rl, lo) ∈ all)
    (fin : ∀ m h tk, Five m b tkb rt bd md kp → Fr h₀ L h m → News h₀ L h all → Q .next { s with heap := h, toks := tk }) :
    ∀ rvs : List Value, (∀ v ∈ rvs, RowOk env (cv6 i0 i1 i2 i3 x4 x5) [f0, f1, f2] v) → ∀ m, Five m b tkb rt bd md kp →
      ItemsRest prog w (callerA.deeper (envOfC name scope L fa cdv)) E h₀ (envOfC name scope L fa cdv) ta fb Q s [(I, "list_iterator")] [(rl, lo)] (rvs.map .val) m all
  | [], _, m, M => ItemsRest.zero fun h tk F N => fin m h tk M F N
  | v :: r, hr, m, M => ItemsRest.val fun h tk F o ho N => by
    refine RT he X T B F M K (hr v (.head _)) N (fun p hp => .tail _ (sub p hp)) d2 d3 d5 fun m' h' tk' M' F' N' => ?_
    exact ⟨h', tk', m', all, rfl, F', N', fun p hp q hq => by rw [List.mem_singleton.mp hq]; exact Nat.ne_of_lt (hI p hp), ⟨hrl, trivial⟩, rows_items RT he X T B K sub d2 d3 d5 hI hrl fin r (fun v hv => hr v (.tail _ hv)) m' M'⟩
section
local macro_rules | `(tactic| walk_at "pad") => `(tactic| skip)
variable {prog : Program} {w : World} {mean : ExcName → Option Value} {mg mb : Str → Option Value}
local macro_rules | `(tactic| walk_at "exec For Tuple Name cons nil") => `(tactic| (k_here; (rename Fr _ _ _ _ => lF'); (with_unfolding_all refine' For_turns (hE := ?hE) lF' ?_); (case hE => exact fun _ _ (h : False) => h.elim); k_whole))
local macro_rules | `(tactic| walk_at "pyIter ref") => `(tactic| (refine Stop2.mk ?_))
theorem tail17 {name qual : Str} {params : Arguments} {body : List Stmt} {scope : Scope} {dV kV doc pm cdv ct oc : Value} {an od : Option Addr} {osl : Array (Option Value)}
    (h : (Mine.hd.heap_39 w.params).lookup 395 = some ⟨oc, od, .func (fnOf name qual params body scope dV kV doc pm an cdv ct), osl⟩) (hT : TailN 18 prog w mean mg mb name body scope) : TailFor prog w mean mg mb name body scope := by
  have RT := row_turn (prog := prog) (mean := mean) (mg := mg) (mb := mb) h
  revert hT RT
  refine' at_of (P := fun name body scope => TailN 18 prog w mean mg mb name body scope → RowTurn prog w mean mg mb name body scope → TailFor prog w mean mg mb name body scope) h ?h1 ?_
  case h1 => k_is
  clear h
  intro hT RT
  intro h₀ L fa cdv s m o2 o3 o5 b tkb rt tr tr' bvs mvs rvs env rl bd md kp cl vl fl c0 c1 c2 c3 c4 c5 f0 f1 f2 i0 i1 i2 i3 g0 g1 g2 t0 t1 t2 t3 v4 v5 x4 x5 nr nb nm nk nc nv nf Q E X T B F M hrw K le1 le2 hR N d2 d3 d5 ret
  have hmm := m_five M.h1 M.h2 M.h3 M.h4 M.h5
  have hmm2 : m = fun y => if y = Str.ofString "rows" then some (.ref rl) else m y := by
    funext y
    split
    · rename_i q; rw [q, hrw]
    · rfl
  rw [hmm2] at F
  clear hmm hmm2
  show wpAny _ _ _ _ _ _
  refine wpAny_mono (?_ : wpAny _ _ _ Q (fun _ _ => False) _) (fun _ _ x => x) (fun _ _ x => x.elim)
  dsimp only [List.drop]
  (try k_fold)
  k_steps
  unfold Stop2
  rename Fr _ _ _ _ => F1
  rename News _ _ _ _ => N1
  refine iter_listTurns rfl F1 N1 (.head _) rfl rfl fun I hI => ?_
  refine rows_items RT rfl X T B K (fun p hp => .tail _ hp) d2 d3 d5 hI (.head _) ?fin rvs hR _ ⟨M.h1, M.h2, M.h3, M.h4, M.h5⟩
  intro m9 h9 tk9 M9 F9 N9
  exact hT X T B F9 M9.h1 M9.h2 M9.h3 M9.h4 M9.h5 K le1 le2 (nt N9) d2 d3 d5 fun h8 tk8 => ret _ _
end
theorem Kit.mono {b : Int} {rt : Value} {tr tr' : Tr} {bvs mvs : List Value} {c0 c1 c2 c3 c4 c5 : Addr} {i0 i1 i2 i3 : Int} {t0 t1 t2 t3 : Tok} {v4 v5 : Value} {x4 x5 : Option Int} {env env' : List (Addr × Obj)}
    (K : Kit b rt tr tr' bvs mvs c0 c1 c2 c3 c4 c5 i0 i1 i2 i3 t0 t1 t2 t3 v4 v5 x4 x5 env) (sub : ∀ p ∈ env, p ∈ env') : Kit b rt tr tr' bvs mvs c0 c1 c2 c3 c4 c5 i0 i1 i2 i3 t0 t1 t2 t3 v4 v5 x4 x5 env' :=
  ⟨K.hb, K.r1.mono fun a o q => sub _ q, K.ok1, K.ok2, K.b0, K.b1, K.b2, K.b3, K.w4, K.w5, K.k0.mono sub, K.k1.mono sub, K.k2.mono sub, K.k3.mono sub, K.k4.mono sub, K.k5.mono sub, K.j1.mono fun a o q => sub _ q, K.j2.mono fun a o q => sub _ q⟩
theorem allLt_at {d : Addr} : ∀ {l : List (Addr × Obj)}, AllLt d l → ∀ p ∈ l, @LT.lt Nat _ p.1 d
  | [], _ => fun _ h => nomatch h
  | _ :: _, h => fun p hp => by
    rcases List.mem_cons.mp hp with rfl | hp
    · exact h.1
    · exact allLt_at h.2 p hp
def fElt (body : List Stmt) : Option (Expr × Scope) := match body.drop 16 with
  | .Assign _ (.BinOp _ _ (.ListComp e _ sc _) _) _ :: _ => some (e, sc)
  | _ => none
abbrev clFuncs (L : Addr) : List (Str × Addr) := [(Str.ofString "funcs", L + 1 + 1)]
abbrev turnF (C : Addr) (oC : Obj) (fl : Addr) (fvs : List Value) (nf : Nat) (L : Addr) (o2 : Obj) (news : List (Addr × Obj)) : List (Addr × Obj) :=
  (C, oC) :: (fl, listOf fvs.toArray nf) :: (L + 1 + 1, o2) :: news
def FuncTurn (prog : Program) (w : World) (mean : ExcName → Option Value) (mg mb : Str → Option Value) (name : Str) (body : List Stmt) (scope : Scope) : Prop :=
  ∀ ⦃e : Expr⦄ ⦃sc : Scope⦄, fElt body = some (e, sc) → ∀ ⦃h₀ : Heap⦄ ⦃L fa C fl : Addr⦄ ⦃cdv : Value⦄ ⦃s : Shared⦄ ⦃m m₂ : Str → Option Value⦄ ⦃oC o2 : Obj⦄ ⦃nf : Nat⦄ ⦃news : List (Addr × Obj)⦄ ⦃k : Int⦄ ⦃tkk : Tok⦄ ⦃v : Value⦄ ⦃fvs : List Value⦄ ⦃Q : Value → Shared → Prop⦄ ⦃E : Value → Shared → Prop⦄,
    (Mine.hd.heap_39 w.params).In h₀ → kTop mean mg mb h₀ → Below callerA h₀ [] h₀ → Fr h₀ L s.heap m → LCg.NsObj oC m₂ → m₂ (Str.ofString "k") = some (.int k tkk) → 0 ≤ k → k < 6 → fvs[k.toNat]? = some v →
    o2.data = .cell (some (.ref fl)) → News h₀ L s.heap (turnF C oC fl fvs nf L o2 news) →
    (∀ p q h' tk ta n n', Fr h₀ L h' m → News h₀ L h' ((p, tupO [.ref q, v] n) :: (q, tupO [.int 210 ta, .int k tkk] n') :: turnF C oC fl fvs nf L o2 news) → (∀ a ∈ turnF C oC fl fvs nf L o2 news, @LT.lt Nat _ a.1 q) → @LT.lt Nat _ q p → Q (.ref p) { s with heap := h', toks := tk }) →
    wpAny (model prog w) (callerA.deeper (envOfC name scope L fa cdv)) (eval e (compEnvC sc (clFuncs L) C (envOfC name scope L fa cdv))) Q E s
section
variable {prog : Program} {w : World} {mean : ExcName → Option Value} {mg mb : Str → Option Value}
local macro_rules | `(tactic| walk_at "subscriptTail") => `(tactic| (k_here; (with_reducible show wpAny _ _ (subscriptTail _ _ (Value.ref _) (Value.int _ _)) _ _ _); (k_dflt (refine' list_item ?hl ?h0 ?hhi ?hx ?_; (case hl => exact News.isList (by k_asm) (by k_mem)); (case hx => with_reducible assumption); (case h0 => omega); (case hhi => omega); k_whole))))
theorem func_turn {name qual : Str} {params : Arguments} {body : List Stmt} {scope : Scope} {dV kV doc pm cdv ct oc : Value} {an od : Option Addr} {osl : Array (Option Value)}
    (h : (Mine.hd.heap_39 w.params).lookup 395 = some ⟨oc, od, .func (fnOf name qual params body scope dV kV doc pm an cdv ct), osl⟩) : FuncTurn prog w mean mg mb name body scope := by
  refine' at_of (P := fun name body scope => FuncTurn prog w mean mg mb name body scope) h ?h1 ?_
  case h1 => k_is
  clear h
  intro e sc he
  have he' : some (_, _) = some (e, sc) := he
  cases he'
  clear he
  intro h₀ L fa C fl cdv s m m₂ oC o2 nf news k tkk v fvs Q E X T B F hC hm h0 h6 hv d2 N ret
  have hvl : k.toNat < fvs.length := (List.getElem?_eq_some_iff.mp hv).1
  show wpAny _ _ _ _ _ _
  (try k_fold)
  k_steps
  rename_i q h2 l1 p h3 F9 N9 l2
  exact ret p q _ _ _ _ _ F9 N9 (allLt_at (l := turnF C oC fl fvs nf L o2 news) l1) l2.1
end
theorem funcs_step {prog : Program} {w : World} {mean : ExcName → Option Value} {mg mb : Str → Option Value} {name : Str} {body : List Stmt} {scope : Scope} (CT : FuncTurn prog w mean mg mb name body scope) {e : Expr} {sc : Scope} (he : fElt body = some (e, sc))
    {h₀ : Heap} {L fa fl : Addr} {cdv : Value} {s : Shared} {m : Str → Option Value} {o2 : Obj} {nf : Nat} {news : List (Addr × Obj)} {v : Value} {fvs ys : List Value} {i j : Nat} {Fin : List Value → List (Addr × Obj) → Prop}
    (X : (Mine.hd.heap_39 w.params).In h₀) (T : kTop mean mg mb h₀) (B : Below callerA h₀ [] h₀) (h6 : i < 6) (hv : fvs[i]? = some v)
    (d2 : o2.data = .cell (some (.ref fl))) (mf : (fl, (listOf fvs.toArray nf : Obj)) ∈ news) (m2 : (L + 1 + 1, o2) ∈ news)
    (rest : ∀ p q ta tb n n', LCg.CompRest prog w (callerA.deeper (envOfC name scope L fa cdv)) h₀ L m (envOfC name scope L fa cdv) e (Str.ofString "k") sc (clFuncs L) s (fun _ => True) (fun i v => ∃ t, v = Value.int (0 + (i : Int)) t) Fin j (i + 1) (ys ++ [.ref p]) ((p, tupO [.ref q, v] n) :: (q, tupO [.int 210 ta, .int (0 + (i : Int)) tb] n') :: news)) :
    LCg.CompRest prog w (callerA.deeper (envOfC name scope L fa cdv)) h₀ L m (envOfC name scope L fa cdv) e (Str.ofString "k") sc (clFuncs L) s (fun _ => True) (fun i v => ∃ t, v = Value.int (0 + (i : Int)) t) Fin (j + 1) i ys news := by
  refine LCg.CompRest.succ ?_
  intro v' I oI C oC D m₂ h tk E' hv' hC hx F N off ne
  obtain ⟨t, rfl⟩ := hv'
  have e0 : ((0 + (i : Int)) : Int).toNat = i := by omega
  have N1 : News h₀ L h (turnF C oC fl fvs nf L o2 ((I, oI) :: (C, oC) :: (D, LCg.lst ys) :: news)) := by
    intro p hp
    apply N
    simp only [List.mem_cons] at hp ⊢
    rcases hp with rfl | rfl | rfl | hp
    · exact .inr (.inl rfl)
    · exact .inr (.inr (.inr mf))
    · exact .inr (.inr (.inr m2))
    · exact hp
  refine CT he X T B F hC hx (by omega) (by omega) (by rw [e0]; exact hv) d2 N1 fun p q h' tk' ta n n' F' N' l1 l2 => ?_
  have lI : @LT.lt Nat _ I q := l1 (I, oI) (.tail _ (.tail _ (.tail _ (.head _))))
  have lC : @LT.lt Nat _ C q := l1 (C, oC) (.head _)
  have lD : @LT.lt Nat _ D q := l1 (D, LCg.lst ys) (.tail _ (.tail _ (.tail _ (.tail _ (.tail _ (.head _))))))
  refine LCg.CompEnd.intro F' N' ((p, tupO [.ref q, v] n) :: (q, tupO [.int 210 ta, .int (0 + (i : Int)) t] n') :: news) ?_ ⟨⟨neN ?_, neN ?_, neN ?_⟩, ⟨neN ?_, neN ?_, neN ?_⟩, off⟩ trivial (rest p q ta t n n')
  · intro p hp
    simp only [turnF, List.mem_cons] at hp ⊢
    rcases hp with h1 | h1 | h1 | h1 | h1 | h1
    · exact .inr (.inr (.inr (.inr (.inr (.inl h1)))))
    · exact .inr (.inr (.inl h1))
    · exact .inr (.inr (.inr (.inr (.inr (.inr (.inr (.inl h1)))))))
    · exact .inl h1
    · exact .inr (.inl h1)
    · exact .inr (.inr (.inr (.inr (.inr (.inr (.inr (.inr h1)))))))
  all_goals omega
section
variable {prog : Program} {w : World} {mean : ExcName → Option Value} {mg mb : Str → Option Value}
local macro_rules | `(tactic| walk_at "eval ListComp") => `(tactic| (k_here; k_dflt (refine LCg.ListComp_U (F₀ := by k_asm) (by with_unfolding_all rfl) (by decide) (by rfl) (by decide) (by rfl) ?_); k_dflt lcg_toSrc))
local macro_rules | `(tactic| walk_at "CompSrc") => `(tactic| (k_here; k_dflt (first
  | (refine LCg.CompSrc.ledger (by rfl) (by k_asm) (by k_asm) (by k_mem) (by first | size_fits | exact Nat.le_of_ble_eq_true rfl) ?_; intro g'; lcg_lit)
  | (refine LCg.CompSrc.range (by rfl) (by k_asm) (by k_asm) (by assumption) (by first | decide | rfl) (by first | rfl | decide) (by first | size_fits | exact Nat.le_of_ble_eq_true rfl) ?_; intro g'; lcg_lit))))
local macro_rules | `(tactic| walk_at "subscriptTail") => `(tactic| (k_here; (with_reducible show wpAny _ _ (subscriptTail _ _ (Value.ref vl) (Value.int 5 _)) _ _ _); (k_dflt (refine' list_item ?hl ?h0 ?hhi ?hx ?_; (case hl => exact News.isList (by k_asm) (by k_mem)); (case hx => exact rfl); (case h0 => decide); (case hhi => decide); k_whole))))
local macro_rules | `(tactic| walk_at "CompRest") => `(tactic| (refine Stop2.mk ?_))
local macro_rules | `(tactic| walk_at "binaryOp Add ref ref") => `(tactic| (k_here; (with_reducible show wpAny _ _ (binaryOp _ (Value.ref _) (Value.ref _)) _ _ _); k_dflt (refine' add_two ?F ?N ?a ?b ?_ ?z; (case F => k_asm); (case N => k_asm); (case a => exact News.isList (by k_asm) (by k_mem)); (case b => exact News.isList (by k_asm) (by k_mem)); (case z => exact Nat.le_of_ble_eq_true rfl)); intro D' h' F' N' l1; (try k_lt l1); (try k_sweep)))
local macro_rules | `(tactic| walk_at "execs cons") => `(tactic| ((with_reducible show wpAny _ _ (execs (Stmt.For _ _ _ _ _ :: _) _) _ _ _); (refine Stop2.mk ?_)))
local macro_rules | `(tactic| walk_at "row ok") => `(tactic| (refine' ⟨_, _, _, _, _, _, _, _, _, _, rfl, ?m1, ?m2, ?m3, ?m4⟩; (case m1 => k_mem); (case m2 => k_mem); (case m3 => exact rfl); (case m4 => first | exact rfl | exact ⟨_, rfl⟩ | with_reducible assumption)))
theorem tail15 {name qual : Str} {params : Arguments} {body : List Stmt} {scope : Scope} {dV kV doc pm cdv ct oc : Value} {an od : Option Addr} {osl : Array (Option Value)}
    (h : (Mine.hd.heap_39 w.params).lookup 395 = some ⟨oc, od, .func (fnOf name qual params body scope dV kV doc pm an cdv ct), osl⟩) (hT : TailFor prog w mean mg mb name body scope) : TailN 15 prog w mean mg mb name body scope := by
  have CT := func_turn (prog := prog) (mean := mean) (mg := mg) (mb := mb) h
  revert hT CT
  refine' at_of (P := fun name body scope => TailFor prog w mean mg mb name body scope → FuncTurn prog w mean mg mb name body scope → TailN 15 prog w mean mg mb name body scope) h ?h1 ?_
  case h1 => k_is
  clear h
  intro hT CT
  intro h₀ L fa cdv s m o2 o3 o5 b tkb rt tr tr' bvs mvs env bd md kp cl vl fl c0 c1 c2 c3 c4 c5 f0 f1 f2 i0 i1 i2 i3 g0 g1 g2 t0 t1 t2 t3 v4 v5 x4 x5 nb nm nk nc nv nf Q E X T B F hm1 hm2 hm3 hm4 hm5 K le1 le2 N d2 d3 d5 ret
  have hmm := m_five hm1 hm2 hm3 hm4 hm5
  rw [hmm] at F
  clear hmm hm1 hm2 hm3 hm4 hm5
  unfold fiveL at N
  show wpAny _ _ _ _ _ _
  dsimp only [List.drop]
  (try k_fold)
  k_steps
  unfold Stop2
  refine funcs_step (i := 0) (fvs := [.int f0 g0, .int f1 g1, .int f2 g2]) CT rfl X T B (by decide) rfl d2 (.tail _ (.tail _ (.tail _ (.tail _ (.tail _ (.tail _ (.tail _ (.tail _ (.tail _ (.tail _ (.tail _ (.tail _ (.tail _ (.tail _ (.head _))))))))))))))) (.tail _ (.tail _ (.tail _ (.tail _ (.tail _ (.tail _ (.tail _ (.tail _ (.tail _ (.tail _ (.tail _ (.tail _ (.tail _ (.tail _ (.tail _ (.tail _ (.tail _ (.head _)))))))))))))))))) ?_
  intro p09 q09 a0 b0 n0 n0'
  refine funcs_step (i := 1) (fvs := [.int f0 g0, .int f1 g1, .int f2 g2]) CT rfl X T B (by decide) rfl d2 (.tail _ (.tail _ (.tail _ (.tail _ (.tail _ (.tail _ (.tail _ (.tail _ (.tail _ (.tail _ (.tail _ (.tail _ (.tail _ (.tail _ (.tail _ (.tail _ (.head _))))))))))))))))) (.tail _ (.tail _ (.tail _ (.tail _ (.tail _ (.tail _ (.tail _ (.tail _ (.tail _ (.tail _ (.tail _ (.tail _ (.tail _ (.tail _ (.tail _ (.tail _ (.tail _ (.tail _ (.tail _ (.head _)))))))))))))))))))) ?_
  intro p19 q19 a1 b1 n1 n1'
  refine funcs_step (i := 2) (fvs := [.int f0 g0, .int f1 g1, .int f2 g2]) CT rfl X T B (by decide) rfl d2 (.tail _ (.tail _ (.tail _ (.tail _ (.tail _ (.tail _ (.tail _ (.tail _ (.tail _ (.tail _ (.tail _ (.tail _ (.tail _ (.tail _ (.tail _ (.tail _ (.tail _ (.tail _ (.head _))))))))))))))))))) (.tail _ (.tail _ (.tail _ (.tail _ (.tail _ (.tail _ (.tail _ (.tail _ (.tail _ (.tail _ (.tail _ (.tail _ (.tail _ (.tail _ (.tail _ (.tail _ (.tail _ (.tail _ (.tail _ (.tail _ (.tail _ (.head _)))))))))))))))))))))) ?_
  intro p29 q29 a2 b2 n2 n2'
  refine LCg.CompRest.zero ?_
  clear CT
  unfold LCg.FinE
  intro D9 h9 tk9 F9 N9 o19
  clear o19
  simp only [LCg.lst, List.nil_append, List.cons_append] at N9
  dsimp only
  k_steps
  unfold Stop2
  rename Fr _ _ _ _ => Fz
  rename News _ _ _ _ => Nz
  simp only [List.cons_append, List.nil_append] at Nz
  have w4 := K.w4
  have w5 := K.w5
  refine' hT X T B Fz ⟨rfl, rfl, rfl, rfl, rfl⟩ rfl (K.mono ?ks) le1 le2 ?rows (news_dup (pre := [_, _, _, _, _, _, _, _, _, _]) Nz ?sub) d2 d3 d5 (fun h9 tk9 => ret _ _)
  case sub =>
    (repeat' first | exact List.forall_mem_nil _ | refine List.forall_mem_cons.mpr ⟨by k_mem, ?_⟩)
  case ks =>
    intro p9 hp9
    simp only [List.append_eq, List.nil_append]
    (repeat' first | exact hp9 | refine List.mem_cons_of_mem _ ?_)
  case rows =>
    simp only [List.append_eq, List.nil_append]
    refine List.forall_mem_cons.mpr ⟨by walk_at "row ok", List.forall_mem_cons.mpr ⟨by walk_at "row ok", List.forall_mem_cons.mpr ⟨by walk_at "row ok", List.forall_mem_cons.mpr ⟨by walk_at "row ok", List.forall_mem_cons.mpr ⟨by walk_at "row ok", List.forall_mem_cons.mpr ⟨by walk_at "row ok", List.forall_mem_cons.mpr ⟨by walk_at "row ok", List.forall_mem_nil _⟩⟩⟩⟩⟩⟩⟩
end
def OddOk (env : List (Addr × Obj)) (cv : List (Option Int)) (fv : List Int) (v : Value) : Prop :=
  ∃ (a : Addr) (vs : List Value) (is : List Ins) (R : Option (List (Option Int))) (n : Nat), v = .ref a ∧ (a, listOf vs.toArray n) ∈ env ∧ InsRs (inL env) vs is ∧ vs.length ≤ 100000 ∧ runF cv fv [] is = some R ∧ ∀ x, R ≠ some [x]
theorem OddOk.mono {env env' : List (Addr × Obj)} {cv : List (Option Int)} {fv : List Int} {v : Value} (x : OddOk env cv fv v) (hs : ∀ p ∈ env, p ∈ env') : OddOk env' cv fv v := by
  obtain ⟨a, vs, is, R, n, h1, h2, h3, h4⟩ := x
  exact ⟨a, vs, is, R, n, h1, hs _ h2, h3.mono fun a o q => hs _ q, h4⟩
def oElt (body : List Stmt) : Option (Expr × Scope) := match body.drop 20 with
  | .If (.UnaryOp _ (.Call _ [.ListComp e _ sc _] _ _) _) _ _ _ :: _ => some (e, sc)
  | _ => none
abbrev clOdd (L : Addr) : List (Str × Addr) := [(Str.ofString "funcs", L + 1 + 1), (Str.ofString "cells", L + 1 + 1 + 1 + 1 + 1)]
abbrev turnO (C : Addr) (oC : Obj) (L : Addr) (o5 o2 : Obj) (all : List (Addr × Obj)) : List (Addr × Obj) := (C, oC) :: (L + 1 + 1 + 1 + 1 + 1, o5) :: (L + 1 + 1, o2) :: all
def OddTurn (prog : Program) (w : World) (mean : ExcName → Option Value) (mg mb : Str → Option Value) (name : Str) (body : List Stmt) (scope : Scope) : Prop :=
  ∀ ⦃e : Expr⦄ ⦃sc : Scope⦄, oElt body = some (e, sc) → ∀ ⦃h₀ : Heap⦄ ⦃L fa C cl fl : Addr⦄ ⦃cdv : Value⦄ ⦃s : Shared⦄ ⦃m m₂ : Str → Option Value⦄ ⦃oC o2 o5 : Obj⦄ ⦃env all : List (Addr × Obj)⦄ ⦃v : Value⦄ ⦃cv : List (Option Int)⦄ ⦃fv : List Int⦄ ⦃Q : Value → Shared → Prop⦄ ⦃E : Value → Shared → Prop⦄,
    (Mine.hd.heap_39 w.params).In h₀ → kTop mean mg mb h₀ → Below callerA h₀ [] h₀ → Fr h₀ L s.heap m → LCg.NsObj oC m₂ → m₂ (Str.ofString "one") = some v → OddOk env cv fv v →
    o2.data = .cell (some (.ref fl)) → o5.data = .cell (some (.ref cl)) → News h₀ L s.heap (turnO C oC L o5 o2 all) → (∀ p ∈ env, p ∈ all) → (∀ h, News h₀ L h (turnO C oC L o5 o2 all) → EnvAt h cl fl cv fv) →
    (∀ h' tk, Fr h₀ L h' m → News h₀ L h' (turnO C oC L o5 o2 all) → Q (.bool true) { s with heap := h', toks := tk }) →
    wpAny (model prog w) (callerA.deeper (envOfC name scope L fa cdv)) (eval e (compEnvC sc (clOdd L) C (envOfC name scope L fa cdv))) Q E s
section
variable {prog : Program} {w : World} {mean : ExcName → Option Value} {mg mb : Str → Option Value}
local macro_rules | `(tactic| walk_at "call ref") => `(tactic| ((with_reducible show wpAny _ _ (call (Value.ref 390) _) _ _ _); refine Stop2.mk ?_))
theorem odd_turn {name qual : Str} {params : Arguments} {body : List Stmt} {scope : Scope} {dV kV doc pm cdv ct oc : Value} {an od : Option Addr} {osl : Array (Option Value)}
    (h : (Mine.hd.heap_39 w.params).lookup 395 = some ⟨oc, od, .func (fnOf name qual params body scope dV kV doc pm an cdv ct), osl⟩) : OddTurn prog w mean mg mb name body scope := by
  refine' at_of (P := fun name body scope => OddTurn prog w mean mg mb name body scope) h ?h1 ?_
  case h1 => k_is
  clear h
  intro e sc he
  have he' : some (_, _) = some (e, sc) := he
  cases he'
  clear he
  intro h₀ L fa C cl fl cdv s m m₂ oC o2 o5 env all v cv fv Q E X T B F hC hm O d2 d5 N sub hE ret
  obtain ⟨a, vs, is, R, n, rfl, ha, hI, hlen, hrun, hR⟩ := O
  show wpAny _ _ _ _ _ _
  (try k_fold)
  k_steps
  unfold Stop2
  rename Fr _ _ _ _ => F1
  rename News _ _ _ _ => N1
  exact refused_use hrun hR hlen (fun h N => ⟨N.isList (.tail _ (.tail _ (.tail _ (sub _ ha)))), hI.mono fun a o q => N.get (.tail _ (.tail _ (.tail _ (sub _ q)))), hE h N⟩) B F1 N1 X T rfl (by exact Nat.le_of_ble_eq_true rfl) (by exact Nat.le_of_ble_eq_true rfl) fun h' tk F' N' => ret h' tk F' N'
end
theorem odd_step {prog : Program} {w : World} {mean : ExcName → Option Value} {mg mb : Str → Option Value} {name : Str} {body : List Stmt} {scope : Scope} (CT : OddTurn prog w mean mg mb name body scope) {e : Expr} {sc : Scope} (he : oElt body = some (e, sc))
    {h₀ : Heap} {L fa cl fl ax : Addr} {cdv : Value} {s : Shared} {m : Str → Option Value} {o2 o5 : Obj} {env news : List (Addr × Obj)} {cv : List (Option Int)} {fv : List Int} {ovs : List Value} {Fin : List Value → List (Addr × Obj) → Prop}
    (X : (Mine.hd.heap_39 w.params).In h₀) (T : kTop mean mg mb h₀) (B : Below callerA h₀ [] h₀) (hO : ∀ v ∈ ovs, OddOk env cv fv v)
    (d2 : o2.data = .cell (some (.ref fl))) (d5 : o5.data = .cell (some (.ref cl))) (m2 : (L + 1 + 1, o2) ∈ news) (m5 : (L + 1 + 1 + 1 + 1 + 1, o5) ∈ news) (sub : ∀ p ∈ env, p ∈ news) (hE : ∀ h, News h₀ L h news → EnvAt h cl fl cv fv)
    (src : LCg.SrcAt h₀ ax ovs.toArray news) (fin : Fin (List.replicate ovs.length (.bool true)) news) :
    ∀ (k i : Nat), i + k = ovs.length → LCg.CompRest prog w (callerA.deeper (envOfC name scope L fa cdv)) h₀ L m (envOfC name scope L fa cdv) e (Str.ofString "one") sc (clOdd L) s (LCg.SrcAt h₀ ax ovs.toArray) (fun i v => ovs.toArray[i]? = some v) Fin k i (List.replicate i (.bool true)) news
  | 0, i, hi => by
    refine LCg.CompRest.zero ?_
    have : i = ovs.length := by omega
    rw [this]; exact fin
  | k + 1, i, hi => by
    refine LCg.CompRest.succ ?_
    intro v I oI C oC D m₂ h tk E' hv hC hx F N off ne
    have hv' : ovs[i]? = some v := by simpa using hv
    have N1 : News h₀ L h (turnO C oC L o5 o2 ((I, oI) :: (C, oC) :: (D, LCg.lst (List.replicate i (.bool true))) :: news)) := by
      intro p hp
      apply N
      simp only [List.mem_cons] at hp ⊢
      rcases hp with rfl | rfl | rfl | hp
      · exact .inr (.inl rfl)
      · exact .inr (.inr (.inr m5))
      · exact .inr (.inr (.inr m2))
      · exact hp
    refine CT he X T B F hC hx (hO v (List.mem_of_getElem? hv')) d2 d5 N1 (fun p hp => .tail _ (.tail _ (.tail _ (sub p hp)))) (fun h N => hE h (nt (nt (nt (nt (nt (nt N))))))) fun h' tk' F' N' => ?_
    refine LCg.CompEnd.intro F' (nt (nt (nt N'))) news (fun p hp => hp) off src ?_
    have e1 : List.replicate i (Value.bool true) ++ [.bool true] = List.replicate (i + 1) (.bool true) := by rw [← List.replicate_succ']
    rw [e1]
    exact odd_step CT he X T B hO d2 d5 m2 m5 sub hE src fin k (i + 1) (by omega)
theorem bools_rep : ∀ n : Nat, LSm.BoolsAre (List.replicate n (.bool true)) (List.replicate n true)
  | 0 => .nil
  | n + 1 => .cons _ (bools_rep n)
def TailOdd (n lim : Nat) (prog : Program) (w : World) (mean : ExcName → Option Value) (mg mb : Str → Option Value) (name : Str) (body : List Stmt) (scope : Scope) : Prop :=
  ∀ ⦃h₀ : Heap⦄ ⦃L fa : Addr⦄ ⦃cdv : Value⦄ ⦃s : Shared⦄ ⦃m : Str → Option Value⦄ ⦃o2 o3 o5 : Obj⦄ ⦃b : Int⦄ ⦃tkb : Tok⦄ ⦃rt : Value⦄ ⦃tr tr' : Tr⦄ ⦃bvs mvs ovs : List Value⦄ ⦃env : List (Addr × Obj)⦄ ⦃ol bd md kp cl vl fl c0 c1 c2 c3 c4 c5 : Addr⦄
    ⦃f0 f1 f2 i0 i1 i2 i3 : Int⦄ ⦃g0 g1 g2 t0 t1 t2 t3 : Tok⦄ ⦃v4 v5 : Value⦄ ⦃x4 x5 : Option Int⦄ ⦃no nb nm nk nc nv nf : Nat⦄ ⦃Q : Flow → Shared → Prop⦄ ⦃E : Value → Shared → Prop⦄,
    (Mine.hd.heap_39 w.params).In h₀ → kTop mean mg mb h₀ → Below callerA h₀ [] h₀ → Fr h₀ L s.heap m → Five m b tkb rt bd md kp → m (Str.ofString "odd") = some (.ref ol) →
    Kit b rt tr tr' bvs mvs c0 c1 c2 c3 c4 c5 i0 i1 i2 i3 t0 t1 t2 t3 v4 v5 x4 x5 env → bvs.length ≤ 31 → mvs.length ≤ 31 → (∀ v ∈ ovs, OddOk env (cv6 i0 i1 i2 i3 x4 x5) [f0, f1, f2] v) → ovs.length ≤ lim →
    News h₀ L s.heap ((ol, listOf ovs.toArray no) :: eightL kp md bd bvs mvs nk nm nb cl vl fl c0 c1 c2 c3 c4 c5 nc nv nf i0 i1 i2 i3 f0 f1 f2 t0 t1 t2 t3 g0 g1 g2 v4 v5 L o5 o3 o2 env) →
    o2.data = .cell (some (.ref fl)) → o3.data = .cell (some (.ref vl)) → o5.data = .cell (some (.ref cl)) →
    (∀ h' tk m', Fr h₀ L h' m' → Q (.ret (.bool true)) { s with heap := h', toks := tk }) →
    wpAny (model prog w) (callerA.deeper (envOfC name scope L fa cdv)) (execs (body.drop n) (envOfC name scope L fa cdv)) Q E s
section
variable {prog : Program} {w : World} {mean : ExcName → Option Value} {mg mb : Str → Option Value}
local macro_rules | `(tactic| walk_at "eval ListComp") => `(tactic| (k_here; k_dflt (refine LCg.ListComp_U (F₀ := by k_asm) (by with_unfolding_all rfl) (by decide) (by rfl) (by decide) (by rfl) ?_); k_dflt lcg_toSrc))
local macro_rules | `(tactic| walk_at "CompSrc") => `(tactic| (refine Stop2.mk ?_))
local macro_rules | `(tactic| walk_at "call builtin:all") => `(tactic| (refine Stop2.mk ?_))
local macro_rules | `(tactic| walk_at "execs cons") => `(tactic| ((with_reducible show wpAny _ _ (execs (Stmt.Return _ _ :: _) _) _ _ _); (refine Stop2.mk ?_)))
theorem tail20 {name qual : Str} {params : Arguments} {body : List Stmt} {scope : Scope} {dV kV doc pm cdv ct oc : Value} {an od : Option Addr} {osl : Array (Option Value)}
    (h : (Mine.hd.heap_39 w.params).lookup 395 = some ⟨oc, od, .func (fnOf name qual params body scope dV kV doc pm an cdv ct), osl⟩) (hT : TailN 21 prog w mean mg mb name body scope) : TailOdd 20 1000 prog w mean mg mb name body scope := by
  have CT := odd_turn (prog := prog) (mean := mean) (mg := mg) (mb := mb) h
  revert hT CT
  refine' at_of (P := fun name body scope => TailN 21 prog w mean mg mb name body scope → OddTurn prog w mean mg mb name body scope → TailOdd 20 1000 prog w mean mg mb name body scope) h ?h1 ?_
  case h1 => k_is
  clear h
  intro hT CT
  intro h₀ L fa cdv s m o2 o3 o5 b tkb rt tr tr' bvs mvs ovs env ol bd md kp cl vl fl c0 c1 c2 c3 c4 c5 f0 f1 f2 i0 i1 i2 i3 g0 g1 g2 t0 t1 t2 t3 v4 v5 x4 x5 no nb nm nk nc nv nf Q E X T B F M hodd K le1 le2 hO le3 N d2 d3 d5 ret
  have hmm : m = fun y => if y = Str.ofString "odd" then some (.ref ol) else m y := by
    funext y
    split
    · rename_i q; rw [q, hodd]
    · rfl
  rw [hmm] at F
  clear hmm
  have N9 := N
  unfold eightL fiveL at N
  show wpAny _ _ _ _ _ _
  dsimp only [List.drop]
  (try k_fold)
  k_steps
  unfold Stop2
  rename Fr _ _ _ _ => F1
  refine LCg.CompSrc.ledger (its := ovs.toArray) rfl F1 N9 (.head _) (by rw [sizeLine_eq, List.size_toArray]; omega) fun g9 => ?_
  refine odd_step CT rfl X T B hO d2 d5 (.tail _ (.tail _ (.tail _ (.tail _ (.tail _ (.tail _ (.tail _ (.tail _ (.tail _ (.head _)))))))))) (.tail _ (.tail _ (.tail _ (.tail _ (.tail _ (.tail _ (.tail _ (.head _)))))))) (fun p hp => .tail _ (.tail _ (.tail _ (.tail _ (.tail _ (.tail _ (.tail _ (.tail _ (.tail _ (.tail _ hp)))))))))) (fun h N => (K.facts (nt N)).1) (.inr ⟨_, .head _, rfl, _, rfl⟩) ?fin ovs.length 0 (by omega)
  clear CT N N9 F1
  unfold LCg.FinE
  intro D9 h9 tk9 F9 N9 o19
  clear o19
  (try dsimp only)
  k_steps
  unfold Stop2
  refine LSm.all_bools F9 N9 rfl (N9.isList (.head _)) (bools_rep _) fun h8 tk8 F8 N8 => ?_
  rw [show (List.replicate ovs.length true).all id = true from by simp]
  clear F9 N9
  (try dsimp only)
  k_steps
  unfold Stop2
  exact hT X T B F8 M.h1 M.h2 M.h3 M.h4 M.h5 K le1 le2 (nt (nt N8)) d2 d3 d5 fun h9 tk9 => ret _ _
end
section
variable {prog : Program} {w : World} {mean : ExcName → Option Value} {mg mb : Str → Option Value}
local macro_rules | `(tactic| walk_at "binaryOp Add ref ref") => `(tactic| (k_here; (with_reducible show wpAny _ _ (binaryOp _ (Value.ref _) (Value.ref _)) _ _ _); k_dflt (refine' add_two ?F ?N ?a ?b ?_ ?z; (case F => k_asm); (case N => k_asm); (case a => exact News.isList (by k_asm) (by k_mem)); (case b => exact News.isList (by k_asm) (by k_mem)); (case z => first | exact Nat.le_of_ble_eq_true rfl | ((try simp only [List.length_append, List.length_cons, List.length_nil]); omega))); intro D' h' F' N' l1; (try k_lt l1); (try k_sweep)))
local macro_rules | `(tactic| walk_at "execs cons") => `(tactic| ((with_reducible show wpAny _ _ (execs (Stmt.If _ _ _ _ :: _) _) _ _ _); (refine Stop2.mk ?_)))
local macro_rules | `(tactic| walk_at "in all") => `(tactic| (intro a9 o9 q9; repeat' first | exact q9 | refine List.mem_cons_of_mem _ ?_))
local macro_rules | `(tactic| walk_at "odd len") => `(tactic| first | exact Nat.le_of_ble_eq_true rfl | ((try simp only [List.length_append, List.length_cons, List.length_nil]); omega))
local macro_rules | `(tactic| walk_at "env all") => `(tactic| (intro a9 q9; repeat' first | exact q9 | refine List.mem_cons_of_mem _ ?_))
local macro_rules | `(tactic| walk_at "execs cons") => `(tactic| ((with_reducible show wpAny _ _ (execs (Stmt.Assign [Expr.Name (Str.ofString "odd") _] (Expr.BinOp _ _ _ _) _ :: _) _) _ _ _); (refine Stop2.mk ?_)))
theorem tail18 {name qual : Str} {params : Arguments} {body : List Stmt} {scope : Scope} {dV kV doc pm cdv ct oc : Value} {an od : Option Addr} {osl : Array (Option Value)}
    (h : (Mine.hd.heap_39 w.params).lookup 395 = some ⟨oc, od, .func (fnOf name qual params body scope dV kV doc pm an cdv ct), osl⟩) (hT : TailOdd 19 900 prog w mean mg mb name body scope) : TailN 18 prog w mean mg mb name body scope := by
  revert hT
  refine' at_of (P := fun name body scope => TailOdd 19 900 prog w mean mg mb name body scope → TailN 18 prog w mean mg mb name body scope) h ?h1 ?_
  case h1 => k_is
  clear h
  intro hT
  intro h₀ L fa cdv s m o2 o3 o5 b tkb rt tr tr' bvs mvs env bd md kp cl vl fl c0 c1 c2 c3 c4 c5 f0 f1 f2 i0 i1 i2 i3 g0 g1 g2 t0 t1 t2 t3 v4 v5 x4 x5 nb nm nk nc nv nf Q E X T B F hm1 hm2 hm3 hm4 hm5 K le1 le2 N d2 d3 d5 ret
  have hmm := m_five hm1 hm2 hm3 hm4 hm5
  rw [hmm] at F
  clear hmm hm1 hm2 hm3 hm4 hm5
  unfold fiveL at N
  show wpAny _ _ _ _ _ _
  dsimp only [List.drop]
  (try k_fold)
  k_steps
  unfold Stop2
  rename Fr _ _ _ _ => Fz
  rename News _ _ _ _ => Nz
  (try simp only [List.cons_append, List.nil_append] at Nz)
  refine' hT X T B Fz ⟨rfl, rfl, rfl, rfl, rfl⟩ rfl (K.mono ?ks) le1 le2 ?odds ?len (news_dup (pre := [_, _, _, _, _, _, _, _, _, _]) Nz ?sub) d2 d3 d5 (fun h9 tk9 => ret _ _)
  case sub =>
    (repeat' first | exact List.forall_mem_nil _ | refine List.forall_mem_cons.mpr ⟨by k_mem, ?_⟩)
  case len => exact Nat.le_of_ble_eq_true rfl
  case ks =>
    intro p9 hp9
    simp only [List.append_eq, List.nil_append]
    (repeat' first | exact hp9 | refine List.mem_cons_of_mem _ ?_)
  case odds =>
    simp only [List.append_eq, List.nil_append]
    refine List.forall_mem_cons.mpr ⟨?o1, ?_⟩
    case o1 =>
      refine' ⟨_, _, [], some [], _, rfl, ?mm1, ?ins1, ?ln1, ?run1, ?bad1⟩
      case mm1 => k_mem
      case ins1 => exact .nil
      case ln1 => walk_at "odd len"
      case run1 => exact rfl
      case bad1 => exact nofun
    refine List.forall_mem_cons.mpr ⟨?o2, ?_⟩
    case o2 =>
      refine' ⟨_, _, [⟨11, none⟩], some [], _, rfl, ?mm2, ?ins2, ?ln2, ?run2, ?bad2⟩
      case mm2 => k_mem
      case ins2 => exact .cons ⟨_, _, (0 : Nat), _, rfl, by k_mem⟩ .nil
      case ln2 => walk_at "odd len"
      case run2 => exact rfl
      case bad2 => exact nofun
    refine List.forall_mem_cons.mpr ⟨?o3, ?_⟩
    case o3 =>
      refine' ⟨_, _, codeOf b tr ++ codeOf b tr' ++ [⟨11, none⟩], some [some (due b (cv6 i0 i1 i2 i3 x4 x5) tr), some (due b (cv6 i0 i1 i2 i3 x4 x5) tr')], _, rfl, ?mm3, ?ins3, ?ln3, ?run3, ?bad3⟩
      case mm3 => k_mem
      case ins3 => exact ((K.j1.mono (by walk_at "in all")).app (K.j2.mono (by walk_at "in all"))).app (.cons ⟨_, _, (0 : Nat), _, rfl, by k_mem⟩ .nil)
      case ln3 => walk_at "odd len"
      case run3 => exact K.run2 run_end
      case bad3 => exact fun x9 h9 => by simp at h9
    refine List.forall_mem_cons.mpr ⟨?o4, ?_⟩
    case o4 =>
      refine' ⟨_, _, [⟨32, some 0⟩, ⟨11, none⟩], none, _, rfl, ?mm4, ?ins4, ?ln4, ?run4, ?bad4⟩
      case mm4 => k_mem
      case ins4 => exact .cons ⟨_, _, _, _, rfl, by k_mem⟩ (.cons ⟨_, _, (0 : Nat), _, rfl, by k_mem⟩ .nil)
      case ln4 => walk_at "odd len"
      case run4 => exact rfl
      case bad4 => exact nofun
    refine List.forall_mem_cons.mpr ⟨?o5, ?_⟩
    case o5 =>
      refine' ⟨_, _, codeOf b tr ++ [⟨16, some 1⟩, ⟨11, none⟩], none, _, rfl, ?mm5, ?ins5, ?ln5, ?run5, ?bad5⟩
      case mm5 => k_mem
      case ins5 => exact (K.j1.mono (by walk_at "in all")).app (.cons ⟨_, _, _, _, rfl, by k_mem⟩ (.cons ⟨_, _, (0 : Nat), _, rfl, by k_mem⟩ .nil))
      case ln5 => walk_at "odd len"
      case run5 => exact K.run rfl
      case bad5 => exact nofun
    exact List.forall_mem_nil _
theorem tail19 {name qual : Str} {params : Arguments} {body : List Stmt} {scope : Scope} {dV kV doc pm cdv ct oc : Value} {an od : Option Addr} {osl : Array (Option Value)}
    (h : (Mine.hd.heap_39 w.params).lookup 395 = some ⟨oc, od, .func (fnOf name qual params body scope dV kV doc pm an cdv ct), osl⟩) (hT : TailOdd 20 1000 prog w mean mg mb name body scope) : TailOdd 19 900 prog w mean mg mb name body scope := by
  revert hT
  refine' at_of (P := fun name body scope => TailOdd 20 1000 prog w mean mg mb name body scope → TailOdd 19 900 prog w mean mg mb name body scope) h ?h1 ?_
  case h1 => k_is
  clear h
  intro hT
  intro h₀ L fa cdv s m o2 o3 o5 b tkb rt tr tr' bvs mvs ovs env ol bd md kp cl vl fl c0 c1 c2 c3 c4 c5 f0 f1 f2 i0 i1 i2 i3 g0 g1 g2 t0 t1 t2 t3 v4 v5 x4 x5 no nb nm nk nc nv nf Q E X T B F M hodd K le1 le2 hO le3 N d2 d3 d5 ret
  have hmm := m_five M.h1 M.h2 M.h3 M.h4 M.h5
  have hmm2 : m = fun y => if y = Str.ofString "odd" then some (.ref ol) else m y := by
    funext y
    split
    · rename_i q; rw [q, hodd]
    · rfl
  rw [hmm2, hmm] at F
  clear hmm hmm2 M hodd
  unfold eightL fiveL at N
  show wpAny _ _ _ _ _ _
  dsimp only [List.drop]
  refine wpAny_execs_cons ?_
  (try k_fold)
  k_steps
  unfold Stop2
  rename Fr _ _ _ _ => Fz
  rename News _ _ _ _ => Nz
  (try simp only [List.cons_append, List.nil_append] at Nz)
  refine' hT X T B Fz ⟨rfl, rfl, rfl, rfl, rfl⟩ rfl (K.mono ?ks) le1 le2 ?odds ?len (news_dup (pre := [_, _, _, _, _, _, _, _, _, _]) Nz ?sub) d2 d3 d5 (fun h9 tk9 => ret _ _)
  case sub =>
    (repeat' first | exact List.forall_mem_nil _ | refine List.forall_mem_cons.mpr ⟨by k_mem, ?_⟩)
  case len => (simp only [List.length_append, List.length_cons, List.length_nil]; omega)
  case ks =>
    intro p9 hp9
    simp only [List.append_eq, List.nil_append]
    (repeat' first | exact hp9 | refine List.mem_cons_of_mem _ ?_)
  case odds =>
    simp only [List.append_eq, List.nil_append]
    refine List.forall_mem_append.mpr ⟨fun v9 hv9 => (hO v9 hv9).mono (by walk_at "env all"), ?_⟩
    refine List.forall_mem_cons.mpr ⟨?o6, ?_⟩
    case o6 =>
      refine' ⟨_, _, [⟨106, none⟩, ⟨11, none⟩], none, _, rfl, ?mm6, ?ins6, ?ln6, ?run6, ?bad6⟩
      case mm6 => k_mem
      case ins6 => exact .cons ⟨_, _, (0 : Nat), _, rfl, by k_mem⟩ (.cons ⟨_, _, (0 : Nat), _, rfl, by k_mem⟩ .nil)
      case ln6 => walk_at "odd len"
      case run6 => exact rfl
      case bad6 => exact nofun
    refine List.forall_mem_cons.mpr ⟨?o7, ?_⟩
    case o7 =>
      refine' ⟨_, _, codeOf b tr ++ [⟨125, none⟩, ⟨11, none⟩], none, _, rfl, ?mm7, ?ins7, ?ln7, ?run7, ?bad7⟩
      case mm7 => k_mem
      case ins7 => exact (K.j1.mono (by walk_at "in all")).app (.cons ⟨_, _, (0 : Nat), _, rfl, by k_mem⟩ (.cons ⟨_, _, (0 : Nat), _, rfl, by k_mem⟩ .nil))
      case ln7 => walk_at "odd len"
      case run7 => exact K.run rfl
      case bad7 => exact nofun
    refine List.forall_mem_cons.mpr ⟨?o8, ?_⟩
    case o8 =>
      refine' ⟨_, _, codeOf b tr ++ codeOf b tr' ++ [⟨109, none⟩, ⟨11, none⟩], none, _, rfl, ?mm8, ?ins8, ?ln8, ?run8, ?bad8⟩
      case mm8 => k_mem
      case ins8 => exact ((K.j1.mono (by walk_at "in all")).app (K.j2.mono (by walk_at "in all"))).app (.cons ⟨_, _, (0 : Nat), _, rfl, by k_mem⟩ (.cons ⟨_, _, (0 : Nat), _, rfl, by k_mem⟩ .nil))
      case ln8 => walk_at "odd len"
      case run8 => exact K.run2 rfl
      case bad8 => exact nofun
    refine List.forall_mem_cons.mpr ⟨?o9, ?_⟩
    case o9 =>
      refine' ⟨_, _, [⟨63, none⟩, ⟨11, none⟩], none, _, rfl, ?mm9, ?ins9, ?ln9, ?run9, ?bad9⟩
      case mm9 => k_mem
      case ins9 => exact .cons ⟨_, _, (0 : Nat), _, rfl, by k_mem⟩ (.cons ⟨_, _, (0 : Nat), _, rfl, by k_mem⟩ .nil)
      case ln9 => walk_at "odd len"
      case run9 => exact rfl
      case bad9 => exact nofun
    exact List.forall_mem_nil _
end
theorem eq_same {prog : Program} {w : World} {A : Around} {E : Value → Shared → Prop} {s : Shared} {l b : Addr} {items : Array Value} {Q : Value → Shared → Prop} (hl : s.heap.IsList l items) (hb : s.heap.IsList b items) (hu : A.units < cLine)
    (h : Q (.bool true) s) : wpAny (model prog w) A (compareOp .Eq (.ref l) (.ref b)) Q E s :=
  PySem.SeqAt.eq_listAt (e := fun _ => true) hl hb rfl hu (fun j h1 h2 => PySem.SeqAt.EqAt.same _) (by rw [show (List.range items.size).all (fun _ => true) = true from List.all_eq_true.mpr fun _ _ => rfl]; exact h)
def gElt (body : List Stmt) : Option (Expr × Scope) := match body.drop 21 with
  | .Return (some (.BoolOp _ [_, .Compare (.ListComp e _ sc _) _ _ _] _)) _ :: _ => some (e, sc)
  | _ => none
def ReadTurn (prog : Program) (w : World) (mean : ExcName → Option Value) (mg mb : Str → Option Value) (name : Str) (body : List Stmt) (scope : Scope) : Prop :=
  ∀ ⦃e : Expr⦄ ⦃sc : Scope⦄, gElt body = some (e, sc) → ∀ ⦃h₀ : Heap⦄ ⦃L fa C c : Addr⦄ ⦃cdv : Value⦄ ⦃s : Shared⦄ ⦃m m₂ : Str → Option Value⦄ ⦃oC ox : Obj⦄ ⦃es : List DictEntry⦄ ⦃n : Nat⦄ ⦃all : List (Addr × Obj)⦄ ⦃v : Value⦄ ⦃Q : Value → Shared → Prop⦄ ⦃E : Value → Shared → Prop⦄,
    (Mine.hd.heap_39 w.params).In h₀ → kTop mean mg mb h₀ → Below callerA h₀ [] h₀ → Fr h₀ L s.heap m → LCg.NsObj oC m₂ → m₂ (Str.ofString "cell") = some (.ref c) →
    W.InstAt s.heap c ox 344 (some (dictOf es n)) → getL (Str.ofString "value") es = some (some v) → handedIn v = true → News h₀ L s.heap ((C, oC) :: all) →
    (∀ h' tk, Fr h₀ L h' m → News h₀ L h' ((C, oC) :: all) → Q v { s with heap := h', toks := tk }) →
    wpAny (model prog w) (callerA.deeper (envOfC name scope L fa cdv)) (eval e (compEnvC sc [] C (envOfC name scope L fa cdv))) Q E s
section
variable {prog : Program} {w : World} {mean : ExcName → Option Value} {mg mb : Str → Option Value}
local macro_rules | `(tactic| walk_at "getAttr ref") => `(tactic| (k_here; k_dflt (refine' get_own ?k1 ?k2 ?k3 ?k4 ?k5 ?k6 ?k7 ?k8 ?k9 ?_; (case k1 => k_asm); (case k2 => k_asm); (case k3 => assumption); (case k4 => k_is); (case k5 => k_is); (case k6 => k_is); (case k7 => k_is); (case k8 => assumption); (case k9 => assumption); k_whole)))
theorem read_turn {name qual : Str} {params : Arguments} {body : List Stmt} {scope : Scope} {dV kV doc pm cdv ct oc : Value} {an od : Option Addr} {osl : Array (Option Value)}
    (h : (Mine.hd.heap_39 w.params).lookup 395 = some ⟨oc, od, .func (fnOf name qual params body scope dV kV doc pm an cdv ct), osl⟩) : ReadTurn prog w mean mg mb name body scope := by
  refine' at_of (P := fun name body scope => ReadTurn prog w mean mg mb name body scope) h ?h1 ?_
  case h1 => k_is
  clear h
  intro e sc he
  have he' : some (_, _) = some (e, sc) := he
  cases he'
  clear he
  intro h₀ L fa C c cdv s m m₂ oC ox es n all v Q E X T B F hC hm I hg hh N ret
  show wpAny _ _ _ _ _ _
  (try k_fold)
  k_steps
  exact ret _ _ F N
end
theorem read_step {prog : Program} {w : World} {mean : ExcName → Option Value} {mg mb : Str → Option Value} {name : Str} {body : List Stmt} {scope : Scope} (CT : ReadTurn prog w mean mg mb name body scope) {e : Expr} {sc : Scope} (he : gElt body = some (e, sc))
    {h₀ : Heap} {L fa ax c : Addr} {cdv : Value} {s : Shared} {m : Str → Option Value} {env news : List (Addr × Obj)} {v : Value} {its : Array Value} {ys : List Value} {k i : Nat} {Fin : List Value → List (Addr × Obj) → Prop}
    (X : (Mine.hd.heap_39 w.params).In h₀) (T : kTop mean mg mb h₀) (B : Below callerA h₀ [] h₀) (hi : its[i]? = some (.ref c)) (hc : CellIn env c v) (sub : ∀ p ∈ env, p ∈ news) (src : LCg.SrcAt h₀ ax its news)
    (rest : LCg.CompRest prog w (callerA.deeper (envOfC name scope L fa cdv)) h₀ L m (envOfC name scope L fa cdv) e (Str.ofString "cell") sc [] s (LCg.SrcAt h₀ ax its) (fun i v => its[i]? = some v) Fin k (i + 1) (ys ++ [v]) news) :
    LCg.CompRest prog w (callerA.deeper (envOfC name scope L fa cdv)) h₀ L m (envOfC name scope L fa cdv) e (Str.ofString "cell") sc [] s (LCg.SrcAt h₀ ax its) (fun i v => its[i]? = some v) Fin (k + 1) i ys news := by
  refine LCg.CompRest.succ ?_
  intro v' I oI C oC D m₂ h tk E' hv hC hx F N off ne
  have hv' : v' = .ref c := by
    have hv2 : its[i]? = some v' := hv
    rw [hi] at hv2; exact (Option.some.inj hv2).symm
  subst hv'
  obtain ⟨d, es, n, h1, h2, h3, h4⟩ := hc
  have N1 : News h₀ L h ((C, oC) :: (I, oI) :: (D, LCg.lst ys) :: news) := by
    intro p hp
    apply N
    simp only [List.mem_cons] at hp ⊢
    rcases hp with rfl | rfl | hp
    · exact .inr (.inl rfl)
    · exact .inl rfl
    · exact .inr (.inr hp)
  refine CT he X T B F hC hx ⟨N.get (.tail _ (.tail _ (.tail _ (sub _ h1)))), rfl, rfl, N.get (.tail _ (.tail _ (.tail _ (sub _ h2))))⟩ h3 h4 N1 fun h' tk' F' N' => ?_
  refine LCg.CompEnd.intro F' N' news (fun p hp => ?_) off src rest
  simp only [List.mem_cons] at hp ⊢
  rcases hp with rfl | rfl | hp
  · exact .inr (.inl rfl)
  · exact .inl rfl
  · exact .inr (.inr hp)
section
variable {prog : Program} {w : World} {mean : ExcName → Option Value} {mg mb : Str → Option Value}
local macro_rules | `(tactic| walk_at "eval ListComp") => `(tactic| (k_here; k_dflt (refine LCg.ListComp_U (F₀ := by k_asm) (by with_unfolding_all rfl) (by decide) (by rfl) (by decide) (by rfl) ?_); k_dflt lcg_toSrc))
local macro_rules | `(tactic| walk_at "CompSrc") => `(tactic| (refine Stop2.mk ?_))
local macro_rules | `(tactic| walk_at "compareOp Eq ref ref") => `(tactic| (k_here; k_dflt (refine' eq_same ?a ?b ?u ?_; (case a => exact News.isList (by k_asm) (by k_mem)); (case b => exact News.isList (by k_asm) (by k_mem)); (case u => exact Nat.le_of_ble_eq_true rfl))))
theorem tail21 {name qual : Str} {params : Arguments} {body : List Stmt} {scope : Scope} {dV kV doc pm cdv ct oc : Value} {an od : Option Addr} {osl : Array (Option Value)}
    (h : (Mine.hd.heap_39 w.params).lookup 395 = some ⟨oc, od, .func (fnOf name qual params body scope dV kV doc pm an cdv ct), osl⟩) : TailN 21 prog w mean mg mb name body scope := by
  have CT := read_turn (prog := prog) (mean := mean) (mg := mg) (mb := mb) h
  revert CT
  refine' at_of (P := fun name body scope => ReadTurn prog w mean mg mb name body scope → TailN 21 prog w mean mg mb name body scope) h ?h1 ?_
  case h1 => k_is
  clear h
  intro CT
  intro h₀ L fa cdv s m o2 o3 o5 b tkb rt tr tr' bvs mvs env bd md kp cl vl fl c0 c1 c2 c3 c4 c5 f0 f1 f2 i0 i1 i2 i3 g0 g1 g2 t0 t1 t2 t3 v4 v5 x4 x5 nb nm nk nc nv nf Q E X T B F hm1 hm2 hm3 hm4 hm5 K le1 le2 N d2 d3 d5 ret
  have hmm := m_five hm1 hm2 hm3 hm4 hm5
  rw [hmm] at F
  clear hmm hm1 hm2 hm3 hm4 hm5
  unfold fiveL at N
  show wpAny _ _ _ _ _ _
  dsimp only [List.drop]
  (try k_fold)
  k_steps
  unfold Stop2
  rename Fr _ _ _ _ => F1
  rename News _ _ _ _ => N1
  refine LCg.CompSrc.ledger (its := #[.ref c0, .ref c1, .ref c2, .ref c3, .ref c4, .ref c5]) rfl F1 N1 (.tail _ (.tail _ (.tail _ (.head _)))) (by exact Nat.le_of_ble_eq_true rfl) fun g9 => ?_
  refine read_step (k := 5) (i := 0) CT rfl X T B rfl K.k0 (fun p hp => (.tail _ (.tail _ (.tail _ (.tail _ (.tail _ (.tail _ (.tail _ (.tail _ (.tail _ hp)))))))))) (.inr ⟨_, (.tail _ (.tail _ (.tail _ (.head _)))), rfl, _, rfl⟩) ?_
  refine read_step (k := 4) (i := 1) CT rfl X T B rfl K.k1 (fun p hp => (.tail _ (.tail _ (.tail _ (.tail _ (.tail _ (.tail _ (.tail _ (.tail _ (.tail _ hp)))))))))) (.inr ⟨_, (.tail _ (.tail _ (.tail _ (.head _)))), rfl, _, rfl⟩) ?_
  refine read_step (k := 3) (i := 2) CT rfl X T B rfl K.k2 (fun p hp => (.tail _ (.tail _ (.tail _ (.tail _ (.tail _ (.tail _ (.tail _ (.tail _ (.tail _ hp)))))))))) (.inr ⟨_, (.tail _ (.tail _ (.tail _ (.head _)))), rfl, _, rfl⟩) ?_
  refine read_step (k := 2) (i := 3) CT rfl X T B rfl K.k3 (fun p hp => (.tail _ (.tail _ (.tail _ (.tail _ (.tail _ (.tail _ (.tail _ (.tail _ (.tail _ hp)))))))))) (.inr ⟨_, (.tail _ (.tail _ (.tail _ (.head _)))), rfl, _, rfl⟩) ?_
  refine read_step (k := 1) (i := 4) CT rfl X T B rfl K.k4 (fun p hp => (.tail _ (.tail _ (.tail _ (.tail _ (.tail _ (.tail _ (.tail _ (.tail _ (.tail _ hp)))))))))) (.inr ⟨_, (.tail _ (.tail _ (.tail _ (.head _)))), rfl, _, rfl⟩) ?_
  refine read_step (k := 0) (i := 5) CT rfl X T B rfl K.k5 (fun p hp => (.tail _ (.tail _ (.tail _ (.tail _ (.tail _ (.tail _ (.tail _ (.tail _ (.tail _ hp)))))))))) (.inr ⟨_, (.tail _ (.tail _ (.tail _ (.head _)))), rfl, _, rfl⟩) ?_
  refine LCg.CompRest.zero ?_
  clear CT
  unfold LCg.FinE
  intro D9 h9 tk9 F9 N9 o19
  clear o19 F1 N1
  simp only [LCg.lst, List.nil_append, List.cons_append] at N9
  dsimp only
  k_steps
  exact ret _ _ _ F9
end
end Mine
namespace Mine
theorem law_full {prog : Program} {w : World} {mean : ExcName → Option Value} {mg mb : Str → Option Value} {name qual : Str} {params : Arguments} {body : List Stmt} {scope : Scope} {dV kV doc pm cdv ct oc : Value} {an od : Option Addr} {osl : Array (Option Value)}
    (h : (Mine.hd.heap_39 w.params).lookup 395 = some ⟨oc, od, .func (fnOf name qual params body scope dV kV doc pm an cdv ct), osl⟩) : LawAt prog w mean mg mb name body scope :=
  law_at h (law_tail h (law_tail2 h (tail14 h (tail15 h (tail17 h (tail18 h (tail19 h (tail20 h (tail21 h)))))))))
end Mine
theorem PySem.Challenge.cw_nm0126_01_holds : PySem.Challenge.rw_nm0126_01.Holds := by
  refine Mine.hd ?_
  k_go0
  rename_i h1 tk1 F9 w4 w3 w2 w1 w0 e4 e3 e2 e1 e0 N9 X9
  rename Frag.In _ _ => KX9
  rename Top _ _ _ _ _ _ => T9
  rename Below callerA _ [] _ => K9
  rename Heap.IsList _ _ _ => L9
  rename IntsAre _ _ => I9
  rename ¬ (63 : Int) < _ => hc9
  clear X9
  refine' Mine.law_full ?h KX9 T9 K9 F9 ?hm N9 ?d1 ?d2 ?d3 ?d4 ?d5 L9 I9 ?len ?ret
  case h => k_is
  case hm => exact rfl
  case d1 => exact e0
  case d2 => exact e1
  case d3 => exact e2
  case d4 => exact e3
  case d5 => exact e4
  case len => omega
  clear e0 e1 e2 e3 e4 F9 N9
  intro h9 tk9 m9 F8
  (try dsimp only)
  first | wrow_close | k_steps
