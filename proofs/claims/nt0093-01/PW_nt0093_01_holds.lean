import PyProof.Rows.All
import Wide.All
import OpenK.AllK
import Wide.FinOn
import Lean
import PySem.Challenge.RW_nt0093_01
open PySem PySem.W PyProof.Rows
set_option Elab.async false
set_option maxRecDepth 100000
set_option maxHeartbeats 8000000
set_option pp.deepTerms false
set_option pp.deepTerms.threshold 6
set_option linter.unusedSimpArgs false
set_option linter.unusedVariables false
set_option compiler.extract_closed false
set_option genInjectivity false
set_option genSizeOf false
namespace Mine
open_top head for PySem.Challenge.rw_nt0093_01
theorem fill : (fun (_ : OpenLaw) (_ : Params → Frag) => True) PySem.Challenge.rw_nt0093_01 head.heap_39 := by k_fill; trivial
open PySem.Calls
local macro_rules | `(tactic| omega) => `(tactic| lia)
local macro_rules | `(tactic| walk_at $s:str) => `(tactic| k_extra $s)
section SM1
theorem room_le {d a n R : Nat} (k : d + n < R) (h : a ≤ n) : d + a < R := Nat.lt_of_le_of_lt (Nat.add_le_add_left h d) k
theorem room_1 {d a n R : Nat} (k : d + n < R) (h : 1 + a ≤ n) : d + 1 + a < R := by rw [Nat.add_assoc]; exact room_le k h
theorem room_0 {d n R : Nat} (k : d + n < R) : d < R := Nat.lt_of_le_of_lt (Nat.le_add_right d n) k
/-- what stands of the text's own objects, under a fixed heap b -/
structure Sta (w : World) (mean : ExcName → Option Value) (mg mb : Str → Option Value) (b : Heap) : Prop where
  X : (head.heap_39 w.params).In b
  T : Top head.view_39 (looseW head.view_39 []) mean mg mb b
theorem Sta.keeps {w : World} {mean : ExcName → Option Value} {mg mb : Str → Option Value} {b g : Heap} (S : Sta w mean mg mb b) (k : b.StaysIn g) : Sta w mean mg mb g := ⟨S.X.keeps k, S.T.keeps k⟩
/-- objects that stand in h and are none of b's -/
noncomputable def Own (b h : Heap) (l : List (Addr × Obj)) : Prop := ∀ p ∈ l, h.get? p.1 = some p.2 ∧ b.get? p.1 = none

theorem call_foot {prog : Program} {w : World} {A : Around} {s : Shared} {b : Heap} {foot : List (Addr × Obj)} {K : Frag} {mean : ExcName → Option Value} {mg mb : Str → Option Value}
    {R : Result → Shared → Prop} {name qual : Str} {params : Arguments} {body : List Stmt} {scope : Scope} {dV kV doc pm cdv ct oc : Value} {an od : Option Addr} {osl : Array (Option Value)} {f : Addr} {args : Args} {binds : List (Str × Value)}
    (S : Sta w mean mg mb b) (hb : b.StaysIn s.heap) (hfoot : Own b s.heap foot)
    (ho : K.lookup f = some ⟨oc, od, .func (fnOf name qual params body scope dV kV doc pm an cdv ct), osl⟩) (hK : K.In b) (hcd : codeIn K cdv qual = true) (hroom : A.depth < recursionLimit)
    (hbind : BindsTo s (fnOf name qual params body scope dV kV doc pm an cdv ct) args binds) (hloc : ∀ y ∈ binds, scope.names.lookup y.1 = some .local)
    (h : ∀ g L' h₁, (∀ a o, s.heap.get? a = some o → a ∉ foot.map (·.1) → g.get? a = some o) → L' = s.heap.objs.size → Fr g L' h₁ (fun y => binds.reverse.lookup y) → News g L' h₁ foot → Sta w mean mg mb g →
      wpAny (model prog w) (A.deeper (envOf qual scope L' f cdv)) (execs body (envOf qual scope L' f cdv))
        (fun fl s' => R (.ok (.ret (match fl with | .ret v => v | _ => .none))) s')
        (fun e s' => wpAny (model prog w) (A.deeper (envOf qual scope L' f cdv)) (leaving (envOf qual scope L' f cdv) e) (fun _ s'' => R (.error e) s'') (fun e' s'' => R (.error e') s'') s')
        { s with heap := h₁, toks := s.toks + binds.length })
    (hco : scope.isCoroutine = false := by rfl) (hgen : scope.isGenerator = false := by rfl) (hk : scope.kind = .function := by rfl)
    (hcell : ∀ x ∈ scope.names, x.2 ≠ .cell := by decide) : codeAny (model prog w) A (.call (.ref f) args) R s := by
  have XS : K.In s.heap := hK.keeps hb
  refine codeAny_call_def (fd := fnOf name qual params body scope dV kV doc pm an cdv ct) (body := body) (binds := binds) hroom (XS _ _ ho) rfl (S.T.nolimit.keeps hb) (codeRec_of XS hcd) rfl hbind hcell hloc (fun h₁ hns hk₁ => ?_) hco hgen hk
  have st : b.StaysIn (hideAll s.heap (foot.map (·.1))) := fun a o e => hideAll_get _ (hb a o e) fun q => by
    obtain ⟨p, hp, e'⟩ := List.mem_map.mp q
    rw [← e', (hfoot p hp).2] at e; cases e
  exact h (hideAll s.heap (foot.map (·.1))) s.heap.objs.size h₁ (fun a o e n => hideAll_get _ e n) rfl
    ⟨hns, fun b' o e => hk₁ b' o (of_hideAll _ e), Nat.le_of_eq (hideAll_size _ _)⟩
    (fun p hp => ⟨hk₁ _ _ (hfoot p hp).1, Nat.ne_of_lt (Heap.lt_size (hfoot p hp).1), hideAll_none _ (List.mem_map_of_mem hp)⟩) (S.keeps st)

/-- entering a def: what stands behind the body, and what an error meets, are letters -/
theorem call_footQ {prog : Program} {w : World} {A : Around} {s : Shared} {b : Heap} {foot : List (Addr × Obj)} {K : Frag} {mean : ExcName → Option Value} {mg mb : Str → Option Value}
    {R : Result → Shared → Prop} {name qual : Str} {params : Arguments} {body : List Stmt} {scope : Scope} {dV kV doc pm cdv ct oc : Value} {an od : Option Addr} {osl : Array (Option Value)} {f : Addr} {args : Args} {binds : List (Str × Value)}
    (S : Sta w mean mg mb b) (hb : b.StaysIn s.heap) (hfoot : Own b s.heap foot)
    (ho : K.lookup f = some ⟨oc, od, .func (fnOf name qual params body scope dV kV doc pm an cdv ct), osl⟩) (hK : K.In b) (hcd : codeIn K cdv qual = true) (hroom : A.depth < recursionLimit)
    (hbind : BindsTo s (fnOf name qual params body scope dV kV doc pm an cdv ct) args binds) (hloc : ∀ y ∈ binds, scope.names.lookup y.1 = some .local)
    (h : ∀ (Q : Flow → Shared → Prop) g L' h₁, (∀ fl s', R (.ok (.ret (match fl with | .ret v => v | _ => .none))) s' → Q fl s') → (∀ a o, s.heap.get? a = some o → a ∉ foot.map (·.1) → g.get? a = some o) → L' = s.heap.objs.size → Fr g L' h₁ (fun y => binds.reverse.lookup y) → News g L' h₁ foot → Sta w mean mg mb g →
      wpAny (model prog w) (A.deeper (envOf qual scope L' f cdv)) (execs body (envOf qual scope L' f cdv)) Q (fun _ _ => False) { s with heap := h₁, toks := s.toks + binds.length })
    (hco : scope.isCoroutine = false := by rfl) (hgen : scope.isGenerator = false := by rfl) (hk : scope.kind = .function := by rfl)
    (hcell : ∀ x ∈ scope.names, x.2 ≠ .cell := by decide) : codeAny (model prog w) A (.call (.ref f) args) R s :=
  call_foot S hb hfoot ho hK hcd hroom hbind hloc (fun g L' h₁ a b c d e => wpAny_mono (h _ g L' h₁ (fun _ _ x => x) a b c d e) (fun _ _ x => x) fun _ _ x => x.elim) hco hgen hk hcell

/-- from h (owning foot) to h' (owning foot'): what is not in foot stays; what is new in foot' is new -/
structure Step (b : Heap) (foot foot' : List (Addr × Obj)) (h h' : Heap) : Prop where
  own : Own b h' foot'
  kept : ∀ a o, h.get? a = some o → a ∉ foot.map (·.1) → h'.get? a = some o
  new : ∀ p ∈ foot', p.1 ∈ foot.map (·.1) ∨ h.get? p.1 = none

theorem stays_of {w : World} {mean : ExcName → Option Value} {mg mb : Str → Option Value} {b g h : Heap} {foot : List (Addr × Obj)} (_ : Sta w mean mg mb b) (hb : b.StaysIn h) (hs : Own b h foot) (hg : ∀ a o, h.get? a = some o → a ∉ foot.map (·.1) → g.get? a = some o) : b.StaysIn g :=
  fun a o e => hg a o (hb a o e) fun q => by
    obtain ⟨p, hp, rfl⟩ := List.mem_map.mp q
    rw [(hs p hp).2] at e; cases e

theorem step_of {b g h h' : Heap} {L : Addr} {m : Str → Option Value} {foot foot' news : List (Addr × Obj)} (hg : ∀ a o, h.get? a = some o → a ∉ foot.map (·.1) → g.get? a = some o) (hb : b.StaysIn g)
    (F : Fr g L h' m) (N : News g L h' news) (hs : ∀ p ∈ foot', p ∈ news) : Step b foot foot' h h' where
  own := fun p hp => ⟨(N p (hs p hp)).1, by
    cases e : b.get? p.1 with
    | none => rfl
    | some o => have := hb _ _ e; rw [(N p (hs p hp)).2.2] at this; cases this⟩
  kept := fun a o e n => F.keep a o (hg a o e n)
  new := fun p hp => by
    by_cases q : p.1 ∈ foot.map (·.1)
    · exact .inl q
    · refine .inr ?_
      cases e : h.get? p.1 with
      | none => rfl
      | some o => have := hg _ _ e q; rw [(N p (hs p hp)).2.2] at this; cases this

theorem notin_nil {a : Addr} : a ∉ ([] : List (Addr × Obj)).map (·.1) := fun h => nomatch h
theorem notin_cons {a : Addr} {p : Addr × Obj} {l : List (Addr × Obj)} (h : @Ne Nat a p.1) (r : a ∉ l.map (·.1)) : a ∉ (p :: l).map (·.1) := fun q => (List.mem_cons.mp q).elim h r
theorem Step.fresh {b h h' : Heap} {foot foot' : List (Addr × Obj)} (T : Step b foot foot' h h') {p : Addr × Obj} (hp : p ∈ foot') (hn : p.1 ∉ foot.map (·.1)) : h.get? p.1 = none := (T.new p hp).resolve_left hn
/-- what was only read stands as it stood -/
theorem Step.same {b h h' : Heap} {foot : List (Addr × Obj)} (T : Step b foot foot h h') (O : Own b h foot) : h.StaysIn h' := fun a o e => by
  by_cases q : a ∈ foot.map (·.1)
  · obtain ⟨p, hp, rfl⟩ := List.mem_map.mp q
    have := (O p hp).1
    rw [e] at this
    rw [Option.some.inj this]
    exact (T.own p hp).1
  · exact T.kept a o e q
theorem news_keeps {g h h' : Heap} {L : Addr} {news : List (Addr × Obj)} (N : News g L h news) (k : h.StaysIn h') : News g L h' news := fun p hp => ⟨k _ _ (N p hp).1, (N p hp).2⟩
theorem news_sub {g h : Heap} {L : Addr} {l l' : List (Addr × Obj)} (N : News g L h l) (hs : ∀ p ∈ l', p ∈ l) : News g L h l' := fun p hp => N p (hs p hp)
theorem own_sub {b h : Heap} {l l' : List (Addr × Obj)} (O : Own b h l) (hs : ∀ p ∈ l', p ∈ l) : Own b h l' := fun p hp => O p (hs p hp)

/-- back in the caller's frame -/
theorem after_fr {g h h' : Heap} {L : Addr} {m : Str → Option Value} {foot foot' news : List (Addr × Obj)} (F : Fr g L h m) (N : News g L h news) (hf : ∀ p ∈ foot, p ∈ news) (T : Step g foot foot' h h') : Fr g L h' m := by
  obtain ⟨oL, es, ep, hL, r⟩ := F.ns
  have nL : L ∉ foot.map (·.1) := fun q => by
    obtain ⟨p, hp, e⟩ := List.mem_map.mp q
    exact (N p (hf p hp)).2.1 e
  refine ⟨⟨oL, es, ep, T.kept _ _ hL nL, r⟩, fun a o e => T.kept _ _ (F.keep a o e) fun q => ?_, F.above⟩
  obtain ⟨p, hp, e'⟩ := List.mem_map.mp q
  have := (N p (hf p hp)).2.2
  rw [e', e] at this; cases this

theorem after_news {g h h' : Heap} {L : Addr} {m : Str → Option Value} {foot foot' rest news : List (Addr × Obj)} (F : Fr g L h m) (N : News g L h news) (hf : ∀ p ∈ foot, p ∈ news) (hr : ∀ p ∈ rest, p ∈ news) (hd : ∀ p ∈ rest, p.1 ∉ foot.map (·.1))
    (T : Step g foot foot' h h') : News g L h' (foot' ++ rest) := by
  obtain ⟨oL, es, ep, hL, r⟩ := F.ns
  intro p hp
  rcases List.mem_append.mp hp with hp | hp
  · refine ⟨(T.own p hp).1, fun e => ?_, (T.own p hp).2⟩
    rcases T.new p hp with q | q
    · obtain ⟨p', hp', e'⟩ := List.mem_map.mp q
      exact (N p' (hf p' hp')).2.1 (e'.trans e)
    · rw [e, hL] at q; cases q
  · exact ⟨T.kept _ _ (N p (hr p hp)).1 (hd p hp), (N p (hr p hp)).2⟩

theorem after_upd {g h h' : Heap} {L a : Addr} {o o' : Obj} {m : Str → Option Value} {news : List (Addr × Obj)} {gU : Obj → List (Addr × Obj)} (F : Fr g L h m) (N : News g L h news) (U : UpdF a o news gU) (T : Step g [(a, o)] [(a, o')] h h') : Fr g L h' m ∧ News g L h' (gU o') := by
  obtain ⟨pre, post, rfl, hg, h1, h2⟩ := U.split
  have hf : ∀ p ∈ [(a, o)], p ∈ pre ++ (a, o) :: post := fun p hp => by
    rw [List.mem_singleton.mp hp]; exact List.mem_append_right _ (.head _)
  refine ⟨after_fr F N hf T, fun p hp => ?_⟩
  have N' := after_news F N hf (rest := pre ++ post) (fun p hp => (List.mem_append.mp hp).elim (List.mem_append_left _) fun q => List.mem_append_right _ (.tail _ q))
    (fun p hp q => by
      have q' := List.mem_singleton.mp q
      rcases List.mem_append.mp hp with z | z
      · exact h1 p z q'
      · exact h2 p z q') T
  rw [hg] at hp
  rcases List.mem_append.mp hp with q | q
  · exact N' p (List.mem_append_right _ (List.mem_append_left _ q))
  · rcases List.mem_cons.mp q with q | q
    · exact N' p (List.mem_append_left _ (List.mem_singleton.mpr q))
    · exact N' p (List.mem_append_right _ (List.mem_append_right _ q))

theorem own_upd {g h : Heap} {L a : Addr} {o : Obj} {news : List (Addr × Obj)} {gU : Obj → List (Addr × Obj)} (N : News g L h news) (U : UpdF a o news gU) : Own g h [(a, o)] := by
  obtain ⟨pre, post, rfl, hg, h1, h2⟩ := U.split
  intro p hp
  rw [List.mem_singleton.mp hp]
  have := N (a, o) (List.mem_append_right _ (.head _))
  exact ⟨this.1, this.2.2⟩

theorem own_of_news {g h : Heap} {L : Addr} {foot news : List (Addr × Obj)} (N : News g L h news) (hf : ∀ p ∈ foot, p ∈ news) : Own g h foot := fun p hp => ⟨(N p (hf p hp)).1, (N p (hf p hp)).2.2⟩
end SM1
section SM2
noncomputable abbrev srcO (d m : Int) (td tm : Tok) (n : Nat) : Obj := listOf #[.int d td, .int m tm] n
theorem take_spec {w : World} {mean : ExcName → Option Value} {mg mb : Str → Option Value} {b : Heap} (S : Sta w mean mg mb b) {dep un : Nat} {fr : Option (List Env)} {gs : Option (List Code)} (hroom : dep < recursionLimit) {s : Shared} (hb : b.StaysIn s.heap)
    {src : Addr} {n : Nat} {d m top : Int} {td tm tt : Tok} (hs : Own b s.heap [(src, srcO d m td tm n)]) (hd : 0 ≤ d) (hm : 0 ≤ m ∧ m < 2147483647) (ht : 0 < top) (ht2 : top ≤ 256) {R : Result → Shared → Prop}
    (h : ∀ h' r tr d' td' m' tm' tk, Step b [(src, srcO d m td tm n)] [(src, srcO d' m' td' tm' n)] s.heap h' → 0 ≤ r → r < top → 0 ≤ d' → 0 ≤ m' → m' < 2147483647 → R (.ok (.ret (.int r tr))) { s with heap := h', toks := tk }) :
    codeAny (model PySem.Challenge.rw_nt0093_01.row.prog w) (⟨none, dep, fr, gs, un⟩ : Around) (.call (.ref 209) ⟨[.ref src, .int top tt], []⟩) R s := by
  refine' call_footQ (K := head.heap_39 w.params) S hb hs ?k1 S.X ?k2 (by (first | assumption | exact room_le hroom (by decide) | exact room_1 hroom (by decide) | exact room_0 hroom | ((try simp only [Around.deeper, Around.in1]); first | exact room_le hroom (by decide) | exact room_1 hroom (by decide) | exact room_0 hroom | omega))) ?k3 ?k4 ?_ ?c1 ?c2 ?c3 ?c4
  case k1 => k_is
  case k2 => k_is
  case k3 => first | exact BindsTo.of_eq rfl | exact binds_K (S.X.keeps hb) rfl (by k_is) rfl rfl rfl
  case k4 => exact locs rfl
  case c1 => exact rfl
  case c2 => exact rfl
  case c3 => exact rfl
  case c4 => decide
  intro Q9 g L' h₁ hQ hg hL F N S'
  have hbg := stays_of S hb hs hg
  have X := S'.X
  have T := S'.T
  dsimp only
  k_steps
  · skip
    try (with_reducible refine hQ _ _ ?_); try dsimp only
    rename Fr _ _ _ _ => F2
    rename News _ _ _ _ => N2
    exact h _ _ _ _ _ _ _ _ (step_of hg hbg F2 N2 (fun p hp => hp)) (Int.fmod_nonneg_of_pos _ ht) (Int.fmod_lt_of_pos _ ht) (Int.fdiv_nonneg hd (Int.le_of_lt ht)) hm.1 hm.2
  · refine PyProof.Rows.mul_int ?_ (hm := IntMulOk.of_left (intBits_le_64 ?_ ?_))
    rotate_left
    · have := Int.fmod_nonneg_of_pos (m * 39373 + 7) (show (0:Int) < 2147483647 by decide)
      show - (2^64) < (m * 39373 + 7).fmod 2147483647
      omega
    · have := Int.fmod_lt_of_pos (m * 39373 + 7) (show (0:Int) < 2147483647 by decide)
      show (m * 39373 + 7).fmod 2147483647 < 2 ^ 64
      omega
    k_steps
    try (with_reducible refine hQ _ _ ?_); try dsimp only
    rename Fr _ _ _ _ => F2
    rename News _ _ _ _ => N2
    exact h _ _ _ _ _ _ _ _ (step_of hg hbg F2 N2 (fun p hp => hp)) (Int.fmod_nonneg_of_pos _ ht) (Int.fmod_lt_of_pos _ ht) hd (Int.fmod_nonneg_of_pos _ (by decide)) (Int.fmod_lt_of_pos _ (by decide))

theorem take_K {w : World} {mean : ExcName → Option Value} {mg mb : Str → Option Value} {g : Heap} {L : Addr} {mm : Str → Option Value} {news : List (Addr × Obj)} {gU : Obj → List (Addr × Obj)} {dep un : Nat} {fr : Option (List Env)} {gs : Option (List Code)} {s : Shared} {Q : Value → Shared → Prop} {E : Value → Shared → Prop}
    {src : Addr} {n : Nat} {d m top : Int} {td tm tt : Tok} (F : Fr g L s.heap mm) (N : News g L s.heap news) (S : Sta w mean mg mb g) (hroom : dep < recursionLimit) (U : UpdF src (srcO d m td tm n) news gU) (hd : 0 ≤ d) (hm : 0 ≤ m ∧ m < 2147483647) (ht : 0 < top) (ht2 : top ≤ 256)
    (h : ∀ h' r tr d' td' m' tm' tk, Fr g L h' mm → News g L h' (gU (srcO d' m' td' tm' n)) → 0 ≤ r → r < top → 0 ≤ d' → (0 ≤ m' ∧ m' < 2147483647) → Q (.int r tr) { s with heap := h', toks := tk }) :
    wpAny (model PySem.Challenge.rw_nt0093_01.row.prog w) (⟨none, dep, fr, gs, un⟩ : Around) (call (.ref 209) [.ref src, .int top tt]) Q E s := by
  refine wpAny_call (take_spec S hroom F.keep (own_upd N U) hd hm ht ht2 ?_)
  intro h' r tr d' td' m' tm' tk T a b c d e
  obtain ⟨F', N'⟩ := after_upd F N U T
  exact h h' r tr d' td' m' tm' tk F' N' a b c ⟨d, e⟩
end SM2
section SM3
theorem rules_M3_1 : True := by
  k_with_none
  (k_with "call ref" => ((with_reducible show wpAny _ _ (call (Value.ref 209) [_, _]) _ _ _); k_dflt (refine take_K (by assumption) (by assumption) (by assumption) (by (first | assumption | exact room_le hroom (by decide) | exact room_1 hroom (by decide) | exact room_0 hroom | ((try simp only [Around.deeper, Around.in1]); first | exact room_le hroom (by decide) | exact room_1 hroom (by decide) | exact room_0 hroom | omega))) (by k_updF) (by assumption) (by assumption) (by first | decide | omega) (by first | decide | omega) ?_; intro h' r tr d' td' m' tm' tk F' N' hr0 hr1 hd' hm'; (try dsimp only at N')); revert h' r tr d' td' m' tm' tk F' N' hr0 hr1 hd' hm'; intro _ _ _ _ _ _ _ _ _ _ _ _ _ _))
  trivial
theorem page_spec {w : World} {mean : ExcName → Option Value} {mg mb : Str → Option Value} {b : Heap} (S : Sta w mean mg mb b) {dep un : Nat} {fr : Option (List Env)} {gs : Option (List Code)} (hroom : dep + 1 < recursionLimit) {s : Shared} (hb : b.StaysIn s.heap)
    {src : Addr} {n : Nat} {d m : Int} {td tm : Tok} (hs : Own b s.heap [(src, srcO d m td tm n)]) (hd : 0 ≤ d) (hm : 0 ≤ m ∧ m < 2147483647) {R : Result → Shared → Prop}
    (h : ∀ h' bs tb d' td' m' tm' tk, Step b [(src, srcO d m td tm n)] [(src, srcO d' m' td' tm' n)] s.heap h' → bs.size = 8 → 0 ≤ d' → 0 ≤ m' → m' < 2147483647 → R (.ok (.ret (.bytes bs tb))) { s with heap := h', toks := tk }) :
    codeAny (model PySem.Challenge.rw_nt0093_01.row.prog w) (⟨none, dep, fr, gs, un⟩ : Around) (.call (.ref 216) ⟨[.ref src], []⟩) R s := by
  refine' call_footQ (K := head.heap_39 w.params) S hb hs ?k1 S.X ?k2 (by (first | assumption | exact room_le hroom (by decide) | exact room_1 hroom (by decide) | exact room_0 hroom | ((try simp only [Around.deeper, Around.in1]); first | exact room_le hroom (by decide) | exact room_1 hroom (by decide) | exact room_0 hroom | omega))) ?k3 ?k4 ?_ ?c1 ?c2 ?c3 ?c4
  case k1 => k_is
  case k2 => k_is
  case k3 => first | exact BindsTo.of_eq rfl | exact binds_K (S.X.keeps hb) rfl (by k_is) rfl rfl rfl
  case k4 => exact locs rfl
  case c1 => exact rfl
  case c2 => exact rfl
  case c3 => exact rfl
  case c4 => decide
  intro Q9 g L' h₁ hQ hg hL F N S'
  have hbg := stays_of S hb hs hg
  have X := S'.X
  have T := S'.T
  dsimp only
  k_steps
  try (with_reducible refine hQ _ _ ?_); try dsimp only
  rename Fr _ _ _ _ => F2
  rename News _ _ _ _ => N2
  rename 0 ≤ _ ∧ _ < _ => hm2
  exact h _ _ _ _ _ _ _ _ (step_of hg hbg F2 N2 (by repeat' (first | exact List.forall_mem_nil _ | (refine List.forall_mem_cons.mpr ⟨?sa, ?_⟩; (case sa => k_mem)) | (intro p9 hp9; repeat' (first | exact hp9 | refine List.Mem.tail _ ?_))))) rfl (by assumption) hm2.1 hm2.2
end SM3
section SD1
theorem norules_D1 : True := by
  k_with_none
  trivial
noncomputable def BitsOk (ns : List Int) : Prop := ∀ n ∈ ns, Builtin.Int.intBits n ≤ 2 ^ 20
/-- digits behind i numbers -/
noncomputable def DigOk (i : Nat) (d : Int) : Prop := 0 ≤ d ∧ Builtin.Int.intBits d ≤ i * (2 ^ 20 + 1)
theorem bits_le {x : Int} {k : Nat} : Builtin.Int.intBits x ≤ k ↔ x.natAbs < 2 ^ k := by
  unfold Builtin.Int.intBits
  by_cases h : x = 0
  · subst h
    simp
    exact Nat.pow_pos (by decide)
  · have h' : x.natAbs ≠ 0 := by omega
    have hb : (x == 0) = false := by simpa using h
    rw [hb]
    simp only [Bool.false_eq_true, if_false]
    rw [← Nat.log2_lt h']
    omega
theorem bits_neg {k : Int} {n : Nat} (h : ¬ 0 ≤ k) (hb : Builtin.Int.intBits k ≤ n) : Builtin.Int.intBits (-1 - k) ≤ n := by
  rw [bits_le] at hb ⊢
  have : (-1 - k).natAbs ≤ k.natAbs := by omega
  omega
theorem dig_mul {ns : List Int} {i j : Nat} {d k : Int} (hd : DigOk i d) (hl : ns.length = i + (j + 1)) (h63 : ns.length ≤ 63) (hk : Builtin.Int.intBits k ≤ 2 ^ 20) : IntMulOk d k := by
  obtain ⟨h0, h1⟩ := hd
  have e : (2 : Nat) ^ 20 = 1048576 := by decide
  have h : Builtin.Int.intTooBig (Builtin.Int.intBits d + Builtin.Int.intBits k) = false := by
    unfold Builtin.Int.intTooBig bitsLine
    have hi : i ≤ 62 := by omega
    have h2 : i * (2 ^ 20 + 1) ≤ 62 * (2 ^ 20 + 1) := Nat.mul_le_mul_right _ hi
    exact decide_eq_false (by omega)
  unfold IntMulOk
  rw [h]
  simp
theorem dig_step {i : Nat} {d k : Int} (hd : DigOk i d) (h0 : 0 ≤ k) (hk : Builtin.Int.intBits k ≤ 2 ^ 20) : DigOk (i + 1) (d * k + k) := by
  obtain ⟨hd0, hd1⟩ := hd
  have hp := Int.mul_nonneg hd0 h0
  refine ⟨by omega, ?_⟩
  rw [bits_le] at hd1 hk ⊢
  obtain ⟨a, rfl⟩ := Int.eq_ofNat_of_zero_le hd0
  obtain ⟨c, rfl⟩ := Int.eq_ofNat_of_zero_le h0
  have e : ((a : Int) * c + c).natAbs = (a + 1) * c := by
    rw [Nat.add_mul, Nat.one_mul]
    have : ((a : Int) * c + c) = ((a * c + c : Nat) : Int) := by push_cast; rfl
    rw [this, Int.natAbs_natCast]
  rw [e]
  simp only [Int.natAbs_natCast] at hd1 hk
  rcases Nat.eq_zero_or_pos c with rfl | hc
  · simp; exact Nat.pow_pos (by decide)
  · have h1 : (a + 1) * c ≤ 2 ^ (i * (2 ^ 20 + 1)) * c := Nat.mul_le_mul_right _ hd1
    have h2 : 2 ^ (i * (2 ^ 20 + 1)) * c < 2 ^ (i * (2 ^ 20 + 1)) * 2 ^ (2 ^ 20) := Nat.mul_lt_mul_of_pos_left hk (Nat.pow_pos (by decide))
    have h3 : 2 ^ (i * (2 ^ 20 + 1)) * 2 ^ (2 ^ 20) ≤ 2 ^ ((i + 1) * (2 ^ 20 + 1)) := by
      rw [← Nat.pow_add]
      exact Nat.pow_le_pow_right (by decide) (by rw [Nat.add_mul, Nat.one_mul]; omega)
    exact Nat.lt_of_lt_of_le (Nat.lt_of_le_of_lt h1 h2) h3
theorem dig_start : DigOk ([] : List Int).length 0 ∧ (0:Int) ≤ 31 ∧ (31:Int) < 2147483647 := ⟨⟨Int.le_refl 0, by decide⟩, by decide, by decide⟩
theorem dig_stay {i : Nat} {d : Int} (hd : DigOk i d) : DigOk (i + 1) d := ⟨hd.1, Nat.le_trans hd.2 (Nat.mul_le_mul_right _ (Nat.le_succ i))⟩
theorem fm_in (x : Int) : 0 ≤ x.fmod 2147483647 ∧ x.fmod 2147483647 < 2147483647 := ⟨Int.fmod_nonneg_of_pos _ (by decide), Int.fmod_lt_of_pos _ (by decide)⟩
end SD1
section SD4
section
variable {prog : Program} {w : World} {A : Around} {E : Value → Shared → Prop} {s : Shared} {env : Env} {h₀ : Heap} {x : Str} {body : List Stmt} {Q : Flow → Shared → Prop}
/-- the end of a turn -/
noncomputable def TurnEnd (h₀ : Heap) (L : Addr) (J : (Str → Option Value) → List (Addr × Obj) → Prop) (I : Addr) (io : Obj) (s : Shared) (Q : Flow → Shared → Prop) (f : Flow) (s₂ : Shared) : Prop :=
  match f with
  | .ret v => Q (.ret v) s₂
  | .brk => Q .next s₂
  | _ => ∃ h' tk' m' news', s₂ = { s with heap := h', toks := tk' } ∧ Fr h₀ L h' m' ∧ News h₀ L h' ((I, io) :: news') ∧ J m' news'

theorem iter_walk {I : Addr} {fp : List Addr} {n : Nat} {P : Nat → Value → Prop} {St : Nat → Heap → Prop} {m₀ : Str → Option Value} {news : List (Addr × Obj)} (W : Walks prog w A I (I :: fp) [I] n P St) (s₂ : Shared) (hs₂ : ∃ h tk, s₂ = { s with heap := h, toks := tk })
    (J : Nat → (Str → Option Value) → List (Addr × Obj) → Prop) (hst : St 0 s₂.heap) (hI : ∀ i h, St i h → ∃ o, h.get? I = some o) (F : Fr h₀ env.locals s₂.heap m₀) (N : News h₀ env.locals s₂.heap news) (hIn : h₀.get? I = none) (hIL : I ≠ env.locals) (hIw : ∀ p ∈ news, p.1 ≠ I)
    (hfp : ∀ a ∈ fp, a ≠ env.locals ∧ ∃ o, s₂.heap.get? a = some o ∧ (h₀.get? a = some o ∨ ∀ i m₁ news₁, J i m₁ news₁ → (a, o) ∈ news₁))
    (hj : J 0 m₀ news)
    (turn : ∀ i v m₁ news₁ h tk io, i < n → P i v → J i m₁ news₁ → (∀ p ∈ news₁, p.1 ≠ I) → Fr h₀ env.locals h (fun y => if y = x then some v else m₁ y) → News h₀ env.locals h ((I, io) :: news₁) →
      wpAny (model prog w) A (execs body env) (TurnEnd h₀ env.locals (J (i + 1)) I io s Q) E { s with heap := h, toks := tk })
    (hoff : ∀ i m₁ news₁ h io, J i m₁ news₁ → News h₀ env.locals h ((I, io) :: news₁) → ∀ p ∈ news₁, p.1 ≠ I)
    (done : ∀ m₁ news₁ h tk, J n m₁ news₁ → Fr h₀ env.locals h m₁ → News h₀ env.locals h news₁ → Q .next { s with heap := h, toks := tk }) :
    LoopAtV prog w A h₀ env x body Q E (.ref I) s₂ := by
  obtain ⟨h2, tk2, rfl⟩ := hs₂
  refine ⟨I, I :: fp, [I], n, P, St, m₀, news, J, rfl, W, ?_, ?_, ?_, hst, F, N, hj, ?_, ?_⟩
  · intro hm
    rcases List.mem_cons.mp hm with e | hm
    · exact hIL e.symm
    · exact (hfp _ hm).1 rfl
  · intro b hb
    rw [List.mem_singleton.mp hb]; exact hIn
  · intro p hp hb
    exact hIw p hp (List.mem_singleton.mp hb)
  · rintro i v m₁ news₁ s₁ own ⟨hh, tk, rfl⟩ hi hP hJ hnw ho1 ho2 ho3 st F₁ N₁
    obtain ⟨io, hio⟩ := hI _ _ st
    have hmem : (I, io) ∈ own := ho3 I (.head _) hIn io hio
    have hne : ∀ p ∈ news₁, p.1 ≠ I := fun p hp e => hnw p hp (List.mem_singleton.mpr e)
    have N₂ : News h₀ env.locals hh ((I, io) :: news₁) := fun p hp => by
      rcases List.mem_cons.mp hp with rfl | hp
      · exact N₁ _ (List.mem_append_left _ hmem)
      · exact N₁ _ (List.mem_append_right _ hp)
    refine wpAny_mono (turn i v m₁ news₁ hh tk io hi hP hJ hne F₁ N₂) (fun f s3 h3 => ?_) fun _ _ e => e
    have fin : (∃ h' tk' m' news', s3 = { s with heap := h', toks := tk' } ∧ Fr h₀ env.locals h' m' ∧ News h₀ env.locals h' ((I, io) :: news') ∧ J (i + 1) m' news') → LoopStepU h₀ env.locals [I] own (J (i + 1)) { s with heap := hh, toks := tk } .next s3 := by
      rintro ⟨h', tk', m', news', rfl, F', N', hJ'⟩
      refine ⟨rfl, h', tk', m', news', rfl, F', fun p hp => ?_, ?_, hJ'⟩
      · rcases List.mem_append.mp hp with hp | hp
        · rcases List.mem_cons.mp (ho1 p hp) with e | e
          · have := ho2 p hp
            rw [e, hio] at this
            have e2 : p = (I, io) := Prod.ext e (Option.some.inj this).symm
            rw [e2]; exact N' _ (.head _)
          · obtain ⟨_, o, ho, hor⟩ := hfp _ e
            rcases hor with hor | hor
            · have := (N₁ p (List.mem_append_left _ hp)).2.2
              rw [hor] at this; cases this
            · have a1 := (N₂ _ (.tail _ (hor _ _ _ hJ))).1
              have a2 := ho2 p hp
              rw [a1] at a2
              have e2 : p = (p.1, o) := Prod.ext rfl (Option.some.inj a2).symm
              rw [e2]; exact N' _ (.tail _ (hor _ _ _ hJ'))
        · exact N' _ (.tail _ hp)
      · intro p hp hb
        exact hoff _ _ _ _ _ hJ' N' p hp (List.mem_singleton.mp hb)
    cases f with
    | ret v => exact h3
    | brk => exact h3
    | next => exact fin h3
    | cont => exact fin h3
  · intro h' tk m' news' F' N' _ hJ
    exact done m' news' h' tk hJ F' N'
theorem iter_refs {l : Addr} {vs : List Value} {n : Nat} {m₀ : Str → Option Value} {news : List (Addr × Obj)} (J : Nat → (Str → Option Value) → List (Addr × Obj) → Prop)
    (hh : A.handled = none) (F : Fr h₀ env.locals s.heap m₀) (N : News h₀ env.locals s.heap news) (hj : J 0 m₀ news) (hJl : ∀ i m news, J i m news → (l, listOf vs.toArray n) ∈ news)
    (turn : ∀ I io i v m₁ news₁ h tk, vs[i]? = some v → J i m₁ news₁ → (∀ p ∈ news₁, p.1 ≠ I) → Fr h₀ env.locals h (fun y => if y = x then some v else m₁ y) → News h₀ env.locals h ((I, io) :: news₁) →
      wpAny (model prog w) A (execs body env) (TurnEnd h₀ env.locals (fun m' news' => J (i + 1) m' news' ∧ ∀ p ∈ news', p.1 ≠ I) I io s Q) E { s with heap := h, toks := tk })
    (done : ∀ m₁ news₁ h tk, J vs.length m₁ news₁ → Fr h₀ env.locals h m₁ → News h₀ env.locals h news₁ → Q .next { s with heap := h, toks := tk }) :
    wpAny (model prog w) A (pyIter (.ref l)) (fun it s₂ => LoopAtV prog w A h₀ env x body Q E it s₂) E s := by
  have hm := N _ (hJl _ _ _ hj)
  have hls : s.heap.IsList l vs.toArray := ⟨_, hm.1, rfl, _, rfl⟩
  have hne : l ≠ s.heap.objs.size := Nat.ne_of_lt (Heap.lt_size hm.1)
  refine wpAny_pyIter_list hls ?_
  have W := Walks.list (prog := prog) (w := w) hh s.heap.objs.size l hne vs.toArray
  have hIL : s.heap.objs.size ≠ env.locals := by
    obtain ⟨o, _, _, ho, _⟩ := F.ns
    exact Nat.ne_of_gt (Heap.lt_size ho)
  have hIw : ∀ p ∈ news, p.1 ≠ s.heap.objs.size := fun p hp => Nat.ne_of_lt (Heap.lt_size (N p hp).1)
  refine iter_walk (s := s) W _ ⟨_, _, rfl⟩ (fun i m news => J i m news ∧ ∀ p ∈ news, p.1 ≠ s.heap.objs.size) ⟨⟨_, Heap.get?_push_size _ rfl, rfl, rfl⟩, hls.at fun o e => Heap.get?_push_of_some _ e⟩ (fun i h st => ?_) (F.push _)
    (fun p hp => ⟨Heap.get?_push_of_some _ (N p hp).1, (N p hp).2⟩) (next_is_new F) hIL hIw ?_ ⟨hj, hIw⟩ ?_ (fun _ _ _ _ _ hJ _ => hJ.2) fun m₁ news₁ h tk hJ F' N' => done m₁ news₁ h tk (by simpa using hJ.1) F' N'
  · obtain ⟨o, ho, _⟩ := st.1
    exact ⟨o, ho⟩
  · intro a ha
    rw [List.mem_singleton.mp ha]
    exact ⟨hm.2.1, _, Heap.get?_push_of_some _ hm.1, .inr fun _ _ _ hJ => hJl _ _ _ hJ.1⟩
  · intro i v m₁ news₁ h tk io _ hP hJ hne F₁ N₁
    exact turn _ io i v m₁ news₁ h tk (by simpa using hP) hJ.1 hne F₁ N₁
theorem iter_range {r : Addr} {lo hi : Int} {t u t' : Tok} {m₀ : Str → Option Value} {news : List (Addr × Obj)} (J : Nat → (Str → Option Value) → List (Addr × Obj) → Prop)
    (hh : A.handled = none) (hr : IsRange s.heap r lo hi 1 t u t') (hlo : -1000000 ≤ lo ∧ lo ≤ 1000000) (hhi : -1000000 ≤ hi ∧ hi ≤ 1000000) (F : Fr h₀ env.locals s.heap m₀) (N : News h₀ env.locals s.heap news) (hj : J 0 m₀ news)
    (turn : ∀ I io i v m₁ news₁ h tk, i < (hi - lo).toNat → (∃ t, v = .int (lo + i) t) → J i m₁ news₁ → (∀ p ∈ news₁, p.1 ≠ I) → Fr h₀ env.locals h (fun y => if y = x then some v else m₁ y) → News h₀ env.locals h ((I, io) :: news₁) →
      wpAny (model prog w) A (execs body env) (TurnEnd h₀ env.locals (fun m' news' => J (i + 1) m' news' ∧ ∀ p ∈ news', p.1 ≠ I) I io s Q) E { s with heap := h, toks := tk })
    (done : ∀ m₁ news₁ h tk, J (hi - lo).toNat m₁ news₁ → Fr h₀ env.locals h m₁ → News h₀ env.locals h news₁ → Q .next { s with heap := h, toks := tk }) :
    wpAny (model prog w) A (pyIter (.ref r)) (fun it s₂ => LoopAtV prog w A h₀ env x body Q E it s₂) E s := by
  have hsz : Builtin.Range.rangeSize lo hi 1 = ((hi - lo).toNat : Int) := by rw [rangeSize_one]; split <;> omega
  refine wpAny_pyIter_range hr (small_one (by omega) (by omega) (by omega) (by omega)) ?_
  have W := Walks.range (prog := prog) (w := w) hh s.heap.objs.size lo 1 (hi - lo).toNat
  have hIL : s.heap.objs.size ≠ env.locals := by
    obtain ⟨o, _, _, ho, _⟩ := F.ns
    exact Nat.ne_of_gt (Heap.lt_size ho)
  have hIw : ∀ p ∈ news, p.1 ≠ s.heap.objs.size := fun p hp => Nat.ne_of_lt (Heap.lt_size (N p hp).1)
  refine iter_walk (s := s) W _ ⟨_, _, rfl⟩ (fun i m news => J i m news ∧ ∀ p ∈ news, p.1 ≠ s.heap.objs.size) ?_ (fun i h st => ⟨_, st⟩) (F.push _)
    (fun p hp => ⟨Heap.get?_push_of_some _ (N p hp).1, (N p hp).2⟩) (next_is_new F) hIL hIw (fun a ha => nomatch ha) ⟨hj, hIw⟩ ?_ (fun _ _ _ _ _ hJ _ => hJ.2) fun m₁ news₁ h tk hJ F' N' => done m₁ news₁ h tk hJ.1 F' N'
  · show IsRangeIter _ _ (lo + ((0 : Nat) : Int) * 1) (((hi - lo).toNat : Int) - ((0 : Nat) : Int)) 1
    rw [show (lo + ((0 : Nat) : Int) * 1) = lo from by simp, show (((hi - lo).toNat : Int) - ((0 : Nat) : Int)) = Builtin.Range.rangeSize lo hi 1 from by rw [hsz]; simp]
    exact Heap.get?_push_size _ rfl
  · intro i v m₁ news₁ h tk io hi' hP hJ hne F₁ N₁
    obtain ⟨t9, rfl⟩ := hP
    exact turn _ io i _ m₁ news₁ h tk hi' ⟨t9, by rw [Int.mul_one]⟩ hJ.1 hne F₁ N₁
end
end SD4
section SD10
section
variable {prog : Program} {w : World} {A : Around} {E : Value → Shared → Prop} {s : Shared} {env : Env} {h₀ : Heap} {x : Str} {body : List Stmt} {Q : Flow → Shared → Prop}
theorem iter_keys {d : Addr} {od : Obj} {kvs : List (Int × Value)} {m₀ : Str → Option Value} {news : List (Addr × Obj)} (J : Nat → (Str → Option Value) → List (Addr × Obj) → Prop)
    (hh : A.handled = none) (hd : od.IsDictOf (intKind prog w) kvs) (hnm : (d == sysModules) = false) (F : Fr h₀ env.locals s.heap m₀) (N : News h₀ env.locals s.heap news) (hj : J 0 m₀ news) (hJd : ∀ i m news, J i m news → (d, od) ∈ news)
    (turn : ∀ I io i k u t m₁ news₁ h tk, kvs[i]? = some (k, u) → J i m₁ news₁ → (∀ p ∈ news₁, p.1 ≠ I) → Fr h₀ env.locals h (fun y => if y = x then some (.int k t) else m₁ y) → News h₀ env.locals h ((I, io) :: news₁) →
      wpAny (model prog w) A (execs body env) (TurnEnd h₀ env.locals (fun m' news' => J (i + 1) m' news' ∧ ∀ p ∈ news', p.1 ≠ I) I io s Q) E { s with heap := h, toks := tk })
    (done : ∀ m₁ news₁ h tk, J kvs.length m₁ news₁ → Fr h₀ env.locals h m₁ → News h₀ env.locals h news₁ → Q .next { s with heap := h, toks := tk }) :
    wpAny (model prog w) A (pyIter (.ref d)) (fun it s₂ => LoopAtV prog w A h₀ env x body Q E it s₂) E s := by
  have hm := N _ (hJd _ _ _ hj)
  obtain ⟨ep, hat⟩ := (Heap.dictOf_iff.mpr ⟨od, hm.1, hd⟩).dictAt
  have hne : d ≠ s.heap.objs.size := Nat.ne_of_lt hat.lt_size
  refine wpAny_pyIter_dict hnm hat ?_
  have W := Walks.dictKeys (prog := prog) (w := w) (knd := intKind prog w) hh s.heap.objs.size d hne kvs ep
  have hIL : s.heap.objs.size ≠ env.locals := by
    obtain ⟨o, _, _, ho, _⟩ := F.ns
    exact Nat.ne_of_gt (Heap.lt_size ho)
  have hIw : ∀ p ∈ news, p.1 ≠ s.heap.objs.size := fun p hp => Nat.ne_of_lt (Heap.lt_size (N p hp).1)
  refine iter_walk (s := s) W _ ⟨_, _, rfl⟩ (fun i m news => J i m news ∧ ∀ p ∈ news, p.1 ≠ s.heap.objs.size) ⟨⟨_, Heap.get?_push_size _ rfl, rfl, rfl⟩, hat.push _⟩ (fun i h st => ?_) (F.push _)
    (fun p hp => ⟨Heap.get?_push_of_some _ (N p hp).1, (N p hp).2⟩) (next_is_new F) hIL hIw ?_ ⟨hj, hIw⟩ ?_ (fun _ _ _ _ _ hJ _ => hJ.2) fun m₁ news₁ h tk hJ F' N' => done m₁ news₁ h tk hJ.1 F' N'
  · obtain ⟨o, ho, _⟩ := st.1
    exact ⟨o, ho⟩
  · intro a ha
    rw [List.mem_singleton.mp ha]
    exact ⟨hm.2.1, _, Heap.get?_push_of_some _ hm.1, .inr fun _ _ _ hJ => hJd _ _ _ hJ.1⟩
  · intro i v m₁ news₁ h tk io _ hP hJ hne F₁ N₁
    obtain ⟨k, u, hk, hv⟩ := hP
    obtain ⟨t, rfl⟩ := Value.isInt_shape (show Value.isInt k v = true from hv)
    exact turn _ io i k u t m₁ news₁ h tk hk hJ.1 hne F₁ N₁
end
end SD10
section SD11
theorem intsAre_at : ∀ {vs : List Value} {ns : List Int}, IntsAre vs ns → ∀ {i : Nat} {v}, vs[i]? = some v → ∃ k t, ns[i]? = some k ∧ v = .int k t
 := by
  intro vs ns x
  induction x with
  | nil => intro i v h; cases h
  | cons k t r ih =>
    intro i v h
    cases i with
    | zero => exact ⟨k, t, rfl, (Option.some.inj h).symm⟩
    | succ i => exact ih (i := i) h
/-- a frame's map: this name holds this value, the rest as in m -/
noncomputable def upd (k : Str) (v : Value) (m : Str → Option Value) : Str → Option Value := fun y => if y = k then some v else m y
noncomputable def fm : List (Str × Value) → (Str → Option Value) → Str → Option Value
  | [], m => m
  | (k, v) :: r, m => upd k v (fm r m)
noncomputable def Agree (m : Str → Option Value) : List (Str × Value) → Prop
  | [] => True
  | (k, v) :: r => m k = some v ∧ Agree m r
theorem fm_agree {m : Str → Option Value} {ks : List (Str × Value)} : Agree m ks → fm ks m = m := by
  induction ks with
  | nil => intro _; rfl
  | cons p r ih =>
    intro h
    funext y
    show (if y = p.1 then some p.2 else fm r m y) = m y
    by_cases e : y = p.1
    · rw [if_pos e, e]; exact h.1.symm
    · rw [if_neg e, ih h.2]
theorem fr_fm {g h : Heap} {L : Addr} {m : Str → Option Value} {ks : List (Str × Value)} (F : Fr g L h m) (a : Agree m ks) : Fr g L h (fm ks m) := by
  rw [fm_agree a]; exact F
theorem fr_fm1 {g h : Heap} {L : Addr} {m : Str → Option Value} {x : Str} {v : Value} {ks : List (Str × Value)} (F : Fr g L h (fun y => if y = x then some v else m y)) (a : Agree m ks) : Fr g L h (fm ((x, v) :: ks) m) := by
  have e : fm ((x, v) :: ks) m = fun y => if y = x then some v else m y := by
    funext y
    show (if y = x then some v else fm ks m y) = _
    rw [fm_agree a]
  rw [e]; exact F
section
variable {prog : Program} {w : World} {A : Around} {E : Value → Shared → Prop} {s : Shared} {env : Env} {h₀ : Heap} {x : Str} {body : List Stmt} {Q : Flow → Shared → Prop} {σ : Type}
/-- a turn of a loop: the state is z, its ledger Ln z, its names ks z; what stands behind the turn is a letter -/
noncomputable def TurnS (prog : Program) (w : World) (A : Around) (h₀ : Heap) (env : Env) (body : List Stmt) (s : Shared) (Ln : σ → List (Addr × Obj)) (ks : σ → List (Str × Value)) (J : σ → Prop) (z : σ) (I : Addr) (io : Obj) (F : List (Str × Value)) : Prop :=
  ∀ m h tk (Qt : Flow → Shared → Prop), Fr h₀ env.locals h (fm F m) → News h₀ env.locals h ((I, io) :: Ln z) →
    (∀ h' tk' z' m', Fr h₀ env.locals h' m' → Agree m' (ks z') → News h₀ env.locals h' ((I, io) :: Ln z') → J z' → (∀ p ∈ Ln z', p.1 ≠ I) → Qt .next { s with heap := h', toks := tk' }) → wpAny (model prog w) A (execs body env) Qt (fun _ _ => False) { s with heap := h, toks := tk }
theorem turnS_end {Ln : σ → List (Addr × Obj)} {ks : σ → List (Str × Value)} {J : σ → Prop} {z : σ} {I : Addr} {io : Obj} {F : List (Str × Value)} {J' : (Str → Option Value) → List (Addr × Obj) → Prop} {m : Str → Option Value} {h : Heap} {tk : Nat}
    (T : TurnS prog w A h₀ env body s Ln ks J z I io F) (hF : Fr h₀ env.locals h (fm F m)) (hN : News h₀ env.locals h ((I, io) :: Ln z)) (hJ : ∀ z' m', J z' → Agree m' (ks z') → (∀ p ∈ Ln z', p.1 ≠ I) → J' m' (Ln z')) :
    wpAny (model prog w) A (execs body env) (TurnEnd h₀ env.locals J' I io s Q) E { s with heap := h, toks := tk } :=
  wpAny_mono (T m h tk _ hF hN fun h' tk' z' m' F' a N' j n => ⟨h', tk', m', Ln z', rfl, F', N', hJ z' m' j a n⟩) (fun _ _ x => x) fun _ _ x => x.elim
theorem refs_loop {l : Addr} {vs : List Value} {n : Nat} {m₀ : Str → Option Value} (Ln : σ → List (Addr × Obj)) (ks : σ → List (Str × Value)) (J : Nat → σ → Prop) (z₀ : σ)
    (hh : A.handled = none) (F : Fr h₀ env.locals s.heap m₀) (N : News h₀ env.locals s.heap (Ln z₀)) (hj : J 0 z₀) (ha : Agree m₀ (ks z₀)) (hJl : ∀ i z, J i z → (l, listOf vs.toArray n) ∈ Ln z)
    (turn : ∀ I io i v z, vs[i]? = some v → J i z → (∀ p ∈ Ln z, p.1 ≠ I) → TurnS prog w A h₀ env body s Ln ks (J (i + 1)) z I io ((x, v) :: ks z))
    (done : ∀ z m h tk, J vs.length z → Fr h₀ env.locals h (fm (ks z) m) → News h₀ env.locals h (Ln z) → Q .next { s with heap := h, toks := tk }) :
    wpAny (model prog w) A (pyIter (.ref l)) (fun it s₂ => LoopAtV prog w A h₀ env x body Q E it s₂) E s := by
  refine iter_refs (n := n) (vs := vs) (fun i m news => ∃ z, news = Ln z ∧ J i z ∧ Agree m (ks z)) hh F N ⟨z₀, rfl, hj, ha⟩ ?_ ?_ ?_
  · rintro i m _ ⟨z, rfl, hz, _⟩
    exact hJl i z hz
  · rintro I io i v m _ h tk hv ⟨z, rfl, hz, hm⟩ hne hF hN
    exact turnS_end (turn I io i v z hv hz hne) (fr_fm1 hF hm) hN fun z' m' j a n => ⟨⟨z', rfl, j, a⟩, n⟩
  · rintro m _ h tk ⟨z, rfl, hz, hm⟩ hF hN
    exact done z m h tk hz (fr_fm hF hm) hN
theorem range_loop {r : Addr} {lo hi : Int} {t u t' : Tok} {m₀ : Str → Option Value} (Ln : σ → List (Addr × Obj)) (ks : σ → List (Str × Value)) (J : Nat → σ → Prop) (z₀ : σ)
    (hh : A.handled = none) (hr : IsRange s.heap r lo hi 1 t u t') (hlo : -1000000 ≤ lo ∧ lo ≤ 1000000) (hhi : -1000000 ≤ hi ∧ hi ≤ 1000000) (F : Fr h₀ env.locals s.heap m₀) (N : News h₀ env.locals s.heap (Ln z₀)) (hj : J 0 z₀) (ha : Agree m₀ (ks z₀))
    (turn : ∀ I io i t z, i < (hi - lo).toNat → J i z → (∀ p ∈ Ln z, p.1 ≠ I) → TurnS prog w A h₀ env body s Ln ks (J (i + 1)) z I io ((x, .int (lo + i) t) :: ks z))
    (done : ∀ z m h tk, J (hi - lo).toNat z → Fr h₀ env.locals h (fm (ks z) m) → News h₀ env.locals h (Ln z) → Q .next { s with heap := h, toks := tk }) :
    wpAny (model prog w) A (pyIter (.ref r)) (fun it s₂ => LoopAtV prog w A h₀ env x body Q E it s₂) E s := by
  refine iter_range (fun i m news => ∃ z, news = Ln z ∧ J i z ∧ Agree m (ks z)) hh hr hlo hhi F N ⟨z₀, rfl, hj, ha⟩ ?_ ?_
  · rintro I io i v m _ h tk hi ⟨t, rfl⟩ ⟨z, rfl, hz, hm⟩ hne hF hN
    exact turnS_end (turn I io i t z hi hz hne) (fr_fm1 hF hm) hN fun z' m' j a n => ⟨⟨z', rfl, j, a⟩, n⟩
  · rintro m _ h tk ⟨z, rfl, hz, hm⟩ hF hN
    exact done z m h tk hz (fr_fm hF hm) hN
theorem keys_loop {d : Addr} {od : Obj} {kvs : List (Int × Value)} {m₀ : Str → Option Value} (Ln : σ → List (Addr × Obj)) (ks : σ → List (Str × Value)) (J : Nat → σ → Prop) (z₀ : σ)
    (hh : A.handled = none) (hd : od.IsDictOf (intKind prog w) kvs) (hnm : (d == sysModules) = false) (F : Fr h₀ env.locals s.heap m₀) (N : News h₀ env.locals s.heap (Ln z₀)) (hj : J 0 z₀) (ha : Agree m₀ (ks z₀)) (hJd : ∀ i z, J i z → (d, od) ∈ Ln z)
    (turn : ∀ I io i k u t z, kvs[i]? = some (k, u) → J i z → (∀ p ∈ Ln z, p.1 ≠ I) → TurnS prog w A h₀ env body s Ln ks (J (i + 1)) z I io ((x, .int k t) :: ks z))
    (done : ∀ z m h tk, J kvs.length z → Fr h₀ env.locals h (fm (ks z) m) → News h₀ env.locals h (Ln z) → Q .next { s with heap := h, toks := tk }) :
    wpAny (model prog w) A (pyIter (.ref d)) (fun it s₂ => LoopAtV prog w A h₀ env x body Q E it s₂) E s := by
  refine iter_keys (od := od) (kvs := kvs) (fun i m news => ∃ z, news = Ln z ∧ J i z ∧ Agree m (ks z)) hh hd hnm F N ⟨z₀, rfl, hj, ha⟩ ?_ ?_ ?_
  · rintro i m _ ⟨z, rfl, hz, _⟩
    exact hJd i z hz
  · rintro I io i k u t m _ h tk hv ⟨z, rfl, hz, hm⟩ hne hF hN
    exact turnS_end (turn I io i k u t z hv hz hne) (fr_fm1 hF hm) hN fun z' m' j a n => ⟨⟨z', rfl, j, a⟩, n⟩
  · rintro m _ h tk ⟨z, rfl, hz, hm⟩ hF hN
    exact done z m h tk hz (fr_fm hF hm) hN
/-- a loop over a list that is none of the call's own -/
theorem list_loop {l : Addr} {vs : List Value} {m₀ : Str → Option Value} (Ln : σ → List (Addr × Obj)) (ks : σ → List (Str × Value)) (J : Nat → σ → Prop) (z₀ : σ)
    (hh : A.handled = none) (hl : h₀.IsList l vs.toArray) (F : Fr h₀ env.locals s.heap m₀) (N : News h₀ env.locals s.heap (Ln z₀)) (hj : J 0 z₀) (ha : Agree m₀ (ks z₀))
    (turn : ∀ I io i v z, vs[i]? = some v → J i z → (∀ p ∈ Ln z, p.1 ≠ I) → TurnS prog w A h₀ env body s Ln ks (J (i + 1)) z I io ((x, v) :: ks z))
    (done : ∀ z m h tk, J vs.length z → Fr h₀ env.locals h (fm (ks z) m) → News h₀ env.locals h (Ln z) → Q .next { s with heap := h, toks := tk }) :
    wpAny (model prog w) A (pyIter (.ref l)) (fun it s₂ => LoopAtV prog w A h₀ env x body Q E it s₂) E s := by
  have hls : s.heap.IsList l vs.toArray := hl.at fun o e => F.keep _ _ e
  obtain ⟨o, ho, hl'⟩ := id hl
  have hlt := Heap.lt_size (F.keep _ _ ho)
  have hIL : s.heap.objs.size ≠ env.locals := by
    obtain ⟨o, _, _, ho, _⟩ := F.ns
    exact Nat.ne_of_gt (Heap.lt_size ho)
  have hlL : l ≠ env.locals := fun e => by rw [e, kts_self F] at ho; cases ho
  have hIw : ∀ p ∈ Ln z₀, p.1 ≠ s.heap.objs.size := fun p hp => Nat.ne_of_lt (Heap.lt_size (N p hp).1)
  refine wpAny_pyIter_list hls ?_
  refine iter_walk (s := s) (Walks.list (prog := prog) (w := w) hh s.heap.objs.size l (Nat.ne_of_lt hlt) vs.toArray) _ ⟨_, _, rfl⟩ (fun i m news => ∃ z, news = Ln z ∧ J i z ∧ Agree m (ks z) ∧ ∀ p ∈ Ln z, p.1 ≠ s.heap.objs.size) ⟨⟨_, Heap.get?_push_size _ rfl, rfl, rfl⟩, hls.at fun o e => Heap.get?_push_of_some _ e⟩ (fun i h st => ?_) (F.push _)
    (fun p hp => ⟨Heap.get?_push_of_some _ (N p hp).1, (N p hp).2⟩) (next_is_new F) hIL hIw ?_ ⟨z₀, rfl, hj, ha, hIw⟩ ?_ (fun i m news h io hJ _ => ?_) fun m₁ news₁ h tk hJ F' N' => ?_
  · obtain ⟨o, ho, _⟩ := st.1
    exact ⟨o, ho⟩
  · intro a ha
    rw [List.mem_singleton.mp ha]
    exact ⟨hlL, o, Heap.get?_push_of_some _ (F.keep _ _ ho), .inl ho⟩
  · rintro i v m _ h tk io _ hP ⟨z, rfl, hz, hm, hI⟩ hne hF hN
    exact turnS_end (turn _ io i v z (by simpa using hP) hz hI) (fr_fm1 hF hm) hN fun z' m' j a n => ⟨z', rfl, j, a, n⟩
  · obtain ⟨z, rfl, _, _, n⟩ := hJ
    exact n
  · obtain ⟨z, rfl, hz, hm, _⟩ := hJ
    exact done z m₁ h tk (by simpa using hz) (fr_fm F' hm) N'
end
end SD11
section SM4
local macro_rules | `(tactic| mul_fits) => `(tactic| (apply_assumption; assumption))
theorem dig_turn {G : Prop} {ns : List Int} {i : Nat} {d k : Int} (hd : DigOk i d) (hk : ns[i]? = some k) (hlen : ns.length ≤ 63) (hb : BitsOk ns)
    (g : (0 ≤ k → IntMulOk d k) → (¬ 0 ≤ k → IntMulOk d (-1 - k)) → (0 ≤ k → DigOk (i + 1) (d * k + k)) → (¬ 0 ≤ k → DigOk (i + 1) (d * (-1 - k) + (-1 - k))) → DigOk (i + 1) d → G) : G := by
  have hi : i < ns.length := (List.getElem?_eq_some_iff.mp hk).1
  obtain ⟨j, hj⟩ : ∃ j, ns.length = i + (j + 1) := ⟨ns.length - (i + 1), by omega⟩
  have hm := hb k (List.mem_of_getElem? hk)
  exact g (fun _ => dig_mul hd hj hlen hm) (fun h => dig_mul hd hj hlen (bits_neg h hm)) (fun h => dig_step hd h hm) (fun h => dig_step hd (by omega) (bits_neg h hm)) (dig_stay hd)
theorem pool_spec {w : World} {mean : ExcName → Option Value} {mg mb : Str → Option Value} {b : Heap} (S : Sta w mean mg mb b) {dep un : Nat} {fr : Option (List Env)} {gs : Option (List Code)} (hroom : dep + 1 < recursionLimit) {s : Shared} (hb : b.StaysIn s.heap)
    {scr : Addr} {vs : List Value} {ns : List Int} (hl : b.IsList scr vs.toArray) (hi : IntsAre vs ns) (hlen : ns.length ≤ 63) (hbits : BitsOk ns) {R : Result → Shared → Prop}
    (h : ∀ h' src d' td' m' tm' tk, Step b [] [(src, srcO d' m' td' tm' 0)] s.heap h' → 0 ≤ d' → 0 ≤ m' → m' < 2147483647 → R (.ok (.ret (.ref src))) { s with heap := h', toks := tk }) :
    codeAny (model PySem.Challenge.rw_nt0093_01.row.prog w) (⟨none, dep, fr, gs, un⟩ : Around) (.call (.ref 202) ⟨[.ref scr], []⟩) R s := by
  have hs : Own b s.heap [] := fun p hp => nomatch hp
  refine' call_footQ (K := head.heap_39 w.params) S hb hs ?k1 S.X ?k2 (by (first | assumption | exact room_le hroom (by decide) | exact room_1 hroom (by decide) | exact room_0 hroom | ((try simp only [Around.deeper, Around.in1]); first | exact room_le hroom (by decide) | exact room_1 hroom (by decide) | exact room_0 hroom | omega))) ?k3 ?k4 ?_ ?c1 ?c2 ?c3 ?c4
  case k1 => k_is
  case k2 => k_is
  case k3 => first | exact BindsTo.of_eq rfl | exact binds_K (S.X.keeps hb) rfl (by k_is) rfl rfl rfl
  case k4 => exact locs rfl
  case c1 => exact rfl
  case c2 => exact rfl
  case c3 => exact rfl
  case c4 => decide
  intro Q9 g L' h₁ hQ hg hL F N S'
  have hbg := stays_of S hb hs hg
  have X := S'.X
  have T := S'.T
  dsimp only
  have hlg : g.IsList scr vs.toArray := hl.at fun o e => hbg _ _ e
  clear hl
  repeat' (first | ((fail_if_success (with_reducible show wpAny _ _ (pyIter _) _ _ _)); first | (k_unfold; (try dsimp only)) | walk1 | (dsimp only; walk1)))
  try (with_reducible refine hQ _ _ ?_); try dsimp only
  rename Fr _ _ _ _ => F2
  rename News _ _ _ _ => N2
  rename IntsAre _ _ => hi
  obtain ⟨mm0, t1, t2, F3, ag⟩ : ∃ mm0 t1 t2, Fr g L' _ mm0 ∧ Agree mm0 [(Str.ofString "digits", .int 0 t1), (Str.ofString "mixed", .int 31 t2)] := ⟨_, _, _, F2, rfl, rfl, trivial⟩
  refine list_loop (fun _ => []) (fun z : (Int × Nat) × (Int × Nat) => [(Str.ofString "digits", .int z.1.1 z.1.2), (Str.ofString "mixed", .int z.2.1 z.2.2)]) (fun i z => DigOk i z.1.1 ∧ 0 ≤ z.2.1 ∧ z.2.1 < 2147483647) ((0, t1), (31, t2)) rfl hlg F3 (news_sub N2 (List.forall_mem_nil _)) dig_start ag ?_ ?_
  · intro I io i v z hv hz hI m h4 tk4 Qt F4 N4 hk
    obtain ⟨k, kt, hk1, rfl⟩ := intsAre_at hi hv
    obtain ⟨za, zb⟩ := z
    obtain ⟨d, td⟩ := za
    obtain ⟨mm, tm⟩ := zb
    refine dig_turn hz.1 hk1 hlen hbits fun hp hn sp sn ss => ?_
    have hm := hz.2
    clear F2 F3 ag N2 hlg h hQ hlen hbits hz hs
    dsimp only [fm] at F4 N4 hm
    k_steps
    all_goals
      rename Fr _ _ _ _ => F6
      rename News _ _ _ _ => N6
      exact hk _ _ ((_, _), (_, _)) _ F6 ⟨rfl, rfl, trivial⟩ N6 ⟨(by first | exact sp (by assumption) | exact sn (by assumption) | exact ss), fm_in _⟩ (List.forall_mem_nil _)
  · intro z m h4 tk4 hz F4 N4
    clear F2 F3 ag N2
    dsimp only [fm] at F4 N4 ⊢
    k_steps
    try (with_reducible refine hQ _ _ ?_); try dsimp only
    rename Fr _ _ _ _ => F2
    rename News _ _ _ _ => N2
    exact h _ _ _ _ _ _ _ (step_of hg hbg F2 N2 (by repeat' (first | exact List.forall_mem_nil _ | (refine List.forall_mem_cons.mpr ⟨?sa, ?_⟩; (case sa => k_mem)) | (intro p9 hp9; repeat' (first | exact hp9 | refine List.Mem.tail _ ?_))))) hz.1.1 hz.2.1 hz.2.2
end SM4
section SM5
noncomputable abbrev spD (P : Params) (c p : Value) (t1 t2 : Tok) : Obj := dictOf [⟨PyData.keyHash P (Str.ofString "count"), .str (Str.ofString "count") t1, c⟩, ⟨PyData.keyHash P (Str.ofString "pages"), .str (Str.ofString "pages") t2, p⟩] 2
noncomputable abbrev plD (P : Params) (p : Value) (t1 : Tok) : Obj := dictOf [⟨PyData.keyHash P (Str.ofString "pages"), .str (Str.ofString "pages") t1, p⟩] 1
noncomputable abbrev chD (P : Params) (st c p sv : Value) (t1 t2 t3 t4 : Tok) : Obj := dictOf [⟨PyData.keyHash P (Str.ofString "store"), .str (Str.ofString "store") t1, st⟩, ⟨PyData.keyHash P (Str.ofString "count"), .str (Str.ofString "count") t2, c⟩, ⟨PyData.keyHash P (Str.ofString "pages"), .str (Str.ofString "pages") t3, p⟩, ⟨PyData.keyHash P (Str.ofString "savepoints"), .str (Str.ofString "savepoints") t4, sv⟩] 4

theorem mk_sp {w : World} {mean : ExcName → Option Value} {mg mb : Str → Option Value} {g : Heap} {L : Addr} {mm : Str → Option Value} {news : List (Addr × Obj)} {dep un : Nat} {fr : Option (List Env)} {gs : Option (List Code)} {s : Shared} {Q : Value → Shared → Prop} {E : Value → Shared → Prop}
    {c : Int} {ct : Tok} (F : Fr g L s.heap mm) (N : News g L s.heap news) (S : Sta w mean mg mb g) (hroom : dep + 1 < recursionLimit)
    (h : ∀ (x dx pg : Nat) t1 t2 o h' tk, Fr g L h' mm → News g L h' ((pg, o) :: (x, instObj 63 dx) :: (dx, spD w.params (.int c ct) (.ref pg) t1 t2) :: news) → o.IsDictOf (intKind PySem.Challenge.rw_nt0093_01.row.prog w) [] → (pg == sysModules) = false →
      dx < x → x < pg → (∀ p ∈ news, p.1 < dx) → Q (.ref x) { s with heap := h', toks := tk }) :
    wpAny (model PySem.Challenge.rw_nt0093_01.row.prog w) (⟨none, dep, fr, gs, un⟩ : Around) (call (.ref 63) [.int c ct]) Q E s := by
  have X := S.X
  have T := S.T
  refine' call_cls F X N ?k1 ?k2 ?k3 ?_
  case k1 => k_is
  case k2 => k_is
  case k3 => k_is
  intro x dx h' F' N' l1 l2
  replace l2 := ltN l2
  have hs : Own g h' [(x, instObj 63 dx), (dx, dictOf [] 0)] := own_of_news N' (by repeat' (first | exact List.forall_mem_nil _ | (refine List.forall_mem_cons.mpr ⟨?sa, ?_⟩; (case sa => k_mem)) | (intro p9 hp9; repeat' (first | exact hp9 | refine List.Mem.tail _ ?_))))
  refine' call_footQ (s := { s with heap := h' }) (K := head.heap_39 w.params) S F'.keep hs ?k1 S.X ?k2 ?k0 ?k3 ?k4 ?_ ?c1 ?c2 ?c3 ?c4
  case k0 => simp only [depth_under_make]; omega
  case k1 => k_is
  case k2 => k_is
  case k3 => exact BindsTo.of_eq rfl
  case k4 => exact locs rfl
  case c1 => exact rfl
  case c2 => exact rfl
  case c3 => exact rfl
  case c4 => decide
  intro Q9 g2 L2 h₂ hQ hg hL F2 N2 S2
  have hbg := stays_of (h := h') S F'.keep hs hg
  have X2 := S2.X
  have T2 := S2.T
  dsimp only
  k_steps
  rename Fr _ _ _ _ => F9
  rename News _ _ _ _ => N9
  rename Obj.IsDictOf (intKind _ _) _ _ => hi9
  rename (_ == sysModules) = false => lo9
  rename x < _ ∧ dx < _ => l9
  have T9 := step_of (foot' := [(_, _), (x, instObj 63 dx), (dx, spD w.params (.int c ct) (.ref _) _ _)]) hg hbg F9 N9 (by repeat' (first | exact List.forall_mem_nil _ | (refine List.forall_mem_cons.mpr ⟨?sa, ?_⟩; (case sa => k_mem)) | (intro p9 hp9; repeat' (first | exact hp9 | refine List.Mem.tail _ ?_))))
  have hf : ∀ p ∈ [(x, instObj 63 dx), (dx, dictOf [] 0)], p ∈ (x, instObj 63 dx) :: (dx, dictOf [] 0) :: news := (by repeat' (first | exact List.forall_mem_nil _ | (refine List.forall_mem_cons.mpr ⟨?sa, ?_⟩; (case sa => k_mem)) | (intro p9 hp9; repeat' (first | exact hp9 | refine List.Mem.tail _ ?_))))
  have F10 := after_fr F' N' hf T9
  have N10 := after_news (rest := news) F' N' hf (fun p hp => .tail _ (.tail _ hp)) (fun p hp q => by
    have := ltN (l1 p hp)
    rcases List.mem_cons.mp q with e | q
    · have e' : @Eq Nat p.1 x := e
      omega
    · have e' : @Eq Nat p.1 dx := List.mem_singleton.mp q
      omega) T9
  refine hQ _ _ ?_
  exact ⟨rfl, h _ _ _ _ _ _ _ _ F10 N10 hi9 lo9 l2 l9.1 l1⟩

theorem mk_store {w : World} {mean : ExcName → Option Value} {mg mb : Str → Option Value} {g : Heap} {L : Addr} {mm : Str → Option Value} {news : List (Addr × Obj)} {dep un : Nat} {fr : Option (List Env)} {gs : Option (List Code)} {s : Shared} {Q : Value → Shared → Prop} {E : Value → Shared → Prop}
    {fl : Addr} {its : List Value} {fn : Nat} (F : Fr g L s.heap mm) (N : News g L s.heap news) (S : Sta w mean mg mb g) (hroom : dep + 1 < recursionLimit) (hm : (fl, listOf its.toArray fn) ∈ news) (hz : its.length ≤ sizeLine)
    (h : ∀ (x dx sl : Nat) t1 ln h' tk, Fr g L h' mm → News g L h' ((sl, listOf its.toArray ln) :: (x, instObj 91 dx) :: (dx, plD w.params (.ref sl) t1) :: news) →
      dx < x → x < sl → (∀ p ∈ news, p.1 < dx) → Q (.ref x) { s with heap := h', toks := tk }) :
    wpAny (model PySem.Challenge.rw_nt0093_01.row.prog w) (⟨none, dep, fr, gs, un⟩ : Around) (call (.ref 91) [.ref fl]) Q E s := by
  have X := S.X
  have T := S.T
  refine' call_cls F X N ?k1 ?k2 ?k3 ?_
  case k1 => k_is
  case k2 => k_is
  case k3 => k_is
  intro x dx h' F' N' l1 l2
  replace l2 := ltN l2
  have hflt := ltN (l1 _ hm)
  have hs : Own g h' [(x, instObj 91 dx), (dx, dictOf [] 0)] := own_of_news N' (by repeat' (first | exact List.forall_mem_nil _ | (refine List.forall_mem_cons.mpr ⟨?sa, ?_⟩; (case sa => k_mem)) | (intro p9 hp9; repeat' (first | exact hp9 | refine List.Mem.tail _ ?_))))
  refine' call_footQ (s := { s with heap := h' }) (K := head.heap_39 w.params) S F'.keep hs ?k1 S.X ?k2 ?k0 ?k3 ?k4 ?_ ?c1 ?c2 ?c3 ?c4
  case k0 => simp only [depth_under_make]; omega
  case k1 => k_is
  case k2 => k_is
  case k3 => exact BindsTo.of_eq rfl
  case k4 => exact locs rfl
  case c1 => exact rfl
  case c2 => exact rfl
  case c3 => exact rfl
  case c4 => decide
  intro Q9 g2 L2 h₂ hQ hg hL F2 N2 S2
  have hbg := stays_of (h := h') S F'.keep hs hg
  have X2 := S2.X
  have T2 := S2.T
  have hl2 : g2.IsList fl its.toArray := ⟨_, hg _ _ (N' (fl, listOf its.toArray fn) (.tail _ (.tail _ hm))).1 (fun q => by
    simp only [List.map_cons, List.map_nil, List.mem_cons, List.not_mem_nil, or_false] at q
    have q' : @Eq Nat fl x ∨ @Eq Nat fl dx := q
    have h9 : @LT.lt Nat _ fl dx := hflt
    omega), rfl, _, rfl⟩
  dsimp only
  k_steps
  rename Fr _ _ _ _ => F9
  rename News _ _ _ _ => N9
  rename x < _ ∧ dx < _ => l9
  have T9 := step_of (foot' := [(_, listOf its.toArray _), (x, instObj 91 dx), (dx, plD w.params (.ref _) _)]) hg hbg F9 N9 (by repeat' (first | exact List.forall_mem_nil _ | (refine List.forall_mem_cons.mpr ⟨?sa, ?_⟩; (case sa => k_mem)) | (intro p9 hp9; repeat' (first | exact hp9 | refine List.Mem.tail _ ?_))))
  have hf : ∀ p ∈ [(x, instObj 91 dx), (dx, dictOf [] 0)], p ∈ (x, instObj 91 dx) :: (dx, dictOf [] 0) :: news := (by repeat' (first | exact List.forall_mem_nil _ | (refine List.forall_mem_cons.mpr ⟨?sa, ?_⟩; (case sa => k_mem)) | (intro p9 hp9; repeat' (first | exact hp9 | refine List.Mem.tail _ ?_))))
  have F10 := after_fr F' N' hf T9
  have N10 := after_news (rest := news) F' N' hf (fun p hp => .tail _ (.tail _ hp)) (fun p hp q => by
    have := ltN (l1 p hp)
    rcases List.mem_cons.mp q with e | q
    · have e' : @Eq Nat p.1 x := e
      omega
    · have e' : @Eq Nat p.1 dx := List.mem_singleton.mp q
      omega) T9
  refine hQ _ _ ?_
  exact ⟨rfl, h _ _ _ _ _ _ _ F10 N10 l2 l9.1 l1⟩

theorem mk_ch {w : World} {mean : ExcName → Option Value} {mg mb : Str → Option Value} {g : Heap} {L : Addr} {mm : Str → Option Value} {news : List (Addr × Obj)} {dep un : Nat} {fr : Option (List Env)} {gs : Option (List Code)} {s : Shared} {Q : Value → Shared → Prop} {E : Value → Shared → Prop}
    {st : Addr} (F : Fr g L s.heap mm) (N : News g L s.heap news) (S : Sta w mean mg mb g) (hroom : dep + 1 < recursionLimit)
    (h : ∀ (x dx pg sv : Nat) ct t1 t2 t3 t4 o sn h' tk, Fr g L h' mm → News g L h' ((sv, listOf #[] sn) :: (pg, o) :: (x, instObj 191 dx) :: (dx, chD w.params (.ref st) (.int 0 ct) (.ref pg) (.ref sv) t1 t2 t3 t4) :: news) → o.IsDictOf (intKind PySem.Challenge.rw_nt0093_01.row.prog w) [] → (pg == sysModules) = false →
      dx < x → x < pg → pg < sv → (∀ p ∈ news, p.1 < dx) → Q (.ref x) { s with heap := h', toks := tk }) :
    wpAny (model PySem.Challenge.rw_nt0093_01.row.prog w) (⟨none, dep, fr, gs, un⟩ : Around) (call (.ref 191) [.ref st]) Q E s := by
  have X := S.X
  have T := S.T
  refine' call_cls F X N ?k1 ?k2 ?k3 ?_
  case k1 => k_is
  case k2 => k_is
  case k3 => k_is
  intro x dx h' F' N' l1 l2
  replace l2 := ltN l2
  have hs : Own g h' [(x, instObj 191 dx), (dx, dictOf [] 0)] := own_of_news N' (by repeat' (first | exact List.forall_mem_nil _ | (refine List.forall_mem_cons.mpr ⟨?sa, ?_⟩; (case sa => k_mem)) | (intro p9 hp9; repeat' (first | exact hp9 | refine List.Mem.tail _ ?_))))
  refine' call_footQ (s := { s with heap := h' }) (K := head.heap_39 w.params) S F'.keep hs ?k1 S.X ?k2 ?k0 ?k3 ?k4 ?_ ?c1 ?c2 ?c3 ?c4
  case k0 => simp only [depth_under_make]; omega
  case k1 => k_is
  case k2 => k_is
  case k3 => first | exact BindsTo.of_eq rfl | exact binds_K (S.X.keeps F'.keep) rfl (by k_is) rfl rfl rfl
  case k4 => exact locs rfl
  case c1 => exact rfl
  case c2 => exact rfl
  case c3 => exact rfl
  case c4 => decide
  intro Q9 g2 L2 h₂ hQ hg hL F2 N2 S2
  have hbg := stays_of (h := h') S F'.keep hs hg
  have X2 := S2.X
  have T2 := S2.T
  dsimp only
  k_steps
  rename Fr _ _ _ _ => F9
  rename Obj => o9
  rename News _ _ _ _ => N9
  rename Obj.IsDictOf (intKind _ _) _ _ => hi9
  rename (_ == sysModules) = false => lo9
  rename x < _ ∧ dx < _ => l9
  rename _ < _ ∧ x < _ ∧ dx < _ => l8
  have T9 := step_of (foot' := [(_, listOf #[] _), (_, o9), (x, instObj 191 dx), (dx, chD w.params (.ref st) (.int 0 _) (.ref _) (.ref _) _ _ _ _)]) hg hbg F9 N9 (by repeat' (first | exact List.forall_mem_nil _ | (refine List.forall_mem_cons.mpr ⟨?sa, ?_⟩; (case sa => k_mem)) | (intro p9 hp9; repeat' (first | exact hp9 | refine List.Mem.tail _ ?_))))
  have hf : ∀ p ∈ [(x, instObj 191 dx), (dx, dictOf [] 0)], p ∈ (x, instObj 191 dx) :: (dx, dictOf [] 0) :: news := (by repeat' (first | exact List.forall_mem_nil _ | (refine List.forall_mem_cons.mpr ⟨?sa, ?_⟩; (case sa => k_mem)) | (intro p9 hp9; repeat' (first | exact hp9 | refine List.Mem.tail _ ?_))))
  have F10 := after_fr F' N' hf T9
  have N10 := after_news (rest := news) F' N' hf (fun p hp => .tail _ (.tail _ hp)) (fun p hp q => by
    have := ltN (l1 p hp)
    rcases List.mem_cons.mp q with e | q
    · have e' : @Eq Nat p.1 x := e
      omega
    · have e' : @Eq Nat p.1 dx := List.mem_singleton.mp q
      omega) T9
  refine hQ _ _ ?_
  exact ⟨rfl, h _ _ _ _ _ _ _ _ _ _ _ _ _ F10 N10 hi9 lo9 l2 l9.1 l8.1 l1⟩
end SM5
section SM6
structure SpG where
  x : Nat
  dx : Nat
  pg : Nat
  c : Int
  ct : Nat
  t1 : Nat
  t2 : Nat
  o : Obj
  kvs : List (Int × Value)
noncomputable def SpG.l (P : Params) (sp : SpG) : List (Addr × Obj) := [(sp.x, instObj 63 sp.dx), (sp.dx, spD P (.int sp.c sp.ct) (.ref sp.pg) sp.t1 sp.t2), (sp.pg, sp.o)]
noncomputable def SpG.as (sp : SpG) : List Nat := [sp.x, sp.dx, sp.pg]
noncomputable def spsL (P : Params) (sps : List SpG) : List (Addr × Obj) := sps.flatMap (SpG.l P)
noncomputable def spsA (sps : List SpG) : List Nat := sps.flatMap SpG.as
structure SpG.Ok (w : World) (sp : SpG) : Prop where
  dict : sp.o.IsDictOf (intKind PySem.Challenge.rw_nt0093_01.row.prog w) sp.kvs
  nm : (sp.pg == sysModules) = false
  small : sp.kvs.length ≤ 1000
  vals : ∀ k v, valueAt sp.kvs k = some v → ∃ bs t, v = .bytes bs t
structure ChG where
  x : Nat
  dx : Nat
  pg : Nat
  sv : Nat
  st : Nat
  sd : Nat
  sl : Nat
  c : Int
  ct : Nat
  t1 : Nat
  t2 : Nat
  t3 : Nat
  t4 : Nat
  po : Obj
  kvs : List (Int × Value)
  sn : Nat
  tp : Nat
  ln : Nat
  first : List Value
  sps : List SpG
noncomputable def svI (sps : List SpG) : List Value := sps.map fun sp => .ref sp.x
/-- the ledger but for the savepoints -/
noncomputable def chTop (P : Params) (ch : ChG) (its : List Value) : List (Addr × Obj) := [(ch.x, instObj 191 ch.dx), (ch.dx, chD P (.ref ch.st) (.int ch.c ch.ct) (.ref ch.pg) (.ref ch.sv) ch.t1 ch.t2 ch.t3 ch.t4), (ch.pg, ch.po), (ch.st, instObj 91 ch.sd), (ch.sd, plD P (.ref ch.sl) ch.tp), (ch.sl, listOf ch.first.toArray ch.ln), (ch.sv, listOf its.toArray ch.sn)]
noncomputable def ChG.l (P : Params) (ch : ChG) : List (Addr × Obj) := chTop P ch (svI ch.sps) ++ spsL P ch.sps
noncomputable def ChG.as (ch : ChG) : List Nat := [ch.x, ch.dx, ch.pg, ch.st, ch.sd, ch.sl, ch.sv] ++ spsA ch.sps
structure ChG.Ok (w : World) (ch : ChG) : Prop where
  dict : ch.po.IsDictOf (intKind PySem.Challenge.rw_nt0093_01.row.prog w) ch.kvs
  nm : (ch.pg == sysModules) = false
  small : ch.kvs.length ≤ 1000
  vals : ∀ k v, valueAt ch.kvs k = some v → ∃ bs t, v = .bytes bs t
  fvals : ∀ v ∈ ch.first, ∃ bs t, v = .bytes bs t
  flen : ch.first.length ≤ 1000
  nodup : ch.as.Nodup
  sps : ∀ sp ∈ ch.sps, sp.Ok w
theorem spsL_as (P : Params) (sps : List SpG) : (spsL P sps).map (·.1) = spsA sps := by
  induction sps with
  | nil => rfl
  | cons a r ih => simp only [spsL, spsA, List.flatMap_cons, List.map_append] at ih ⊢; rw [ih]; rfl
theorem ChG.l_as (P : Params) (ch : ChG) : (ch.l P).map (·.1) = ch.as := by
  simp only [ChG.l, ChG.as, chTop, List.map_append, List.map_cons, List.map_nil, spsL_as]

theorem list_item {prog : Program} {w : World} {A : Around} {E : Value → Shared → Prop} {s : Shared} {value slice : PySem.Expr} {l : Addr} {vs : List Value} {k : Int} {u : Tok} {v : Value} {Q : Value → Shared → Prop}
    (hl : s.heap.IsList l vs.toArray) (h0 : 0 ≤ k) (hhi : k < 2 ^ 63) (hx : vs[k.toNat]? = some v) (h : Q v s)
    (hs : subscripted slice false (.ref l) (.int k u) = operate [.ref l, .int k u] (getItem (.ref l) (.int k u)) := by with_unfolding_all rfl) :
    wpAny (model prog w) A (subscriptTail value slice (.ref l) (.int k u)) Q E s :=
  tail_any hl.typeIs slot_list_getitem.lookup (wpAny_getItem_list hl h0 hhi (by simpa using hx) h) hs

theorem list_len {prog : Program} {w : World} {A : Around} {E : Value → Shared → Prop} {s : Shared} {g : Heap} {L l : Addr} {news : List (Addr × Obj)} {items : Array Value} {n : Nat} {Q : Value → Shared → Prop} (N : News g L s.heap news) (hm : (l, listOf items n) ∈ news)
    (hz : items.size ≤ 1000000) (h : Q (.int items.size (s.toks + 1)) { s with toks := s.toks + 1 + 1 }) : wpAny (model prog w) A (call (.builtin "len") [.ref l]) Q E s :=
  len_list ⟨_, (N _ hm).1, rfl, _, rfl⟩ (by omega) h

theorem fetch_spec {w : World} {mean : ExcName → Option Value} {mg mb : Str → Option Value} {b : Heap} (S : Sta w mean mg mb b) {dep un : Nat} {fr : Option (List Env)} {gs : Option (List Code)} (hroom : dep < recursionLimit) {s : Shared} (hb : b.StaysIn s.heap)
    {st sd sl tp ln : Nat} {first : List Value} {page : Int} {pt : Tok} {v : Value} (hs : Own b s.heap [(st, instObj 91 sd), (sd, plD w.params (.ref sl) tp), (sl, listOf first.toArray ln)])
    (h1 : 1 ≤ page) (h2 : page < 2 ^ 60) (hv : first[(page - 1).toNat]? = some v) {R : Result → Shared → Prop}
    (h : ∀ h' tk, s.heap.StaysIn h' → R (.ok (.ret v)) { s with heap := h', toks := tk }) :
    codeAny (model PySem.Challenge.rw_nt0093_01.row.prog w) (⟨none, dep, fr, gs, un⟩ : Around) (.call (.ref 88) ⟨[.ref st, .int page pt], []⟩) R s := by
  refine' call_footQ (K := head.heap_39 w.params) S hb hs ?k1 S.X ?k2 (by (first | assumption | exact room_le hroom (by decide) | exact room_1 hroom (by decide) | exact room_0 hroom | ((try simp only [Around.deeper, Around.in1]); first | exact room_le hroom (by decide) | exact room_1 hroom (by decide) | exact room_0 hroom | omega))) ?k3 ?k4 ?_ ?c1 ?c2 ?c3 ?c4
  case k1 => k_is
  case k2 => k_is
  case k3 => first | exact BindsTo.of_eq rfl | exact binds_K (S.X.keeps hb) rfl (by k_is) rfl rfl rfl
  case k4 => exact locs rfl
  case c1 => exact rfl
  case c2 => exact rfl
  case c3 => exact rfl
  case c4 => decide
  intro Q9 g L' h₁ hQ hg hL F N S'
  have hbg := stays_of S hb hs hg
  have X := S'.X
  have T := S'.T
  dsimp only
  k_steps
  refine list_item (v := v) ⟨_, (N (sl, listOf first.toArray ln) (by k_mem)).1, rfl, _, rfl⟩ (by omega) (by omega) hv ?_
  try (with_reducible refine hQ _ _ ?_); try dsimp only
  rename Fr _ _ _ _ => F2
  rename News _ _ _ _ => N2
  exact h _ _ ((step_of hg hbg F2 N2 (fun p hp => hp)).same hs)
theorem rules_M6_1 : True := by
  k_with_none
  (k_with "call builtin:dict.get" => (refine kdg_get1 (knd := PySem.intKind _ _) (by k_asm) (by k_mem) (by k_asm) (by k_asm) (intKind_is _ _ _ _) _ (by assumption) ?_; (try dsimp only [Option.getD])))
  trivial
theorem read_spec {w : World} {mean : ExcName → Option Value} {mg mb : Str → Option Value} {b : Heap} (S : Sta w mean mg mb b) {dep un : Nat} {fr : Option (List Env)} {gs : Option (List Code)} (hroom : dep + 1 < recursionLimit) {s : Shared} (hb : b.StaysIn s.heap)
    {x dx pg sv st sd sl ct t1 t2 t3 t4 tp ln : Nat} {cc : Int} {po : Obj} {kvs : List (Int × Value)} {first : List Value} {page : Int} {pt : Tok} {v : Value}
    (hs : Own b s.heap [(x, instObj 191 dx), (dx, chD w.params (.ref st) (.int cc ct) (.ref pg) (.ref sv) t1 t2 t3 t4), (pg, po), (st, instObj 91 sd), (sd, plD w.params (.ref sl) tp), (sl, listOf first.toArray ln)])
    (hd : po.IsDictOf (intKind PySem.Challenge.rw_nt0093_01.row.prog w) kvs) (hnm : (pg == sysModules) = false) (hvals : ∀ k v, valueAt kvs k = some v → ∃ bs t, v = .bytes bs t)
    (h1 : 1 ≤ page) (h2 : page < 2 ^ 60) (hv : (valueAt kvs page = none ∧ first[(page - 1).toNat]? = some v) ∨ valueAt kvs page = some v) {R : Result → Shared → Prop}
    (h : ∀ h' tk, s.heap.StaysIn h' → R (.ok (.ret v)) { s with heap := h', toks := tk }) :
    codeAny (model PySem.Challenge.rw_nt0093_01.row.prog w) (⟨none, dep, fr, gs, un⟩ : Around) (.call (.ref 131) ⟨[.ref x, .int page pt], []⟩) R s := by
  rcases hv with ⟨hv0, hv⟩ | hv
  · skip
    refine' call_footQ (K := head.heap_39 w.params) S hb hs ?k1 S.X ?k2 (by (first | assumption | exact room_le hroom (by decide) | exact room_1 hroom (by decide) | exact room_0 hroom | ((try simp only [Around.deeper, Around.in1]); first | exact room_le hroom (by decide) | exact room_1 hroom (by decide) | exact room_0 hroom | omega))) ?k3 ?k4 ?_ ?c1 ?c2 ?c3 ?c4
    case k1 => k_is
    case k2 => k_is
    case k3 => first | exact BindsTo.of_eq rfl | exact binds_K (S.X.keeps hb) rfl (by k_is) rfl rfl rfl
    case k4 => exact locs rfl
    case c1 => exact rfl
    case c2 => exact rfl
    case c3 => exact rfl
    case c4 => decide
    intro Q9 g L' h₁ hQ hg hL F N S'
    have hbg := stays_of S hb hs hg
    have X := S'.X
    have T := S'.T
    dsimp only
    k_steps
    try (with_reducible refine hQ _ _ ?_); try dsimp only
    rename Fr _ _ _ _ => F2
    rename News _ _ _ _ => N2
    refine wpAny_call ?_
    refine' fetch_spec S' ?r ?k ?o h1 h2 hv ?_
    case r => (first | assumption | exact room_le hroom (by decide) | exact room_1 hroom (by decide) | exact room_0 hroom | ((try simp only [Around.deeper, Around.in1]); first | exact room_le hroom (by decide) | exact room_1 hroom (by decide) | exact room_0 hroom | omega))
    case k => exact F2.keep
    case o => exact own_of_news N2 (by repeat' (first | exact List.forall_mem_nil _ | (refine List.forall_mem_cons.mpr ⟨?sa, ?_⟩; (case sa => k_mem)) | (intro p9 hp9; repeat' (first | exact hp9 | refine List.Mem.tail _ ?_))))
    intro h3 tk3 K3
    have F3 := F2.keeps K3
    have N3 := news_keeps N2 K3
    try dsimp only
    refine hQ _ _ ?_
    try dsimp only
    exact h _ _ ((step_of hg hbg F3 N3 (by repeat' (first | exact List.forall_mem_nil _ | (refine List.forall_mem_cons.mpr ⟨?sa, ?_⟩; (case sa => k_mem)) | (intro p9 hp9; repeat' (first | exact hp9 | refine List.Mem.tail _ ?_))))).same hs)
  · obtain ⟨bs, bt, rfl⟩ := hvals _ _ hv
    refine' call_footQ (K := head.heap_39 w.params) S hb hs ?k1 S.X ?k2 (by (first | assumption | exact room_le hroom (by decide) | exact room_1 hroom (by decide) | exact room_0 hroom | ((try simp only [Around.deeper, Around.in1]); first | exact room_le hroom (by decide) | exact room_1 hroom (by decide) | exact room_0 hroom | omega))) ?k3 ?k4 ?_ ?c1 ?c2 ?c3 ?c4
    case k1 => k_is
    case k2 => k_is
    case k3 => first | exact BindsTo.of_eq rfl | exact binds_K (S.X.keeps hb) rfl (by k_is) rfl rfl rfl
    case k4 => exact locs rfl
    case c1 => exact rfl
    case c2 => exact rfl
    case c3 => exact rfl
    case c4 => decide
    intro Q9 g L' h₁ hQ hg hL F N S'
    have hbg := stays_of S hb hs hg
    have X := S'.X
    have T := S'.T
    dsimp only
    k_steps
    try (with_reducible refine hQ _ _ ?_); try dsimp only
    rename Fr _ _ _ _ => F2
    rename News _ _ _ _ => N2
    exact h _ _ ((step_of hg hbg F2 N2 (by repeat' (first | exact List.forall_mem_nil _ | (refine List.forall_mem_cons.mpr ⟨?sa, ?_⟩; (case sa => k_mem)) | (intro p9 hp9; repeat' (first | exact hp9 | refine List.Mem.tail _ ?_))))).same hs)
end SM6
section SD2
theorem norules_D2 : True := by
  k_with_none
  trivial
theorem by_look_bytes : typeLookup (.type "bytes") "__bytes__" = pure (some (.builtin "bytes.__bytes__")) := by rw [typeLookup_type, builtinLookup_eq_fast]; kernel_rfl
theorem by_look_int : typeLookup (.type "int") "__bytes__" = pure none := by rw [typeLookup_type, builtinLookup_eq_fast]; kernel_rfl
theorem by_look_index : typeLookup (.type "int") "__index__" = pure (some (.builtin "int.__index__")) := by rw [typeLookup_type, builtinLookup_eq_fast]; kernel_rfl
section
variable {prog : Program} {w : World} {A : Around} {E : Value → Shared → Prop} {s : Shared}
theorem bytes_new_bytes {bs : Array UInt8} {t : Tok} {Q : Value → Shared → Prop} (h : Q (.bytes bs t) s) :
    codeAny (model prog w) A (.call (.builtin "bytes.__new__") ⟨[.type "bytes", .bytes bs t], []⟩) (wants Q E) s := by
  refine codeAny_of_tree ?_
  show wpAny _ A.in1 (do checkBuiltinCall "bytes.__new__" ⟨[.type "bytes", .bytes bs t], []⟩; again (.builtin "bytes.__new__" ⟨[.type "bytes", .bytes bs t], []⟩)) _ _ s
  refine wpAny_bind (wpAny_of_eq (F.bm_newCall _) (wpAny_pure ⟨plainId_quiet F.bm_plain _, codeAny_builtin F.bm_entry ?_⟩))
  rw [Around.under_plainId F.bm_plain _]
  have hT : s.TypeIs (.bytes bs t) "bytes" := PySem.W.typeIs_bytes _ _ _
  unfold Builtin.«bytes.__new__»
  refine wpAny_bind (wpAny_of_eq (a := true) rfl ?_)
  refine bm_if_false rfl ?_
  refine wpAny_bind (wpAny_of_eq F.bm_sub ?_)
  refine bm_if_false rfl ?_
  refine wpAny_bind (wpAny_of_eq (F.bm_bind _) ?_)
  refine wpAny_bind (wpAny_of_eq (a := ()) rfl ?_)
  refine wpAny_bind (wpAny_of_eq (a := ()) rfl ?_)
  refine bm_if_false rfl ?_
  refine wpAny_bind (wpAny_specialOf hT by_look_bytes ?_)
  refine wpAny_bind (wpAny_rule ?_)
  refine wpAny_bind (wpAny_typeOf hT ?_)
  refine bm_if_true (by decide) ?_
  show wpAny _ _ (if (Value.type "bytes" == Value.type "bytes") = true then _ else _) _ _ _
  refine bm_if_true (by decide) ?_
  first
    | exact wpAny_pure h
    | exact wpAny_bind (wpAny_pure (wpAny_pure h))
theorem bytes_new_8 {t : Tok} {Q : Value → Shared → Prop} (h : Q (.bytes #[0,0,0,0,0,0,0,0] s.toks) { s with toks := s.toks + 1 }) :
    codeAny (model prog w) A (.call (.builtin "bytes.__new__") ⟨[.type "bytes", .int 8 t], []⟩) (wants Q E) s := by
  refine codeAny_of_tree ?_
  show wpAny _ A.in1 (do checkBuiltinCall "bytes.__new__" ⟨[.type "bytes", .int 8 t], []⟩; again (.builtin "bytes.__new__" ⟨[.type "bytes", .int 8 t], []⟩)) _ _ s
  refine wpAny_bind (wpAny_of_eq (F.bm_newCall _) (wpAny_pure ⟨plainId_quiet F.bm_plain _, codeAny_builtin F.bm_entry ?_⟩))
  rw [Around.under_plainId F.bm_plain _]
  have hT : s.TypeIs (.int 8 t) "int" := rfl
  unfold Builtin.«bytes.__new__»
  refine wpAny_bind (wpAny_of_eq (a := true) rfl ?_)
  refine bm_if_false rfl ?_
  refine wpAny_bind (wpAny_of_eq F.bm_sub ?_)
  refine bm_if_false rfl ?_
  refine wpAny_bind (wpAny_of_eq (F.bm_bind _) ?_)
  refine wpAny_bind (wpAny_of_eq (a := ()) rfl ?_)
  refine wpAny_bind (wpAny_of_eq (a := ()) rfl ?_)
  refine bm_if_false rfl ?_
  refine wpAny_bind (wpAny_specialOf hT by_look_int ?_)
  refine wpAny_bind (wpAny_bind (wpAny_pure (wpAny_pure ?_)))
  refine bm_if_false rfl ?_
  refine wpAny_bind (wpAny_specialOf hT by_look_index ?_)
  refine bm_if_false rfl ?_
  refine wpAny_bind (wpAny_attempt (wpAny_of_eq (rfl : asIndex (.int 8 t) = pure 8) ?_))
  refine bm_if_false (by first | rfl | decide +kernel) ?_
  refine wpAny_ite ?_
  rw [if_neg (by decide)]
  refine wpAny_ite ?_
  rw [if_neg (by decide)]
  refine bm_if_false (by first | rfl | decide +kernel) ?_
  refine wpAny_bind (wpAny_rule ?_)
  refine wpAny_bind (wpAny_mkBytes ?_ (by decide))
  show wpAny _ _ (if (Value.type "bytes" == Value.type "bytes") = true then _ else _) _ _ _
  refine bm_if_true (by decide) ?_
  first
    | exact wpAny_pure h
    | exact wpAny_bind (wpAny_pure (wpAny_pure h))
theorem bytes_call {a : Value} {Q : Value → Shared → Prop} {bs : Array UInt8} (hn : ∀ (Q' : Value → Shared → Prop), (∀ t tk, Q' (.bytes bs t) { s with toks := tk }) → codeAny (model prog w) A.in1 (.call (.builtin "bytes.__new__") ⟨[.type "bytes", a], []⟩) (wants Q' E) s)
    (h : ∀ t tk, Q (.bytes bs t) { s with toks := tk }) : wpAny (model prog w) A (call (.type "bytes") [a]) Q E s := by
  refine callType_codes (Q₁ := fun obj s₁ => s₁.TypeIs obj "bytes" ∧ Q obj s₁) F.bm_called (F.bm_typeCall _) F.entry_object_init
    (hn _ fun t tk => ⟨PySem.W.typeIs_bytes _ _ _, h t tk⟩) fun obj s₁ h₁ => ?_
  exact ⟨h₁.1, F.args_object_init_2 obj _, object_init_meets F.bm_called.init.lookup F.bm_called.made (by decide) prog w A.in1 _ s₁ ⟨h₁.1, rfl, h₁.2⟩⟩
theorem bytes_of_bytes {bs : Array UInt8} {t : Tok} {Q : Value → Shared → Prop} (h : ∀ t tk, Q (.bytes bs t) { s with toks := tk }) : wpAny (model prog w) A (call (.type "bytes") [.bytes bs t]) Q E s :=
  bytes_call (fun _ hq => bytes_new_bytes (hq t s.toks)) h
theorem bytes_of_8 {t : Tok} {Q : Value → Shared → Prop} (h : ∀ t tk, Q (.bytes #[0,0,0,0,0,0,0,0] t) { s with toks := tk }) : wpAny (model prog w) A (call (.type "bytes") [.int 8 t]) Q E s :=
  bytes_call (fun _ hq => bytes_new_8 (hq _ _)) h
end
end SD2
section SM7
theorem rules_M7_1 : True := by
  k_with_none
  (k_with "call ref" => ((with_reducible show wpAny _ _ (call (Value.ref 63) [_]) _ _ _); k_dflt (refine mk_sp (by assumption) (by assumption) (by assumption) (by (first | assumption | exact room_le hroom (by decide) | exact room_1 hroom (by decide) | exact room_0 hroom | ((try simp only [Around.deeper, Around.in1]); first | exact room_le hroom (by decide) | exact room_1 hroom (by decide) | exact room_0 hroom | omega))) ?_; intro x' dx' pg' t1' t2' o' h' tk' F' N' hd' hn' l1' l2' l3'; (try k_lt l3')); revert x' dx' pg' t1' t2' o' h' tk' F' N' hd' hn' l1' l2' l3'; intro _ _ _ _ _ _ _ _ _ _ _ _ _ _ _))
  (k_with "call builtin:len" => ((with_reducible show wpAny _ _ (call (Value.builtin "len") [Value.ref _]) _ _ _); k_dflt (refine list_len (by k_asm) (by k_mem) (by (simp only [Array.size_push, List.size_toArray, List.length_append, List.length_cons, List.length_nil]; omega)) ?_)))
  (k_with "call type:bytes" => ((with_reducible show wpAny _ _ (call (Value.type "bytes") [_]) _ _ _); first | (refine bytes_of_8 ?_; intro t' tk') | (refine bytes_of_bytes ?_; intro t' tk'); revert t' tk'; intro _ _))
  (k_with "setItem ref int" => (k_here; k_dflt (refine kda_set (knd := PySem.intKind _ _) (by k_asm) (by k_asm) (by k_updF) (by k_asm) (by exact intKind_is _ _ _ _) (by (rw [sizeLine_eq]; omega)) ?_; intro h' o' F' N' hd'; (try dsimp only at N')); revert h' o' F' N' hd'; intro _ _ _ _ _))
  trivial
theorem end_spec {w : World} {mean : ExcName → Option Value} {mg mb : Str → Option Value} {b : Heap} (S : Sta w mean mg mb b) {dep un : Nat} {fr : Option (List Env)} {gs : Option (List Code)} (hroom : dep < recursionLimit) {s : Shared} (hb : b.StaysIn s.heap)
    {x dx ct t1 t2 t3 t4 : Nat} {cc : Int} {stv pgv svv : Value} (hne : @Ne Nat dx x)
    (hs : Own b s.heap [(x, instObj 191 dx), (dx, chD w.params stv (.int cc ct) pgv svv t1 t2 t3 t4)]) {R : Result → Shared → Prop}
    (h : ∀ h' (pg sv : Nat) po sn tk, Step b [(x, instObj 191 dx), (dx, chD w.params stv (.int cc ct) pgv svv t1 t2 t3 t4)] [(x, instObj 191 dx), (dx, chD w.params stv (.int cc ct) (.ref pg) (.ref sv) t1 t2 t3 t4), (pg, po), (sv, listOf #[] sn)] s.heap h' →
      po.IsDictOf (intKind PySem.Challenge.rw_nt0093_01.row.prog w) [] → (pg == sysModules) = false → s.heap.get? pg = none → s.heap.get? sv = none → pg < sv → R (.ok (.ret .none)) { s with heap := h', toks := tk }) :
    codeAny (model PySem.Challenge.rw_nt0093_01.row.prog w) (⟨none, dep, fr, gs, un⟩ : Around) (.call (.ref 124) ⟨[.ref x], []⟩) R s := by
  refine' call_footQ (K := head.heap_39 w.params) S hb hs ?k1 S.X ?k2 (by (first | assumption | exact room_le hroom (by decide) | exact room_1 hroom (by decide) | exact room_0 hroom | ((try simp only [Around.deeper, Around.in1]); first | exact room_le hroom (by decide) | exact room_1 hroom (by decide) | exact room_0 hroom | omega))) ?k3 ?k4 ?_ ?c1 ?c2 ?c3 ?c4
  case k1 => k_is
  case k2 => k_is
  case k3 => first | exact BindsTo.of_eq rfl | exact binds_K (S.X.keeps hb) rfl (by k_is) rfl rfl rfl
  case k4 => exact locs rfl
  case c1 => exact rfl
  case c2 => exact rfl
  case c3 => exact rfl
  case c4 => decide
  intro Q9 g L' h₁ hQ hg hL F N S'
  have hbg := stays_of S hb hs hg
  have X := S'.X
  have T := S'.T
  dsimp only
  k_steps
  try (with_reducible refine hQ _ _ ?_); try dsimp only
  rename Fr _ _ _ _ => F2
  rename News _ _ _ _ => N2
  rename Obj => o9
  rename Obj.IsDictOf (intKind _ _) _ _ => hi9
  rename (_ == sysModules) = false => lo9
  rename x < _ ∧ dx < _ => l9
  rename _ < _ ∧ x < _ ∧ dx < _ => l8
  have T9 := step_of (foot' := [(x, instObj 191 dx), (dx, chD w.params stv (.int cc ct) (.ref _) (.ref _) _ _ _ _), (_, o9), (_, listOf #[] _)]) hg hbg F2 N2 (by repeat' (first | exact List.forall_mem_nil _ | (refine List.forall_mem_cons.mpr ⟨?sa, ?_⟩; (case sa => k_mem)) | (intro p9 hp9; repeat' (first | exact hp9 | refine List.Mem.tail _ ?_))))
  refine h _ _ _ _ _ _ T9 hi9 lo9 (T9.fresh (p := (_, o9)) (by k_mem) (by repeat' (first | exact notin_nil | (refine notin_cons ?na ?_; (case na => (refine neN ?_; (try dsimp only); omega)))))) (T9.fresh (p := (_, listOf #[] _)) (by k_mem) (by repeat' (first | exact notin_nil | (refine notin_cons ?na ?_; (case na => (refine neN ?_; (try dsimp only); omega)))))) l8.1
theorem extend_spec {w : World} {mean : ExcName → Option Value} {mg mb : Str → Option Value} {b : Heap} (S : Sta w mean mg mb b) {dep un : Nat} {fr : Option (List Env)} {gs : Option (List Code)} (hroom : dep < recursionLimit) {s : Shared} (hb : b.StaysIn s.heap)
    {x dx pg ct t1 t2 t3 t4 : Nat} {cc : Int} {po : Obj} {kvs : List (Int × Value)} {stv svv : Value} (hne : @Ne Nat dx x) (hne2 : @Ne Nat pg x) (hne3 : @Ne Nat pg dx)
    (hs : Own b s.heap [(x, instObj 191 dx), (dx, chD w.params stv (.int cc ct) (.ref pg) svv t1 t2 t3 t4), (pg, po)]) (hd : po.IsDictOf (intKind PySem.Challenge.rw_nt0093_01.row.prog w) kvs) (hnm : (pg == sysModules) = false) (hsz : kvs.length ≤ 1000) (hc : 0 ≤ cc ∧ cc ≤ 1000) {R : Result → Shared → Prop}
    (h : ∀ h' po' ct' bt tk, Step b [(x, instObj 191 dx), (dx, chD w.params stv (.int cc ct) (.ref pg) svv t1 t2 t3 t4), (pg, po)] [(x, instObj 191 dx), (dx, chD w.params stv (.int (cc + 1) ct') (.ref pg) svv t1 t2 t3 t4), (pg, po')] s.heap h' →
      po'.IsDictOf (intKind PySem.Challenge.rw_nt0093_01.row.prog w) (stored kvs (cc + 1) (.bytes #[0,0,0,0,0,0,0,0] bt)) → R (.ok (.ret (.int (cc + 1) ct'))) { s with heap := h', toks := tk }) {pst : Tok} :
    codeAny (model PySem.Challenge.rw_nt0093_01.row.prog w) (⟨none, dep, fr, gs, un⟩ : Around) (.call (.ref 152) ⟨[.ref x, .int 8 pst], []⟩) R s := by
  refine' call_footQ (K := head.heap_39 w.params) S hb hs ?k1 S.X ?k2 (by (first | assumption | exact room_le hroom (by decide) | exact room_1 hroom (by decide) | exact room_0 hroom | ((try simp only [Around.deeper, Around.in1]); first | exact room_le hroom (by decide) | exact room_1 hroom (by decide) | exact room_0 hroom | omega))) ?k3 ?k4 ?_ ?c1 ?c2 ?c3 ?c4
  case k1 => k_is
  case k2 => k_is
  case k3 => first | exact BindsTo.of_eq rfl | exact binds_K (S.X.keeps hb) rfl (by k_is) rfl rfl rfl
  case k4 => exact locs rfl
  case c1 => exact rfl
  case c2 => exact rfl
  case c3 => exact rfl
  case c4 => decide
  intro Q9 g L' h₁ hQ hg hL F N S'
  have hbg := stays_of S hb hs hg
  have X := S'.X
  have T := S'.T
  dsimp only
  k_steps
  try (with_reducible refine hQ _ _ ?_); try dsimp only
  rename Fr _ _ _ _ => F2
  rename News _ _ _ _ => N2
  rename Obj => o9
  rename Obj.IsDictOf _ _ _ => hi9
  exact h _ _ _ _ _ (step_of hg hbg F2 N2 (by repeat' (first | exact List.forall_mem_nil _ | (refine List.forall_mem_cons.mpr ⟨?sa, ?_⟩; (case sa => k_mem)) | (intro p9 hp9; repeat' (first | exact hp9 | refine List.Mem.tail _ ?_))))) hi9
theorem open_spec {w : World} {mean : ExcName → Option Value} {mg mb : Str → Option Value} {b : Heap} (S : Sta w mean mg mb b) {dep un : Nat} {fr : Option (List Env)} {gs : Option (List Code)} (hroom : dep + 2 < recursionLimit) {s : Shared} (hb : b.StaysIn s.heap)
    {x dx sv ct t1 t2 t3 t4 sn : Nat} {cc : Int} {its : List Value} {stv pgv : Value} (hne : @Ne Nat dx x) (hne2 : @Ne Nat sv x) (hne3 : @Ne Nat sv dx)
    (hs : Own b s.heap [(x, instObj 191 dx), (dx, chD w.params stv (.int cc ct) pgv (.ref sv) t1 t2 t3 t4), (sv, listOf its.toArray sn)]) (hsz : its.length ≤ 1000) {R : Result → Shared → Prop}
    (h : ∀ h' (x' dx' pg' : Nat) t1' t2' po' rt tk, Step b [(x, instObj 191 dx), (dx, chD w.params stv (.int cc ct) pgv (.ref sv) t1 t2 t3 t4), (sv, listOf its.toArray sn)] [(x, instObj 191 dx), (dx, chD w.params stv (.int cc ct) pgv (.ref sv) t1 t2 t3 t4), (sv, listOf (its ++ [Value.ref x']).toArray (sn + 1)), (x', instObj 63 dx'), (dx', spD w.params (.int cc ct) (.ref pg') t1' t2'), (pg', po')] s.heap h' →
      po'.IsDictOf (intKind PySem.Challenge.rw_nt0093_01.row.prog w) [] → (pg' == sysModules) = false → s.heap.get? x' = none → s.heap.get? dx' = none → s.heap.get? pg' = none → dx' < x' → x' < pg' → R (.ok (.ret (.int its.length rt))) { s with heap := h', toks := tk }) :
    codeAny (model PySem.Challenge.rw_nt0093_01.row.prog w) (⟨none, dep, fr, gs, un⟩ : Around) (.call (.ref 166) ⟨[.ref x], []⟩) R s := by
  refine' call_footQ (K := head.heap_39 w.params) S hb hs ?k1 S.X ?k2 (by (first | assumption | exact room_le hroom (by decide) | exact room_1 hroom (by decide) | exact room_0 hroom | ((try simp only [Around.deeper, Around.in1]); first | exact room_le hroom (by decide) | exact room_1 hroom (by decide) | exact room_0 hroom | omega))) ?k3 ?k4 ?_ ?c1 ?c2 ?c3 ?c4
  case k1 => k_is
  case k2 => k_is
  case k3 => first | exact BindsTo.of_eq rfl | exact binds_K (S.X.keeps hb) rfl (by k_is) rfl rfl rfl
  case k4 => exact locs rfl
  case c1 => exact rfl
  case c2 => exact rfl
  case c3 => exact rfl
  case c4 => decide
  intro Q9 g L' h₁ hQ hg hL F N S'
  have hbg := stays_of S hb hs hg
  have X := S'.X
  have T := S'.T
  dsimp only
  k_steps
  try (with_reducible refine hQ _ _ ?_); try dsimp only
  rename Fr _ _ _ _ => F2
  rename News _ _ _ _ => N2
  rename Obj => o9
  rename Obj.IsDictOf _ _ _ => hi9
  rename (_ == sysModules) = false => lo9
  rename x < _ ∧ dx < _ ∧ sv < _ => l9
  have hz : ∀ v : Value, (((its.toArray.push v).size : Nat) : Int) - 1 = its.length := fun v => by simp
  rw [hz]
  simp only [List.push_toArray] at N2
  have T9 := step_of (foot' := [(x, instObj 191 dx), (dx, chD w.params stv (.int cc ct) pgv (.ref sv) t1 t2 t3 t4), (sv, listOf (its ++ [Value.ref _]).toArray (sn + 1)), (_, instObj 63 _), (_, spD w.params (.int cc ct) (.ref _) _ _), (_, o9)]) hg hbg F2 N2 (by repeat' (first | exact List.forall_mem_nil _ | (refine List.forall_mem_cons.mpr ⟨?sa, ?_⟩; (case sa => k_mem)) | (intro p9 hp9; repeat' (first | exact hp9 | refine List.Mem.tail _ ?_))))
  exact h _ _ _ _ _ _ _ _ _ T9 hi9 lo9 (T9.fresh (p := (_, instObj 63 _)) (by k_mem) (by repeat' (first | exact notin_nil | (refine notin_cons ?na ?_; (case na => (refine neN ?_; (try dsimp only); omega)))))) (T9.fresh (p := (_, spD w.params (.int cc ct) (.ref _) _ _)) (by k_mem) (by repeat' (first | exact notin_nil | (refine notin_cons ?na ?_; (case na => (refine neN ?_; (try dsimp only); omega)))))) (T9.fresh (p := (_, o9)) (by k_mem) (by repeat' (first | exact notin_nil | (refine notin_cons ?na ?_; (case na => (refine neN ?_; (try dsimp only); omega)))))) (by assumption) (by assumption)
end SM7
section SD3
theorem norules_D3 : True := by
  k_with_none
  trivial
noncomputable def selF (start stop step : Int) (i : Nat) : Bool :=
  if step > 0 then start ≤ i && i < stop && (i - start) % step == 0
  else stop < i && i ≤ start && (start - i) % (-step) == 0
theorem selF_tail (d n : Nat) (i : Nat) (hi : i < n) : selF d n 1 i = decide (d ≤ i) := by
  unfold selF
  simp only [show ((1:Int) > 0) = True from by simp, if_true]
  have h1 : ((i : Int) < (n : Int)) = True := by simp [hi]
  have h2 : (((i : Int) - d) % 1 == 0) = true := by rw [Int.emod_one]; rfl
  by_cases h : d ≤ i
  · have : ((d : Int) ≤ (i : Int)) := by omega
    simp [h, this, h2, hi]
  · have : ¬ ((d : Int) ≤ (i : Int)) := by omega
    simp [h, this]
theorem keep_front {α : Type} (d n : Nat) : ∀ (l : List α) (k : Nat), k + l.length = n → (l.zipIdx k).filterMap (fun p => if selF d n 1 p.2 then none else some p.1) = l.take (d - k) := by
  intro l
  induction l with
  | nil => intro k _; simp
  | cons a r ih =>
    intro k hk
    rw [List.length_cons] at hk
    rw [List.zipIdx_cons, List.filterMap_cons]
    have hs := selF_tail d n k (by omega)
    by_cases h : d ≤ k
    · have e : selF d n 1 (a, k).2 = true := by show selF d n 1 k = true; rw [hs]; simp [h]
      rw [e]
      simp only [if_true]
      rw [ih (k + 1) (by omega), show d - (k + 1) = 0 from by omega, show d - k = 0 from by omega]
      simp
    · have e : selF d n 1 (a, k).2 = false := by show selF d n 1 k = false; rw [hs]; simp [h]
      rw [e]
      simp only [Bool.false_eq_true, if_false]
      rw [ih (k + 1) (by omega), show d - k = (d - (k + 1)) + 1 from by omega]
      simp
section
variable {prog : Program} {w : World} {A : Around} {E : Value → Shared → Prop} {s : Shared}
theorem del_slice {l sl : Addr} {items : List Value} {n d : Nat} {dt : Tok} {Q : Unit → Shared → Prop} (ho : s.heap.get? l = some (listOf items.toArray n)) (hs : s.heap.IsSliceOf sl (.int d dt) .none .none) (h1 : d ≤ items.length) (hz : items.length ≤ 1000)
    (hQ : ∀ h' n', h'.get? l = some (listOf (items.take d).toArray n') → Heap.SameBut l s.heap h' → Q () { s with heap := h' }) : wpAny (model prog w) A (delItem (.ref l) (.ref sl)) Q E s := by
  have hl : s.heap.IsList l items.toArray := ⟨_, ho, rfl, _, rfl⟩
  obtain ⟨os, hos, hcs, hds⟩ := id hs
  have hTs : s.TypeIs (.ref sl) "slice" := ⟨os, hos, hcs⟩
  refine wpAny_delItem_slot hl.typeIs (by decide) F.slot_list_delitem (wpAny_call_entry F.slot_list_delitem hl.typeIs F.entry_list_delitem ?_ (F.args_list_delitem_2 _ _))
  unfold Builtin.«list.__delitem__»
  refine wpAny_bind (m := slotArgs "__delitem__" 1 _) (wpAny_of_eq (a := (Value.ref l, [Value.ref sl])) (by first | rfl | kernel_rfl!) ?_)
  show wpAny _ _ (Builtin.List.listSubscript? (.ref sl) >>= _) _ _ s
  refine wpAny_bind ?_
  unfold Builtin.List.listSubscript?
  refine wpAny_bind (wpAny_specialOf hTs slice_no_index ?_)
  simp only [Option.isNone_none, if_true]
  refine wpAny_pure ?_
  show wpAny _ _ (typeOf (.ref sl) >>= _) _ _ s
  refine wpAny_bind (wpAny_typeOf hTs ?_)
  rw [if_neg (by decide)]
  rw [listSliceParts_eq]
  refine wpAny_bind (wpAny_bind (wpAny_field hos hds (x := .none) rfl (wpAny_bind (wpAny_listPart .none ?_))))
  rw [if_neg (by decide)]
  refine wpAny_bind (wpAny_field hos hds (x := .int d dt) rfl (wpAny_bind (wpAny_listPart (.int d dt) ?_)))
  refine wpAny_bind (wpAny_field hos hds (x := .none) rfl (wpAny_bind (wpAny_listPart .none (wpAny_pure ?_))))
  refine wpAny_bind (m := Builtin.List.listItems (.ref l)) ?_
  unfold Builtin.List.listItems
  refine wpAny_bind (wpAny_seqItems ho rfl (wpAny_pure ?_))
  refine wpAny_bind (wpAny_of_eq (sliceIndices_raw (some (d : Int)) none none items.toArray.size (by simp)) ?_)
  have eb : sliceBounds (some (d : Int)) none none items.toArray.size = ((d : Int), (items.length : Int), 1) := by
    simp only [sliceBounds, Option.getD_none, List.size_toArray]
    have : ¬ ((d : Int) < 0) := by omega
    simp only [show ((1:Int) > 0) = True from by simp, if_true, if_neg this]
    rw [Int.min_eq_left (by omega), Int.max_eq_right (by omega)]
  rw [eb]
  show wpAny _ _ (do
    rule "list.__delitem__.slice"
    Builtin.List.listUpdate (.ref l) fun xs => (xs.toList.zipIdx.filterMap fun (x, k) => if selF d items.length 1 k then none else some x).toArray
    letGo (if ((1:Int) == 1) = true then (items.toArray.toList.zipIdx.filterMap fun (x, k) => if selF d items.length 1 k then some x else none).reverse else (items.toArray.toList.zipIdx.filterMap fun (x, k) => if selF d items.length 1 k then some x else none))
    ret .none) _ _ _
  have ek : ((items.toArray.toList.zipIdx.filterMap fun (x, k) => if selF d items.length 1 k then none else some x)) = items.take d := by
    have := keep_front d items.length items 0 (by omega)
    simpa using this
  refine wpAny_bind (wpAny_rule (wpAny_bind (m := Builtin.List.listUpdate (.ref l) _) ?_))
  unfold Builtin.List.listUpdate
  refine wpAny_updateSeq ho rfl ?_ (by rw [List.size_toArray, sizeLine_eq]; omega) (by rw [List.size_toArray, ek, List.length_take, sizeLine_eq]; omega)
  refine wpAny_bind (wpAny_letGo (wpAny_pure ⟨_, rfl, ?_⟩))
  have e0 := Heap.get?_update_self (h := s.heap) (Obj.mapSeq fun xs => (xs.toList.zipIdx.filterMap fun (x, k) => if selF d items.length 1 k then none else some x).toArray) ho rfl
  refine hQ _ (if (items.take d).toArray.size == items.toArray.size then n else n + 1) (e0.trans ?_) (Heap.SameBut.update ..)
  simp only [Obj.mapSeq, ek]
end
section
variable {prog : Program} {w : World} {A : Around} {E : Value → Shared → Prop} {s : Shared} {g h : Heap} {L l : Addr} {m : Str → Option Value} {news : List (Addr × Obj)} {gU : Obj → List (Addr × Obj)} {Q : Unit → Shared → Prop}
theorem del_slice_K {items : List Value} {n : Nat} {d : Int} {dt : Tok} (F : Fr g L h m) (N : News g L h news) (U : UpdF l (listOf items.toArray n) news gU) (h0 : 0 ≤ d) (h1 : d ≤ items.length) (hz : items.length ≤ 1000)
    (hQ : ∀ h' n', Fr g L h' m → News g L h' (gU (listOf (items.take d.toNat).toArray n')) → Q () { s with heap := h' }) :
    wpAny (model prog w) A (delItem (.ref l) (.ref h.objs.size)) Q E { s with heap := h.push { cls := .type "slice", data := .fields #[.int d dt, .none, .none] } } := by
  obtain ⟨k, rfl⟩ := Int.eq_ofNat_of_zero_le h0
  have F1 := F.push { cls := .type "slice", data := .fields #[.int (k : Int) dt, .none, .none] }
  have N1 := news_sub (News.push F N { cls := .type "slice", data := .fields #[.int (k : Int) dt, .none, .none] } rfl) (fun p hp => List.Mem.tail _ hp)
  obtain ⟨pre, post, rfl, hg, a, b⟩ := U.split
  have hm := N1 (l, listOf items.toArray n) (List.mem_append_right _ (.head _))
  refine del_slice (s := { s with heap := h.push { cls := .type "slice", data := .fields #[.int (k : Int) dt, .none, .none] } }) hm.1 (Heap.IsSliceOf.new ..) (by omega) hz fun h' n' ho' hs' => ?_
  exact hQ h' n' (F1.change hs' hm.2.1 hm.2.2) (hg _ ▸ N1.setIn a b hs' ho')
end
end SD3
section SM8
theorem rules_M8_1 : True := by
  k_with_none
  (k_with "call builtin:len" => ((with_reducible show wpAny _ _ (call (Value.builtin "len") [Value.ref _]) _ _ _); k_dflt (refine list_len (by k_asm) (by k_mem) (by (simp only [Array.size_push, List.size_toArray, List.length_append, List.length_cons, List.length_nil]; omega)) ?_)))
  trivial
theorem check_ok {w : World} {mean : ExcName → Option Value} {mg mb : Str → Option Value} {b : Heap} (S : Sta w mean mg mb b) {dep un : Nat} {fr : Option (List Env)} {gs : Option (List Code)} (hroom : dep < recursionLimit) {s : Shared} (hb : b.StaysIn s.heap)
    {x dx sv t1 t2 t3 t4 sn : Nat} {its : List Value} {stv ccv pgv : Value} {d : Int} {dt : Nat}
    (hs : Own b s.heap [(x, instObj 191 dx), (dx, chD w.params stv ccv pgv (.ref sv) t1 t2 t3 t4), (sv, listOf its.toArray sn)]) (hsz : its.length ≤ 1000) (h0 : 0 ≤ d) (h1 : d < its.length) {R : Result → Shared → Prop}
    (h : ∀ h' tk, s.heap.StaysIn h' → R (.ok (.ret .none)) { s with heap := h', toks := tk }) :
    codeAny (model PySem.Challenge.rw_nt0093_01.row.prog w) (⟨none, dep, fr, gs, un⟩ : Around) (.call (.ref 173) ⟨[.ref x, .int d dt], []⟩) R s := by
  refine' call_footQ (K := head.heap_39 w.params) S hb hs ?k1 S.X ?k2 (by (first | assumption | exact room_le hroom (by decide) | exact room_1 hroom (by decide) | exact room_0 hroom | ((try simp only [Around.deeper, Around.in1]); first | exact room_le hroom (by decide) | exact room_1 hroom (by decide) | exact room_0 hroom | omega))) ?k3 ?k4 ?_ ?c1 ?c2 ?c3 ?c4
  case k1 => k_is
  case k2 => k_is
  case k3 => first | exact BindsTo.of_eq rfl | exact binds_K (S.X.keeps hb) rfl (by k_is) rfl rfl rfl
  case k4 => exact locs rfl
  case c1 => exact rfl
  case c2 => exact rfl
  case c3 => exact rfl
  case c4 => decide
  intro Q9 g L' h₁ hQ hg hL F N S'
  have hbg := stays_of S hb hs hg
  have X := S'.X
  have T := S'.T
  dsimp only
  k_steps
  try (with_reducible refine hQ _ _ ?_); try dsimp only
  rename Fr _ _ _ _ => F2
  rename News _ _ _ _ => N2
  exact h _ _ ((step_of hg hbg F2 N2 (by repeat' (first | exact List.forall_mem_nil _ | (refine List.forall_mem_cons.mpr ⟨?sa, ?_⟩; (case sa => k_mem)) | (intro p9 hp9; repeat' (first | exact hp9 | refine List.Mem.tail _ ?_))))).same hs)
theorem release_ok {w : World} {mean : ExcName → Option Value} {mg mb : Str → Option Value} {b : Heap} (S : Sta w mean mg mb b) {dep un : Nat} {fr : Option (List Env)} {gs : Option (List Code)} (hroom : dep + 1 < recursionLimit) {s : Shared} (hb : b.StaysIn s.heap)
    {x dx sv t1 t2 t3 t4 sn : Nat} {its : List Value} {stv ccv pgv : Value} {d : Int} {dt : Nat} (hne2 : @Ne Nat sv x) (hne3 : @Ne Nat sv dx)
    (hs : Own b s.heap [(x, instObj 191 dx), (dx, chD w.params stv ccv pgv (.ref sv) t1 t2 t3 t4), (sv, listOf its.toArray sn)]) (hsz : its.length ≤ 1000) (h0 : 0 ≤ d) (h1 : d < its.length) {R : Result → Shared → Prop}
    (h : ∀ h' sn' tk, Step b [(x, instObj 191 dx), (dx, chD w.params stv ccv pgv (.ref sv) t1 t2 t3 t4), (sv, listOf its.toArray sn)] [(x, instObj 191 dx), (dx, chD w.params stv ccv pgv (.ref sv) t1 t2 t3 t4), (sv, listOf (its.take d.toNat).toArray sn')] s.heap h' → R (.ok (.ret .none)) { s with heap := h', toks := tk }) :
    codeAny (model PySem.Challenge.rw_nt0093_01.row.prog w) (⟨none, dep, fr, gs, un⟩ : Around) (.call (.ref 180) ⟨[.ref x, .int d dt], []⟩) R s := by
  refine' call_footQ (K := head.heap_39 w.params) S hb hs ?k1 S.X ?k2 (by (first | assumption | exact room_le hroom (by decide) | exact room_1 hroom (by decide) | exact room_0 hroom | ((try simp only [Around.deeper, Around.in1]); first | exact room_le hroom (by decide) | exact room_1 hroom (by decide) | exact room_0 hroom | omega))) ?k3 ?k4 ?_ ?c1 ?c2 ?c3 ?c4
  case k1 => k_is
  case k2 => k_is
  case k3 => first | exact BindsTo.of_eq rfl | exact binds_K (S.X.keeps hb) rfl (by k_is) rfl rfl rfl
  case k4 => exact locs rfl
  case c1 => exact rfl
  case c2 => exact rfl
  case c3 => exact rfl
  case c4 => decide
  intro Q9 g L' h₁ hQ hg hL F N S'
  have hbg := stays_of S hb hs hg
  have X := S'.X
  have T := S'.T
  dsimp only
  k_steps
  refine wpAny_call ?_
  refine' check_ok S' ?r ?k ?o hsz h0 h1 ?_
  case r => (first | assumption | exact room_le hroom (by decide) | exact room_1 hroom (by decide) | exact room_0 hroom | ((try simp only [Around.deeper, Around.in1]); first | exact room_le hroom (by decide) | exact room_1 hroom (by decide) | exact room_0 hroom | omega))
  case k => exact F.keep
  case o => exact own_of_news N (by repeat' (first | exact List.forall_mem_nil _ | (refine List.forall_mem_cons.mpr ⟨?sa, ?_⟩; (case sa => k_mem)) | (intro p9 hp9; repeat' (first | exact hp9 | refine List.Mem.tail _ ?_))))
  intro h3 tk3 K3
  have F3 := F.keeps K3
  have N3 := news_keeps N K3
  clear F N
  dsimp only
  k_steps
  refine' del_slice_K F3 N3 ?U h0 (by omega) hsz ?_
  case U => k_updF
  intro h4 n4 F4 N4
  (try dsimp only at N4)
  k_steps
  try dsimp only
  refine hQ _ _ ?_
  try dsimp only
  exact h _ _ _ (step_of hg hbg F4 N4 (by repeat' (first | exact List.forall_mem_nil _ | (refine List.forall_mem_cons.mpr ⟨?sa, ?_⟩; (case sa => k_mem)) | (intro p9 hp9; repeat' (first | exact hp9 | refine List.Mem.tail _ ?_)))))
end SM8
section SE1
theorem norules_E1 : True := by
  k_with_none
  trivial
open Sem (wp)
open Builtin Builtin.ObjectAttr
noncomputable def excIn (K : Frag) (C : Addr) (bm : List Value) (newId : String) : Bool := match K.lookup C with
  | some ⟨.type "type", _, .cls cd, sl⟩ => (match sl.toList with
    | [_, _, _, _, some (.builtin n), _] => decide (cd.mro = .ref C :: bm) && !cd.hasDel && cd.hasDict && n == newId
    | _ => false)
  | _ => false
theorem exc_cls {K : Frag} {C : Addr} {bm : List Value} {newId : String} (q : excIn K C bm newId = true) : ∃ cd nm qn N bs sn sub ab col dd k0 k1 k2 k3 k5, clsIn K C = some cd ∧ cd.mro = .ref C :: bm ∧ cd.hasDict = true ∧
    K.lookup C = some (excClassObj nm qn C N bs bm true sn sub ab col dd k0 k1 k2 k3 k5 newId) := by
  unfold excIn at q
  split at q
  · rename_i dd cd sl ho
    split at q
    · rename_i k0 k1 k2 k3 n k5 hs
      simp only [Bool.and_eq_true, beq_iff_eq, Bool.not_eq_true', decide_eq_true_eq] at q
      obtain ⟨⟨⟨hm, hdel⟩, hb⟩, rfl⟩ := q
      refine ⟨cd, ?_⟩
      obtain ⟨nm, bs, mro, ns, qn, hd, sn, sub, ab, col, del⟩ := cd
      dsimp only at hm hdel hb
      subst hm hdel hb
      have hsl : sl = #[k0, k1, k2, k3, some (.builtin n), k5] := by
        obtain ⟨l⟩ := sl
        simp only at hs
        rw [hs]
      subst hsl
      exact ⟨nm, qn, ns, bs, sn, sub, ab, col, dd, k0, k1, k2, k3, k5, by unfold clsIn; rw [ho], rfl, rfl, ho⟩
    · cases q
  · cases q
theorem exc_cls3 {K : Frag} {C : Addr} {bm : List Value} {newId : String} (q : excIn K C bm newId = true) : ∃ cd, clsIn K C = some cd ∧ cd.mro = .ref C :: bm ∧ cd.hasDict = true := by
  obtain ⟨cd, _, _, _, _, _, _, _, _, _, _, _, _, _, _, h1, h2, h3, _⟩ := exc_cls q
  exact ⟨cd, h1, h2, h3⟩
noncomputable abbrev misMro : List Value := [.ref 31, .type "Exception", .type "BaseException", .type "object"]
theorem mis_in (P : Params) : excIn (head.heap_39 P) 44 misMro "Exception.__new__" = true := by kernel_rfl
noncomputable abbrev exO (t : Addr) (dx : Option Addr) : Obj := { cls := .ref 44, dict := dx, data := .fields #[.ref t, .none, .none, .none, .bool false, .none] }
section
variable {w : World} {A : Around} {s : Shared} {e t : Addr}
theorem mis_refuse (self : Value) : refuseLoop self "__setattr__" (.ref 44 :: misMro) = pure () := by
  rw [refuseLoop_ref, refuseLoop_ref]
  exact PySem.F.store_Exception.passes self
theorem set_message (X : (head.heap_39 w.params).In s.heap) (he : s.heap.get? e = some (exO t none)) {v : Value} {Q : Unit → Shared → Prop} {E : Value → Shared → Prop}
    (h : ∀ h' dx tk, h'.get? e = some (exO t (some dx)) → (∀ b o, b ≠ e → s.heap.get? b = some o → h'.get? b = some o) → Q () { s with heap := h', toks := tk }) :
    wpAny (model PySem.Challenge.rw_nt0093_01.row.prog w) A (setAttr (.ref e) (Str.ofString "message") v) Q E s := by
  obtain ⟨cd, hc, hmro, hdict⟩ := exc_cls3 (mis_in w.params)
  have I : InstAt s.heap e (exO t none) 44 none := ⟨he, rfl, rfl, trivial⟩
  refine set_plain X I (by k_is) ?_
  have I : InstAt ({ s with toks := s.toks + 1 } : Shared).heap e (exO t none) 44 none := I
  have X1 : (head.heap_39 w.params).In ({ s with toks := s.toks + 1 } : Shared).heap := X
  have he1 : ({ s with toks := s.toks + 1 } : Shared).heap.get? e = some (exO t none) := he
  have SF := PySem.F.store_object
  have ne : cd.mro.isEmpty = false := by rw [hmro]; rfl
  have sub : Looks (model PySem.Challenge.rw_nt0093_01.row.prog w) ({ s with toks := s.toks + 1 } : Shared).heap (isInstance (.ref e) (.type "object")) true := I.type.andThen (looks_mroIn X1 (by unfold mroIn; rw [hc, Option.bind_some, if_neg (by rw [ne]; decide), hmro]; rfl))
  refine codeAny_call_builtin SF.slot.plain SF.entry (@check_slot (model PySem.Challenge.rw_nt0093_01.row.prog w) _ _ _ "object.__setattr__" "object" "__setattr__" (.ref e) [.str (Str.ofString "message") s.toks, v] [] _ SF.kind SF.split sub (SF.args (.ref e) (.str (Str.ofString "message") s.toks) v) ?_)
  have hm : Looks (model PySem.Challenge.rw_nt0093_01.row.prog w) ({ s with toks := s.toks + 1 } : Shared).heap (mroOf (.ref 44)) cd.mro := (looks_clsIn X1 hc).andThen .now
  have ha : findIn (head.heap_39 w.params) (.ref 44) (Str.ofString "message") = some none := by k_is
  rw [osa_eq, refuse_eq]
  refine wpAny_bind (wpAny_bind (I.type.here (wpAny_bind (hm.here ?_))))
  rw [hmro, mis_refuse]
  refine wpAny_pure (wpAny_bind (I.type.here (wpAny_bind ((looks_findIn X1 ha).here (wpAny_bind (wpAny_pure ?_))))))
  show wpAny _ _ (storeInOwnDict (.ref e) (.ref 44) _ _ v false) _ _ _
  refine wpAny_bind (wpAny_pure (wpAny_bind (wpAny_bind (wpAny_loadPart he1 (wpAny_bind ((looks_clsIn X1 hc).here ?_))))))
  rw [hdict]
  rw [if_neg (by decide)]
  dsimp only
  rw [if_neg (by simp [typeHasDict])]
  have hx₁ : (s.heap.push { cls := .type "dict", data := .dict #[] }).get? e = some (exO t none) := Heap.get?_push_of_some _ he
  have hxs : e ≠ s.heap.objs.size := Nat.ne_of_lt (Heap.lt_size he)
  refine wpAny_bind (wpAny_alloc' ?_)
  refine wpAny_bind (wpAny_update' hx₁ ?_)
  refine wpAny_pure ?_
  have hgd : ((s.heap.push { cls := .type "dict", data := .dict #[] }).update e fun o => { cls := o.cls, dict := some s.heap.objs.size, data := o.data, slots := o.slots }).get? s.heap.objs.size
      = some { cls := .type "dict", data := .dict #[] } :=
    (Heap.get?_update_ne _ _ _ _ hxs.symm).trans (Heap.get?_push_at rfl rfl)
  have hnd : ((s.heap.push { cls := .type "dict", data := .dict #[] }).update e fun o => { cls := o.cls, dict := some s.heap.objs.size, data := o.data, slots := o.slots }).Ns s.heap.objs.size (fun _ => none) :=
    ⟨_, #[], _, hgd, rfl, fun e he => absurd he (by simp), fun _ => rfl⟩
  show wpAny _ _ (storeInDict s.heap.objs.size (.str (Str.ofString "message") _) (Str.ofString "message") v) _ _ _
  unfold storeInDict newKeyGuard
  refine wpAny_bind (wpAny_pure (wpAny_bind (wpAny_nsSet1 (Heap.Ns1.of_empty hnd) fun h' hn' hs => ?_)))
  obtain ⟨oD, esD, epD, hoD, hdD, hcD⟩ := hn'.count (Within.cons (Str.ofString "message") v Within.nil)
  refine wpAny_bind (wpAny_lookBehind hoD (by rw [hdD]; exact pastItsLine_dict (Nat.le_trans hcD (by rw [List.length_cons, List.length_nil, sizeLine_eq]; omega))) ?_)
  refine wpAny_pure ?_
  refine h h' s.heap.objs.size _ ?_ ?_
  · exact (hs.2 e hxs).trans (Heap.get?_update_self _ hx₁ rfl)
  · intro b o hb hbo
    exact (hs.2 b (Nat.ne_of_lt (Heap.lt_size hbo))).trans ((Heap.get?_update_ne _ _ _ _ hb).trans (Heap.get?_push_of_some _ hbo))
end
end SE1
section SE2
theorem init_mis {w : World} {mean : ExcName → Option Value} {mg mb : Str → Option Value} {g : Heap} {dep un : Nat} {fr : Option (List Env)} {gs : Option (List Code)} {s : Shared} {R : Result → Shared → Prop}
    (S : Sta w mean mg mb g) (hb : g.StaysIn s.heap) (hroom : dep + 1 < recursionLimit) {e t : Nat} {v : Value} (hs : Own g s.heap [(e, exO t none)])
    (h : ∀ h' dx tk, Step g [(e, exO t none)] [(e, exO t (some dx))] s.heap h' → R (.ok (.ret .none)) { s with heap := h', toks := tk }) :
    codeAny (model PySem.Challenge.rw_nt0093_01.row.prog w) (Around.under (⟨none, dep, fr, gs, un⟩ : Around) (.builtin "type.__call__" ⟨[.ref 44, v], []⟩)) (.call (.ref 28) ⟨[.ref e, v], []⟩) R s := by
  refine' call_footQ (K := head.heap_39 w.params) S hb hs ?k1 S.X ?k2 ?k0 ?k3 ?k4 ?_ ?c1 ?c2 ?c3 ?c4
  case k0 => simp only [depth_under_make]; omega
  case k1 => k_is
  case k2 => k_is
  case k3 => exact BindsTo.of_eq rfl
  case k4 => exact locs rfl
  case c1 => exact rfl
  case c2 => exact rfl
  case c3 => exact rfl
  case c4 => decide
  intro Q9 g2 L2 h₂ hQ hg hL F2 N2 S2
  have hbg := stays_of S hb hs hg
  have X2 := S2.X
  have T2 := S2.T
  dsimp only
  repeat' (first | ((fail_if_success (with_reducible show wpAny _ _ (pyIter _) _ _ _)); first | (k_unfold; (try dsimp only)) | walk1 | (dsimp only; walk1)))
  try (with_reducible refine hQ _ _ ?_); try dsimp only
  rename Fr _ _ _ _ => F2
  rename News _ _ _ _ => N2
  rename Heap => h5
  refine set_message (X2.keeps F2.keep) (N2 (e, exO t none) (.head _)).1 ?_
  intro h6 dx tk6 he6 hk6
  have T6 : Step g2 [(e, exO t none)] [(e, exO t (some dx))] h5 h6 := ⟨fun p hp => by
      rw [List.mem_singleton.mp hp]; exact ⟨he6, (N2 (e, exO t none) (.head _)).2.2⟩, fun a o ha hn => hk6 a o (fun q => hn (by rw [q]; exact .head _)) ha, fun p hp => .inl (by rw [List.mem_singleton.mp hp]; exact .head _)⟩
  have F7 := after_fr F2 N2 (fun p hp => hp) T6
  have N7 := after_news (rest := []) F2 N2 (fun p hp => hp) (fun p hp => nomatch hp) (fun p hp => nomatch hp) T6
  clear F2 N2
  dsimp only
  k_steps
  try (with_reducible refine hQ _ _ ?_); try dsimp only
  rename Fr _ _ _ _ => F2
  rename News _ _ _ _ => N2
  exact h _ _ _ (step_of hg hbg F2 N2 (by repeat' (first | exact List.forall_mem_nil _ | (refine List.forall_mem_cons.mpr ⟨?sa, ?_⟩; (case sa => k_mem)) | (intro p9 hp9; repeat' (first | exact hp9 | refine List.Mem.tail _ ?_)))))
section
variable {M : Model} {A : Around} {E : Value → Shared → Prop} {h : Heap} {g : Array GenState} {d : Drawn} {tt : Nat} {os : OsState}
variable {nm q : Str} {N : Addr} {bs : List Value} {hdct : Bool} {sn : List Str} {sub : List Value} {ab : Bool} {col : Option Bool} {dd : Option Addr} {k0 k1 k2 k3 k5 : Option Value}
theorem mis_check_new {rest : List Value} {Q : Unit → Shared → Prop} (hC : h.get? 44 = some (excClassObj nm q 44 N bs misMro hdct sn sub ab col dd k0 k1 k2 k3 k5 "Exception.__new__"))
    (hq : Q () ⟨h, g, d, tt, os⟩) : wpAny M A (checkBuiltinCall "Exception.__new__" ⟨.ref 44 :: rest, []⟩) Q E ⟨h, g, d, tt, os⟩ := by
  have Fn := PySem.F.excBase_Exception
  have hcont : (Value.ref 44 :: misMro).contains (.type "Exception") = true := by decide
  have hstar := Fn.noStar
  simp only [checkBuiltinCall, Fn.newKind, Fn.newSplit, Fn.newRow]
  repeat (first | refine wpAny_loadPart_at hC ?_ | (refine wpAny_isSubtype_exc hC ?_; rw [hcont]) | refine wpAny_staticBase_exc hC ?_ | refine wpAny_madeBy_exc hC ?_ | simp only [bne_self_eq_false, Bool.false_eq_true, if_false] | wp_step)
  exact hq
theorem mis_new {prog : Program} {w : World} {R : Result → Shared → Prop} {rest : List Value} (hC : h.get? 44 = some (excClassObj nm q 44 N bs misMro hdct sn sub ab col dd k0 k1 k2 k3 k5 "Exception.__new__"))
    (hq : R (.ok (.ret (.ref (h.objs.size + 1)))) ⟨(h.push { cls := .type "tuple", data := .seq rest.toArray }).push
      { cls := .ref 44, data := .fields #[.ref h.objs.size, .none, .none, .none, .bool false, .none] }, g, d, tt, os⟩) (hrest : rest.length ≤ sizeLine := by size_fits) :
    codeAny (model prog w) A (.builtin "Exception.__new__" ⟨.ref 44 :: rest, []⟩) R ⟨h, g, d, tt, os⟩ := by
  have Fn := PySem.F.excBase_Exception
  have hends := Fn.ends
  have hcB : (Value.ref 44 :: misMro).contains (.type "Exception") = true := by decide
  have hcA : (Value.ref 44 :: misMro).contains (.type "AttributeError") = false := by decide
  have hcN : (Value.ref 44 :: misMro).contains (.type "NameError") = false := by decide
  refine codeAny_builtinAt Fn.entry ?_
  unfold Builtin.«BaseException.__new__»
  refine PySem.wpAt_bind ?_
  show PySem.wpAt _ _ _ (stack >>= _) _ _ _
  refine PySem.wpAt_bind (PySem.wpAt_stack fun p below => PySem.wpAt_of_wpAny ?_)
  wp_walk
  refine PySem.wpAt_of_wpAny ?_
  rw [Fn.owner]
  repeat (first | with_reducible refine wpAny_madeHere_exc Fn.canon hC ?_ | with_reducible refine wpAny_loadPart_at hC ?_ | (with_reducible refine wpAny_isSubtype_exc hC ?_; first | rw [hcB] | rw [hcA] | rw [hcN]) | wp_step)
  show R _ _
  rw [Heap.size_push]
  exact hq
end
end SE2
section SE3
section
variable {w : World} {mean : ExcName → Option Value} {mg mb : Str → Option Value} {b : Heap} {dep un : Nat} {fr : Option (List Env)} {gs : Option (List Code)}
theorem mk_mis {s : Shared} {Q : Value → Shared → Prop} {E : Value → Shared → Prop} (S : Sta w mean mg mb b) (hb : b.StaysIn s.heap) (hroom : dep + 1 < recursionLimit) {v : Value}
    (h : ∀ h' (e t : Nat) dx tk, h'.get? e = some (exO t (some dx)) → s.heap.get? e = none → s.heap.StaysIn h' → Q (.ref e) { s with heap := h', toks := tk }) :
    wpAny (model PySem.Challenge.rw_nt0093_01.row.prog w) (⟨none, dep, fr, gs, un⟩ : Around) (call (.ref 44) [v]) Q E s := by
  have X := S.X.keeps hb
  obtain ⟨cd, nm, qn, N, bs, sn, sub, ab, col, dd, k0, k1, k2, k3, k5, hc, hmro, hdict, hlk⟩ := exc_cls (mis_in w.params)
  have hC := X _ _ hlk
  obtain ⟨hp, g, d, tt, os⟩ := s
  have hC : hp.get? 44 = some (excClassObj nm qn 44 N bs misMro true sn sub ab col dd k0 k1 k2 k3 k5 "Exception.__new__") := hC
  have f1 := tc_lookup
  have f2 := tc_bind (.ref 44)
  have hT : (⟨hp, g, d, tt, os⟩ : Shared).TypeIs (.ref 44) "type" := ⟨_, hC, rfl⟩
  refine wpAny_call (codeAny_of_tree ?_)
  show wpAny _ _ (callAny (.ref 44) _) _ _ _
  repeat (any_goals (first | assumption | with_reducible refine wpAny_loadPart_at hC ?_ | wp_step))
  refine ⟨rfl, ?_⟩
  refine codeAny_call_builtin_at (Code.quiet_builtin _ (by decide +kernel)) entry_typeCall (wpAny_check_type_call_sub hC ?_)
  repeat (first | with_reducible refine wpAny_loadPart_at hC ?_ | with_reducible refine wpAny_madeBy_exc hC ?_ | wp_step)
  refine codeAny_call_builtin_code (Code.quiet_builtin _ PySem.F.excBase_Exception.quiet) (mis_check_new hC ?_)
  refine mis_new hC ?_ (by rw [sizeLine_eq]; simp)
  show wpAny _ _ _ _ _ _
  have hget : ((hp.push { cls := .type "tuple", data := .seq #[v] }).push
      { cls := .ref 44, data := .fields #[.ref hp.objs.size, .none, .none, .none, .bool false, .none] }).get? (hp.objs.size + 1) = some
      { cls := .ref 44, data := .fields #[.ref hp.objs.size, .none, .none, .none, .bool false, .none] } := by heap_get
  have st : hp.StaysIn ((hp.push { cls := .type "tuple", data := .seq #[v] }).push
      { cls := .ref 44, data := .fields #[.ref hp.objs.size, .none, .none, .none, .bool false, .none] }) := fun b o e => Heap.get?_push_of_some _ (Heap.get?_push_of_some _ e)
  have hC₁ := st _ _ hC
  have X₁ := X.keeps st
  have hcC : (Value.ref 44 :: misMro).contains (.ref 44) = true := by decide
  have hi : findIn (head.heap_39 w.params) (.ref 44) "__init__" = some (some (.ref 28)) := by k_is
  have hty : typeIn (head.heap_39 w.params) (.ref 28) = some (.type "function") := by k_is
  unfold isInstance
  repeat (first | with_reducible refine wpAny_loadPart_at hget ?_ | (with_reducible refine wpAny_isSubtype_exc hC₁ ?_; rw [hcC]) | wp_step)
  refine wpAny_isSubtype_exc hC₁ ?_
  rw [hcC]
  refine wpAny_bind (wpAny_holding ?_)
  refine special_fn (s := ⟨_, g, d, tt, os⟩) (C := 44) (od := none) X₁ ⟨hget, rfl, rfl, trivial⟩ hi hty ?_
  have hb1 := fun a o e => st a o (hb a o e)
  refine wpAny_call ?_
  refine init_mis (s := ⟨_, g, d, tt, os⟩) S hb1 hroom (t := hp.objs.size) (fun p hp' => ?_) ?_
  · rw [List.mem_singleton.mp hp']
    refine ⟨hget, ?_⟩
    cases q : b.get? (hp.objs.size + 1) with
    | none => rfl
    | some o => exact absurd (Heap.lt_size (hb _ _ q)) (by show ¬ (hp.objs.size + 1 < hp.objs.size); omega)
  · intro h' dx tk T
    have hk : hp.StaysIn h' := fun a o e => T.kept a o (st _ _ e) fun q => by
      have q := List.mem_singleton.mp q
      have := Heap.lt_size e
      rw [q] at this
      have : hp.objs.size + 1 < hp.objs.size := this
      omega
    refine wpAny_pure ?_
    exact h h' _ _ dx tk (T.own (_, exO _ _) (.head _)).1 (Heap.get?_none_of_le (Nat.le_succ _)) hk
end
end SE3
section SE4
noncomputable def RaisableM (E : Value → Shared → Prop) (v : Value) (s₁ : Shared) : Prop :=
  ∃ (P : Params) (a t : Nat) (dx : Addr), v = .ref a ∧ (head.heap_39 P).In s₁.heap ∧ s₁.heap.get? a = some (exO t (some dx)) ∧ E (.ref a) s₁
theorem Raise_mis {M : Model} {A : Around} {E : Value → Shared → Prop} {s : Shared} {env : Env} {e : PySem.Expr} {pos : Pos} {Q : Flow → Shared → Prop} (hh : A.handled = none)
    (h : wpAny M A (eval e env) (RaisableM E) E s) : wpAny M A (exec (.Raise (some e) none pos) env) Q E s := by
  show wpAny M A (do standAt pos; raiseStmt env (some (do let v ← eval e env; standAt pos; pure v)) none) Q E s
  refine wpAny_bind (wpAny_standAt ?_)
  unfold raiseStmt
  refine wpAny_bind (wpAny_bind (wpAny_mono h (fun v s₁ h₁ => wpAny_bind (wpAny_standAt (wpAny_pure ?_))) fun _ _ x => x))
  obtain ⟨P, a, t, dx, rfl, X, he, hE⟩ := h₁
  obtain ⟨cd, nm, qn, N, bs, sn, sub, ab, col, dd, k0, k1, k2, k3, k5, hc, hmro, hdict, hlk⟩ := exc_cls (mis_in P)
  have hC := X _ _ hlk
  have hcB : (Value.ref 44 :: misMro).contains (.type "BaseException") = true := by decide
  obtain ⟨hp, g, d, tk, os⟩ := s₁
  have hC : hp.get? 44 = some (excClassObj nm qn 44 N bs misMro true sn sub ab col dd k0 k1 k2 k3 k5 "Exception.__new__") := hC
  have he : hp.get? a = some (exO t (some dx)) := he
  repeat (first | with_reducible refine wpAny_loadPart_at he ?_ | with_reducible refine wpAny_loadPart_at hC ?_ | (refine wpAny_isSubtype_exc hC ?_; rw [hcB]) | wp_step)
  exact wpAny_raiseNew_none hh hE
theorem rules_E4_1 : True := by
  k_with_none
  (k_with "exec Raise some none" => (refine Raise_mis rfl ?_))
  (k_with "call builtin:len" => ((with_reducible show wpAny _ _ (call (Value.builtin "len") [Value.ref _]) _ _ _); k_dflt (refine list_len (by k_asm) (by k_mem) (by (simp only [Array.size_push, List.size_toArray, List.length_append, List.length_cons, List.length_nil]; omega)) ?_)))
  trivial
/-- the first leaving -/
theorem leave_mis {M : Model} {dep un : Nat} {hd : Option Value} {outer : List Env} {gs : Option (List Code)} {E : Value → Shared → Prop} {s' : Shared} {B h0 h : Heap} {L a : Addr} {t e : Nat} {dx : Addr} {name : Str} {scope : Scope} {cd : Value} {Q : Unit → Shared → Prop}
    (hB : B.StaysIn h0) (hFF : h0.FunFrames B outer) (hk : h0.StaysIn h) (hL : h0.get? L = none) (hns : ∃ o es ep, h.get? L = some o ∧ o.data = .dict es ep) (hk' : h.StaysIn s'.heap) (he : s'.heap.get? e = some (exO t (some dx))) (hne : h.get? e = none)
    (hQ : ∀ h' a0, Heap.FlyingW B outer e (.ref 44) a0 h' → h0.UpToSlots h' → Q () { s' with heap := h' }) (hs : scope.kind = .function := by rfl) :
    wpAny M (Around.deeper ⟨hd, dep, some outer, gs, un⟩ (envOf name scope L a cd)) (leaving (envOf name scope L a cd) (.ref e)) Q E s' := by
  have keepAll : h0.StaysIn s'.heap := fun b o q => hk' b o (hk b o q)
  have hBL : B.get? L = none := by
    cases q : B.get? L with
    | none => rfl
    | some o => have := hB _ _ q; rw [hL] at this; cases this
  have hBe : B.get? e = none := by
    cases q : B.get? e with
    | none => rfl
    | some o => have := hk _ _ (hB _ _ q); rw [hne] at this; cases this
  have FF : s'.heap.FunFrames B (envOf name scope L a cd :: outer) := by
    refine ⟨by show scope.kind ≠ .module; rw [hs]; decide, ?_, hFF.of_keeps fun b o q _ => ⟨o, keepAll _ _ q, rfl⟩⟩
    obtain ⟨o, es, ep, ho, hd⟩ := hns
    exact ⟨L, o, rfl, hBL, hk' _ _ ho, fun vs q => by rw [hd] at q; cases q⟩
  refine wpAny_leaving_firstW (a0 := .ref t) (Around.frames_deeper rfl) FF rfl he (fun b o q => keepAll _ _ (hB _ _ q)) hBe rfl rfl rfl fun h' hL => ?_
  obtain ⟨k1, ⟨_, _, k2⟩, k3, k4⟩ := hL
  exact hQ h' _ ⟨k1, hBe, k2, k3⟩ ((Heap.UpToSlots.of_keeps keepAll).trans k4)
theorem fr_dict {g h : Heap} {L : Addr} {m : Str → Option Value} (F : Fr g L h m) : ∃ o es ep, h.get? L = some o ∧ o.data = .dict es ep := by
  obtain ⟨o, es, ep, ho, hd, _⟩ := F.ns
  exact ⟨o, es, ep, ho, hd⟩
theorem check_bad {w : World} {mean : ExcName → Option Value} {mg mb : Str → Option Value} {b : Heap} (S : Sta w mean mg mb b) {dep un : Nat} {outer : List Env} {gs : Option (List Code)} (hroom : dep + 3 < recursionLimit) {s : Shared} (hb : b.StaysIn s.heap)
    {x dx sv t1 t2 t3 t4 sn : Nat} {its : List Value} {stv ccv pgv : Value} {d : Int} {dt : Nat}
    (hs : Own b s.heap [(x, instObj 191 dx), (dx, chD w.params stv ccv pgv (.ref sv) t1 t2 t3 t4), (sv, listOf its.toArray sn)]) (hsz : its.length ≤ 1000) (hd : d < 0 ∨ its.length ≤ d)
    {B : Heap} (hB : B.StaysIn s.heap) (hFF : s.heap.FunFrames B outer) {R : Result → Shared → Prop}
    (h : ∀ h' e a0 tk, Heap.FlyingW B outer e (.ref 44) a0 h' → s.heap.UpToSlots h' → R (.error (.ref e)) { s with heap := h', toks := tk }) :
    codeAny (model PySem.Challenge.rw_nt0093_01.row.prog w) (⟨none, dep, some outer, gs, un⟩ : Around) (.call (.ref 173) ⟨[.ref x, .int d dt], []⟩) R s := by
  refine' call_foot (K := head.heap_39 w.params) S hb hs ?k1 S.X ?k2 (by (first | assumption | exact room_le hroom (by decide) | exact room_1 hroom (by decide) | exact room_0 hroom | ((try simp only [Around.deeper, Around.in1]); first | exact room_le hroom (by decide) | exact room_1 hroom (by decide) | exact room_0 hroom | omega))) ?k3 ?k4 ?_ ?c1 ?c2 ?c3 ?c4
  case k1 => k_is
  case k2 => k_is
  case k3 => first | exact BindsTo.of_eq rfl | exact binds_K (S.X.keeps hb) rfl (by k_is) rfl rfl rfl
  case k4 => exact locs rfl
  case c1 => exact rfl
  case c2 => exact rfl
  case c3 => exact rfl
  case c4 => decide
  intro g L' h₁ hg hL F N S'
  have hbg := stays_of S hb hs hg
  have X := S'.X
  have T := S'.T
  dsimp only
  have hLn : s.heap.get? L' = none := by rw [hL]; exact Heap.get?_none_of_le (Nat.le_refl _)
  rcases hd with hd | hd
  · repeat' (first | ((fail_if_success (with_reducible show wpAny _ _ (pyIter _) _ _ _)); first | (k_unfold; (try dsimp only)) | walk1 | (dsimp only; walk1)))
    have hst : s.heap.StaysIn h₁ := (step_of hg hbg F N (fun p hp => hp)).same hs
    refine' mk_mis S' ?kk ?rr ?_
    case kk => exact F.keep
    case rr => (first | assumption | exact room_le hroom (by decide) | exact room_1 hroom (by decide) | exact room_0 hroom | ((try simp only [Around.deeper, Around.in1]); first | exact room_le hroom (by decide) | exact room_1 hroom (by decide) | exact room_0 hroom | omega))
    intro h3 e t dx3 tk3 he hne hk3
    refine ⟨_, e, t, dx3, rfl, (X.keeps F.keep).keeps hk3, he, ?_⟩
    exact leave_mis hB hFF hst hLn (fr_dict F) hk3 he hne fun h' a0 fl up => h h' e a0 _ fl up
  · repeat' (first | ((fail_if_success (with_reducible show wpAny _ _ (pyIter _) _ _ _)); first | (k_unfold; (try dsimp only)) | walk1 | (dsimp only; walk1)))
    try (with_reducible refine hQ _ _ ?_); try dsimp only
    rename Fr _ _ _ _ => F2
    rename News _ _ _ _ => N2
    rename Heap => h2
    have hst : s.heap.StaysIn h2 := (step_of hg hbg F2 N2 (fun p hp => hp)).same hs
    refine' mk_mis S' ?kk ?rr ?_
    case kk => exact F2.keep
    case rr => (first | assumption | exact room_le hroom (by decide) | exact room_1 hroom (by decide) | exact room_0 hroom | ((try simp only [Around.deeper, Around.in1]); first | exact room_le hroom (by decide) | exact room_1 hroom (by decide) | exact room_0 hroom | omega))
    intro h3 e t dx3 tk3 he hne hk3
    refine ⟨_, e, t, dx3, rfl, (X.keeps F2.keep).keeps hk3, he, ?_⟩
    exact leave_mis hB hFF hst hLn (fr_dict F2) hk3 he hne fun h' a0 fl up => h h' e a0 _ fl up
end SE4
section SM9
theorem norules_M9 : True := by
  k_with_none
  trivial
theorem isSome_of {α : Type} {o : Option α} {v : α} (h : o = some v) : o.isSome = true := by rw [h]; rfl
theorem isSome_no {α : Type} {o : Option α} (h : o = none) : o.isSome = false := by rw [h]; rfl
/-- a savepoint behind 'keep' -/
structure KeptOne (w : World) (page : Int) (v : Value) (sp sp' : SpG) : Prop where
  same : sp'.x = sp.x ∧ sp'.dx = sp.dx ∧ sp'.pg = sp.pg ∧ sp'.c = sp.c
  ok : sp'.Ok w
  kvs : sp'.kvs = (if page ≤ sp.c ∧ valueAt sp.kvs page = none then stored sp.kvs page v else sp.kvs)
inductive All2 {α β : Type} (R : α → β → Prop) : List α → List β → Prop
  | nil : All2 R [] []
  | cons {a b l l'} : R a b → All2 R l l' → All2 R (a :: l) (b :: l')
theorem All2.snoc {α β : Type} {R : α → β → Prop} {l : List α} {l' : List β} (h : All2 R l l') {a : α} {b : β} (r : R a b) : All2 R (l ++ [a]) (l' ++ [b]) := by
  induction h with
  | nil => exact .cons r .nil
  | cons q _ ih => exact .cons q ih
theorem spsA_of {sps sps' : List SpG} (h : All2 (fun a b : SpG => b.x = a.x ∧ b.dx = a.dx ∧ b.pg = a.pg) sps sps') : spsA sps' = spsA sps ∧ svI sps' = svI sps := by
  induction h with
  | nil => exact ⟨rfl, rfl⟩
  | cons q _ ih =>
    obtain ⟨h1, h2, h3⟩ := q
    refine ⟨?_, ?_⟩
    · simp only [spsA, List.flatMap_cons, SpG.as, h1, h2, h3] at ih ⊢
      rw [ih.1]
    · simp only [svI, List.map_cons, h1] at ih ⊢
      rw [ih.2]
theorem spsA_append (a b : List SpG) : spsA (a ++ b) = spsA a ++ spsA b := List.flatMap_append
theorem spsL_append (P : Params) (a b : List SpG) : spsL P (a ++ b) = spsL P a ++ spsL P b := List.flatMap_append
theorem spsL_ne {P : Params} {sps : List SpG} {d : Nat} (h : d ∉ spsA sps) : ∀ p ∈ spsL P sps, p.1 ≠ d := fun p hp e => h (by rw [← spsL_as P sps, ← e]; exact List.mem_map_of_mem hp)
end SM9
section SD12
theorem take_drop_at {α : Type} {l : List α} {i : Nat} {a : α} (h : l[i]? = some a) : l = l.take i ++ a :: l.drop (i + 1) ∧ l.drop i = a :: l.drop (i + 1) ∧ l.take (i + 1) = l.take i ++ [a] := by
  have hlt : i < l.length := by
    rcases Nat.lt_or_ge i l.length with h' | h'
    · exact h'
    · rw [List.getElem?_eq_none h'] at h; cases h
  have ha : l[i] = a := by rw [List.getElem?_eq_getElem hlt] at h; exact Option.some.inj h
  have h2 : l.drop i = a :: l.drop (i + 1) := by rw [List.drop_eq_getElem_cons hlt, ha]
  refine ⟨?_, h2, ?_⟩
  · rw [← h2, List.take_append_drop]
  · rw [List.take_add_one, h]; rfl
theorem nodup_mid {A B : List Nat} {x dx pg d : Nat} (h : (A ++ (x :: dx :: pg :: B)).Nodup) (hd : d = pg ∨ ∀ a ∈ A ++ (x :: dx :: pg :: B), a < d) : (A ++ (x :: dx :: d :: B)).Nodup := by
  rcases hd with rfl | hd
  · exact h
  rw [List.nodup_append] at h ⊢
  obtain ⟨h1, h2, h3⟩ := h
  rw [List.nodup_cons, List.nodup_cons, List.nodup_cons] at h2 ⊢
  obtain ⟨h4, h5, h6, h7⟩ := h2
  have hB : ∀ b ∈ B, b < d := fun b hb => hd b (List.mem_append_right _ (.tail _ (.tail _ (.tail _ hb))))
  have hx : x < d := hd x (List.mem_append_right _ (.head _))
  have hdx : dx < d := hd dx (List.mem_append_right _ (.tail _ (.head _)))
  refine ⟨h1, ⟨fun q => ?_, fun q => ?_, fun q => Nat.lt_irrefl _ (hB d q), h7⟩, fun a ha b hb e => ?_⟩
  · rcases List.mem_cons.mp q with q | q
    · exact h4 (q ▸ .head _)
    rcases List.mem_cons.mp q with q | q
    · exact Nat.lt_irrefl _ (q ▸ hx)
    · exact h4 (.tail _ (.tail _ q))
  · rcases List.mem_cons.mp q with q | q
    · exact Nat.lt_irrefl _ (q ▸ hdx)
    · exact h5 (.tail _ q)
  · have had := hd a (List.mem_append_left _ ha)
    rcases List.mem_cons.mp hb with q | hb
    · exact h3 a ha b (q ▸ .head _) e
    rcases List.mem_cons.mp hb with q | hb
    · exact h3 a ha b (q ▸ .tail _ (.head _)) e
    rcases List.mem_cons.mp hb with q | hb
    · exact Nat.lt_irrefl _ ((e.trans q) ▸ had)
    · exact h3 a ha b (.tail _ (.tail _ (.tail _ hb))) e
/-- a savepoint apart from the rest of the ledger -/
structure Apart3 (sp : SpG) (rest : List (Addr × Obj)) (I : Addr) : Prop where
  x_dx : @Ne Nat sp.x sp.dx
  x_pg : @Ne Nat sp.x sp.pg
  dx_pg : @Ne Nat sp.dx sp.pg
  rx : ∀ p ∈ rest, p.1 ≠ sp.x
  rdx : ∀ p ∈ rest, p.1 ≠ sp.dx
  rpg : ∀ p ∈ rest, p.1 ≠ sp.pg
  ix : @Ne Nat I sp.x
  idx : @Ne Nat I sp.dx
  ipg : @Ne Nat I sp.pg
theorem apart3_of {P : Params} {sp : SpG} {pre post : List (Addr × Obj)} {I : Addr} (h : ((pre ++ (SpG.l P sp ++ post)).map (·.1)).Nodup) (hI : ∀ p ∈ pre ++ (SpG.l P sp ++ post), p.1 ≠ I) : Apart3 sp (pre ++ post) I := by
  have h : (pre.map (·.1) ++ (sp.x :: sp.dx :: sp.pg :: post.map (·.1))).Nodup := by
    rw [List.map_append, List.map_append] at h; exact h
  rw [List.nodup_append] at h
  obtain ⟨_, h2, h3⟩ := h
  rw [List.nodup_cons, List.nodup_cons, List.nodup_cons] at h2
  obtain ⟨h4, h5, h6, _⟩ := h2
  have k : ∀ a, a ∈ [sp.x, sp.dx, sp.pg] → (a ∉ post.map (·.1)) → ∀ p ∈ pre ++ post, p.1 ≠ a := fun a ha hn p hp e => by
    rcases List.mem_append.mp hp with hp | hp
    · exact h3 p.1 (List.mem_map_of_mem hp) a (List.mem_append_left (as := [sp.x, sp.dx, sp.pg]) _ ha) e
    · exact hn (e ▸ List.mem_map_of_mem (f := (·.1)) hp)
  have i : ∀ p ∈ SpG.l P sp, @Ne Nat I p.1 := fun p hp => (hI p (List.mem_append_right _ (List.mem_append_left _ hp))).symm
  exact ⟨fun e => h4 (e ▸ .head _), fun e => h4 (e ▸ .tail _ (.head _)), fun e => h5 (e ▸ .head _), k _ (.head _) (fun q => h4 (.tail _ (.tail _ q))), k _ (.tail _ (.head _)) (fun q => h5 (.tail _ q)), k _ (.tail _ (.tail _ (.head _))) h6,
    i _ (.head _), i _ (.tail _ (.head _)), i _ (.tail _ (.tail _ (.head _)))⟩
theorem all2_svI {R : SpG → SpG → Prop} (hR : ∀ a b, R a b → b.x = a.x) {a b : List SpG} (h : All2 R a b) : svI b = svI a := by
  induction h with
  | nil => rfl
  | cons q _ ih => simp only [svI, List.map_cons, hR _ _ q] at ih ⊢; rw [ih]
section
variable {prog : Program} {w : World} {A : Around} {E : Value → Shared → Prop} {s : Shared} {env : Env} {h₀ : Heap} {x : Str} {body : List Stmt} {Q : Flow → Shared → Prop}
/-- a loop over the savepoints that changes the one at hand: one savepoint's turn is asked, all else is here -/
theorem sps_loop {P : Params} {l : Addr} {n : Nat} {m₀ : Str → Option Value} {sps : List SpG} {T : List (Addr × Obj)} (ks : List (Str × Value)) (R : SpG → SpG → Prop)
    (hh : A.handled = none) (F : Fr h₀ env.locals s.heap m₀) (N : News h₀ env.locals s.heap (spsL P sps ++ T)) (hnd : ((spsL P sps ++ T).map (·.1)).Nodup) (ha : Agree m₀ ks) (hT : (l, listOf (svI sps).toArray n) ∈ T) 
    (turn : ∀ I io sp rest m h tk (Qt : Flow → Shared → Prop), sp ∈ sps → (∀ p ∈ T, p ∈ rest) → Apart3 sp rest I → Fr h₀ env.locals h (fm ((x, .ref sp.x) :: ks) m) → News h₀ env.locals h ((I, io) :: (SpG.l P sp ++ rest)) →
      (∀ h' tk' sp' m', Fr h₀ env.locals h' m' → Agree m' ks → News h₀ env.locals h' ((I, io) :: (SpG.l P sp' ++ rest)) → R sp sp' → sp'.x = sp.x ∧ sp'.dx = sp.dx → (sp'.pg = sp.pg ∨ ∀ p ∈ (I, io) :: (SpG.l P sp ++ rest), p.1 < sp'.pg) → Qt .next { s with heap := h', toks := tk' }) →
      wpAny (model prog w) A (execs body env) Qt (fun _ _ => False) { s with heap := h, toks := tk })
    (done : ∀ sps' m h tk, Fr h₀ env.locals h (fm ks m) → News h₀ env.locals h (spsL P sps' ++ T) → All2 R sps sps' → ((spsL P sps' ++ T).map (·.1)).Nodup → Q .next { s with heap := h, toks := tk }) :
    wpAny (model prog w) A (pyIter (.ref l)) (fun it s₂ => LoopAtV prog w A h₀ env x body Q E it s₂) E s := by
  refine refs_loop (n := n) (vs := svI sps) (fun z : List SpG => spsL P (z ++ sps.drop z.length) ++ T) (fun _ => ks) (fun i z => z.length = i ∧ All2 R (sps.take i) z ∧ ((spsL P (z ++ sps.drop z.length) ++ T).map (·.1)).Nodup) [] hh F N ⟨rfl, .nil, hnd⟩ ha (fun _ _ _ => List.mem_append_right _ hT) ?_ ?_
  · rintro I io i v z hv ⟨rfl, hz, hn⟩ hI m h tk Qt hF hN hk
    obtain ⟨sp, hsp, rfl⟩ : ∃ sp, sps[z.length]? = some sp ∧ v = .ref sp.x := by
      rw [svI, List.getElem?_map, Option.map_eq_some_iff] at hv
      obtain ⟨sp, a, b⟩ := hv
      exact ⟨sp, a, b.symm⟩
    obtain ⟨_, e2, e3⟩ := take_drop_at hsp
    have e4 : ∀ q : SpG, spsL P ((z ++ [q]) ++ sps.drop (z ++ [q]).length) ++ T = spsL P z ++ (SpG.l P q ++ (spsL P (sps.drop (z.length + 1)) ++ T)) := fun q => by
      rw [List.length_append, List.append_assoc, spsL_append, List.append_assoc]
      show _ ++ ((SpG.l P q ++ spsL P _) ++ T) = _
      rw [List.append_assoc]; rfl
    have e5 : spsL P (z ++ sps.drop z.length) ++ T = spsL P z ++ (SpG.l P sp ++ (spsL P (sps.drop (z.length + 1)) ++ T)) := by
      rw [e2, spsL_append, List.append_assoc]
      show _ ++ ((SpG.l P sp ++ spsL P _) ++ T) = _
      rw [List.append_assoc]
    have hN : News h₀ env.locals h ((I, io) :: (spsL P (z ++ sps.drop z.length) ++ T)) := hN
    rw [e5] at hn hI hN
    have swap : ∀ q : SpG, ∀ p, p ∈ spsL P z ++ (SpG.l P q ++ (spsL P (sps.drop (z.length + 1)) ++ T)) ↔ p ∈ SpG.l P q ++ (spsL P z ++ (spsL P (sps.drop (z.length + 1)) ++ T)) := fun q p => by
      rw [List.mem_append, List.mem_append, List.mem_append (s := SpG.l P q), List.mem_append (s := spsL P z)]
      exact ⟨fun a => a.elim (fun a => .inr (.inl a)) fun a => a.elim .inl fun a => .inr (.inr a), fun a => a.elim (fun a => .inr (.inl a)) fun a => a.elim .inl fun a => .inr (.inr a)⟩
    refine turn I io sp (spsL P z ++ (spsL P (sps.drop (z.length + 1)) ++ T)) m h tk Qt (List.mem_of_getElem? hsp) (fun p hp => List.mem_append_right _ (List.mem_append_right _ hp)) (apart3_of hn hI) hF (fun p hp => ?_) fun h' tk' sp' m' F' a' N' hr hx hpg => ?_
    · rcases List.mem_cons.mp hp with rfl | hp
      · exact hN _ (.head _)
      · exact hN _ (.tail _ ((swap sp p).mpr hp))
    · refine hk h' tk' (z ++ [sp']) m' F' a' (fun p hp => ?_) ⟨by rw [List.length_append]; rfl, by rw [e3]; exact hz.snoc hr, ?_⟩ (fun p hp e => ?_)
      · rcases List.mem_cons.mp hp with rfl | hp
        · exact N' _ (.head _)
        · have hp : p ∈ spsL P ((z ++ [sp']) ++ sps.drop (z ++ [sp']).length) ++ T := hp
          rw [e4] at hp; exact N' _ (.tail _ ((swap sp' p).mp hp))
      · rw [e4, List.map_append, List.map_append]
        rw [List.map_append, List.map_append] at hn
        show (_ ++ (sp'.x :: sp'.dx :: sp'.pg :: _)).Nodup
        rw [hx.1, hx.2]
        refine nodup_mid hn (hpg.imp id fun q a ha => ?_)
        have ha : a ∈ (spsL P z ++ (SpG.l P sp ++ (spsL P (sps.drop (z.length + 1)) ++ T))).map (·.1) := by rw [List.map_append, List.map_append]; exact ha
        obtain ⟨p, hp, rfl⟩ := List.mem_map.mp ha
        exact q p (.tail _ ((swap sp p).mp hp))
      · have hp : p ∈ spsL P ((z ++ [sp']) ++ sps.drop (z ++ [sp']).length) ++ T := hp
        rw [e4] at hp
        rcases List.mem_append.mp ((swap sp' p).mp hp) with hp | hp
        · have hp : p ∈ [(sp'.x, _), (sp'.dx, _), (sp'.pg, _)] := hp
          have hI' : ∀ p ∈ SpG.l P sp, p.1 ≠ I := fun p hp => hI p (List.mem_append_right _ (List.mem_append_left _ hp))
          rcases List.mem_cons.mp hp with rfl | hp
          · exact hI' _ (.head _) (hx.1 ▸ e)
          rcases List.mem_cons.mp hp with rfl | hp
          · exact hI' _ (.tail _ (.head _)) (hx.2 ▸ e)
          rw [List.mem_singleton.mp hp] at e
          rcases hpg with q | q
          · exact hI' _ (.tail _ (.tail _ (.head _))) (q ▸ e)
          · exact Nat.lt_irrefl _ (e ▸ q _ (.head _))
        · rcases List.mem_append.mp hp with hp | hp
          · exact hI p (List.mem_append_left _ hp) e
          · exact hI p (List.mem_append_right _ (List.mem_append_right _ hp)) e
  · rintro z m h tk ⟨hl, hz, hn⟩ hF hN
    have hl : z.length = sps.length := by rw [hl, svI, List.length_map]
    rw [svI, List.length_map, List.take_length] at hz
    rw [hl, List.drop_length, List.append_nil] at hn hN
    exact done z m h tk hF hN hz hn
end
end SD12
local macro_rules | `(tactic| k_all) => `(tactic| with_reducible assumption)
local macro_rules | `(tactic| k_ne) => `(tactic| first | with_reducible assumption | exact Ne.symm (by with_reducible assumption))
section SM10
theorem rules_M10_1 : True := by
  k_with_none
  (k_with "compareOp NotIn int ref" => (k_here; k_dflt (first | refine kdg_notin (knd := PySem.intKind _ _) (by k_asm) (by k_mem) (by k_asm) (by k_asm) (intKind_is _ _ _ _) true (isSome_of (by assumption)) ?_ | refine kdg_notin (knd := PySem.intKind _ _) (by k_asm) (by k_mem) (by k_asm) (by k_asm) (intKind_is _ _ _ _) false (isSome_no (by assumption)) ?_); (try dsimp only [Bool.not_true, Bool.not_false])))
  (k_with "setItem ref int" => (k_here; k_dflt (refine kda_set (knd := PySem.intKind _ _) (by k_asm) (by k_asm) (by k_updF) (by k_asm) (by exact intKind_is _ _ _ _) (by (rw [sizeLine_eq]; omega)) ?_; intro h' o' F' N' hd'; (try dsimp only at N')); revert h' o' F' N' hd'; intro _ _ _ _ _))
  trivial
theorem va_cons {p : Int × Value} {r : List (Int × Value)} {j : Int} : valueAt (p :: r) j = if p.1 = j then some p.2 else valueAt r j := by
  unfold valueAt
  rw [List.find?_cons]
  by_cases h : p.1 = j
  · rw [if_pos h, decide_eq_true h]; rfl
  · rw [if_neg h, decide_eq_false h]
theorem va_map {k : Int} {v : Value} {j : Int} : ∀ {kvs : List (Int × Value)}, valueAt kvs k ≠ none → valueAt (kvs.map fun kv => if kv.1 = k then (kv.1, v) else kv) j = if j = k then some v else valueAt kvs j := by
  have off : ∀ {kvs : List (Int × Value)}, j ≠ k → valueAt (kvs.map fun kv => if kv.1 = k then (kv.1, v) else kv) j = valueAt kvs j := by
    intro kvs hj
    induction kvs with
    | nil => rfl
    | cons p r ih =>
      rw [List.map_cons, va_cons, va_cons, ih]
      by_cases hp : p.1 = k
      · rw [if_pos hp, if_neg (fun e => hj (e.symm.trans hp)), if_neg (fun e => hj (e.symm.trans hp))]
      · rw [if_neg hp]
  intro kvs h
  by_cases hj : j = k
  · rw [if_pos hj, hj]
    induction kvs with
    | nil => exact absurd rfl h
    | cons p r ih =>
      rw [List.map_cons, va_cons]
      by_cases hp : p.1 = k
      · rw [if_pos hp, if_pos hp]
      · rw [va_cons, if_neg hp] at h
        rw [if_neg hp, if_neg hp, ih h]
  · rw [if_neg hj, off hj]
theorem valueAt_stored {kvs : List (Int × Value)} {k : Int} {v : Value} (j : Int) : valueAt (stored kvs k v) j = if j = k then some v else valueAt kvs j := by
  unfold stored
  split
  · rename_i ha
    refine va_map fun e => ?_
    unfold valueAt at e
    rw [Option.map_eq_none_iff, List.find?_eq_none] at e
    obtain ⟨a, h1, h2⟩ := List.any_eq_true.mp ha
    exact e a h1 h2
  · rename_i ha
    simp only [valueAt, List.find?_append]
    have hn : k ∉ kvs.map (·.1) := fun h => by
      obtain ⟨a, h1, h2⟩ := List.mem_map.mp h
      exact ha (List.any_eq_true.mpr ⟨a, h1, by simp [h2]⟩)
    by_cases hj : j = k
    · subst hj
      have : (kvs.find? fun kv => decide (kv.1 = j)) = none := by
        rw [List.find?_eq_none]
        intro a ha' e
        exact hn (List.mem_map.mpr ⟨a, ha', of_decide_eq_true e⟩)
      rw [this]; simp
    · have h1 : ¬ k = j := fun e => hj e.symm
      simp [h1, hj]
theorem stored_length {kvs : List (Int × Value)} {k : Int} {v : Value} : (stored kvs k v).length ≤ kvs.length + 1 := by
  unfold stored; split <;> simp
theorem kept_svI {w : World} {page : Int} {v : Value} {a b : List SpG} (h : All2 (KeptOne w page v) a b) : spsA b = spsA a ∧ svI b = svI a := by
  refine spsA_of ?_
  induction h with
  | nil => exact .nil
  | cons q _ ih => exact .cons ⟨q.same.1, q.same.2.1, q.same.2.2.1⟩ ih
theorem svI_append (a b : List SpG) : svI (a ++ b) = svI a ++ svI b := List.map_append
theorem mem_sv (P : Params) (ch : ChG) : (ch.sv, listOf (svI ch.sps).toArray ch.sn) ∈ ch.l P := by
  refine List.mem_append_left _ ?_
  unfold chTop
  k_mem
theorem top_nd {P : Params} {ch : ChG} (h : ch.as.Nodup) : ((spsL P ch.sps ++ chTop P ch (svI ch.sps)).map (·.1)).Nodup := by
  rw [← ChG.l_as P, ChG.l, List.map_append] at h
  rw [List.map_append]
  exact (List.perm_append_comm.nodup_iff).mp h
theorem top_mem {P : Params} {ch : ChG} : ∀ p ∈ spsL P ch.sps ++ chTop P ch (svI ch.sps), p ∈ ch.l P := fun _ hp => List.mem_append.mpr (List.mem_append.mp hp).symm
theorem top_mem' {P : Params} {ch : ChG} : ∀ p ∈ ch.l P, p ∈ spsL P ch.sps ++ chTop P ch (svI ch.sps) := fun _ hp => List.mem_append.mpr (List.mem_append.mp hp).symm
theorem two_mem {P : Params} {ch : ChG} : ∀ p ∈ (ch.x, instObj 191 ch.dx) :: (ch.dx, chD P (.ref ch.st) (.int ch.c ch.ct) (.ref ch.pg) (.ref ch.sv) ch.t1 ch.t2 ch.t3 ch.t4) :: (ch.sv, listOf (svI ch.sps).toArray ch.sn) :: ch.l P, p ∈ ch.l P := by
  intro p hp
  rcases List.mem_cons.mp hp with rfl | hp
  · exact .head _
  rcases List.mem_cons.mp hp with rfl | hp
  · exact .tail _ (.head _)
  rcases List.mem_cons.mp hp with rfl | hp
  · exact mem_sv P ch
  · exact hp
theorem sv_mem {P : Params} {ch : ChG} {its : List Value} : (ch.sv, listOf its.toArray ch.sn) ∈ chTop P ch its := .tail _ (.tail _ (.tail _ (.tail _ (.tail _ (.tail _ (.head _))))))
theorem six_mem {P : Params} {ch : ChG} {its : List Value} : ∀ p ∈ [(ch.x, instObj 191 ch.dx), (ch.dx, chD P (.ref ch.st) (.int ch.c ch.ct) (.ref ch.pg) (.ref ch.sv) ch.t1 ch.t2 ch.t3 ch.t4), (ch.pg, ch.po), (ch.st, instObj 91 ch.sd), (ch.sd, plD P (.ref ch.sl) ch.tp), (ch.sl, listOf ch.first.toArray ch.ln)], p ∈ chTop P ch its :=
  fun p hp => List.mem_append.mpr (Or.inl hp : _ ∨ p ∈ [(ch.sv, listOf its.toArray ch.sn)])
theorem two_front {P : Params} {ch : ChG} {l : List (Addr × Obj)} (h : ∀ p ∈ [(ch.x, instObj 191 ch.dx), (ch.dx, chD P (.ref ch.st) (.int ch.c ch.ct) (.ref ch.pg) (.ref ch.sv) ch.t1 ch.t2 ch.t3 ch.t4), (ch.pg, ch.po), (ch.st, instObj 91 ch.sd), (ch.sd, plD P (.ref ch.sl) ch.tp), (ch.sl, listOf ch.first.toArray ch.ln)], p ∈ l) :
    ∀ p ∈ (ch.x, instObj 191 ch.dx) :: (ch.dx, chD P (.ref ch.st) (.int ch.c ch.ct) (.ref ch.pg) (.ref ch.sv) ch.t1 ch.t2 ch.t3 ch.t4) :: l, p ∈ l := by
  intro p hp
  rcases List.mem_cons.mp hp with rfl | hp
  · exact h _ (.head _)
  rcases List.mem_cons.mp hp with rfl | hp
  · exact h _ (.tail _ (.head _))
  · exact hp
theorem kept_new {w : World} {page : Int} {bs : Array UInt8} {vt : Nat} {sp : SpG} {o : Obj} (ok : sp.Ok w) (hs : sp.kvs.length ≤ 900) (hc : page ≤ sp.c) (hq : valueAt sp.kvs page = none) (hd : o.IsDictOf (intKind PySem.Challenge.rw_nt0093_01.row.prog w) (stored sp.kvs page (.bytes bs vt))) :
    KeptOne w page (.bytes bs vt) sp { sp with o := o, kvs := stored sp.kvs page (.bytes bs vt) } := by
  refine ⟨⟨rfl, rfl, rfl, rfl⟩, ⟨hd, ok.nm, ?_, fun k v hkv => ?_⟩, by rw [if_pos ⟨hc, hq⟩]⟩
  · have := stored_length (kvs := sp.kvs) (k := page) (v := .bytes bs vt)
    exact Nat.le_trans this (Nat.succ_le_succ (Nat.le_trans hs (by decide)))
  · simp only [valueAt_stored] at hkv
    split at hkv
    · exact ⟨_, _, (Option.some.inj hkv).symm⟩
    · exact ok.vals k v hkv
theorem kept_same {w : World} {page : Int} {v : Value} {sp : SpG} (ok : sp.Ok w) (h : ¬ (page ≤ sp.c ∧ valueAt sp.kvs page = none)) : KeptOne w page v sp sp := ⟨⟨rfl, rfl, rfl, rfl⟩, ok, by rw [if_neg h]⟩
theorem keep_post {w : World} {page : Int} {v : Value} {P : Params} {ch : ChG} {sps' : List SpG} (h : All2 (KeptOne w page v) ch.sps sps') : ∀ p ∈ ChG.l P { ch with sps := sps' }, p ∈ spsL P sps' ++ chTop P ch (svI ch.sps) := by
  have e : svI sps' = svI ch.sps := all2_svI (fun _ _ q => q.same.1) h
  intro p hp
  have hp : p ∈ chTop P ch (svI sps') ++ spsL P sps' := hp
  rw [e] at hp
  exact List.mem_append.mpr (List.mem_append.mp hp).symm
/-- the ledger behind the object, its dict and the pages' dict -/
noncomputable def popR (P : Params) (ch : ChG) : List (Addr × Obj) := (ch.st, instObj 91 ch.sd) :: (ch.sd, plD P (.ref ch.sl) ch.tp) :: (ch.sl, listOf ch.first.toArray ch.ln) :: (ch.sv, listOf (svI ch.sps).toArray ch.sn) :: spsL P ch.sps
theorem off3 {a b c : Nat} {R : List (Addr × Obj)} (h : (a :: b :: c :: R.map (·.1)).Nodup) : (@Ne Nat a b ∧ @Ne Nat a c ∧ @Ne Nat b c) ∧ (∀ p ∈ R, p.1 ≠ a) ∧ (∀ p ∈ R, p.1 ≠ b) ∧ ∀ p ∈ R, p.1 ≠ c := by
  rw [List.nodup_cons, List.nodup_cons, List.nodup_cons] at h
  obtain ⟨h1, h2, h3, _⟩ := h
  exact ⟨⟨fun e => h1 (e ▸ .head _), fun e => h1 (e ▸ .tail _ (.head _)), fun e => h2 (e ▸ .head _)⟩, fun p hp e => h1 (e ▸ .tail _ (.tail _ (List.mem_map_of_mem hp))), fun p hp e => h2 (e ▸ .tail _ (List.mem_map_of_mem hp)), fun p hp e => h3 (e ▸ List.mem_map_of_mem hp)⟩
theorem l_off {P : Params} {ch : ChG} (h : ch.as.Nodup) : (@Ne Nat ch.x ch.dx ∧ @Ne Nat ch.x ch.pg ∧ @Ne Nat ch.dx ch.pg) ∧ (∀ p ∈ popR P ch, p.1 ≠ ch.x) ∧ (∀ p ∈ popR P ch, p.1 ≠ ch.dx) ∧ ∀ p ∈ popR P ch, p.1 ≠ ch.pg := by
  rw [← ChG.l_as P] at h
  exact off3 h
theorem l_offz {P : Params} {ch : ChG} {z : List SpG} (h : (ChG.as { ch with sps := z }).Nodup) : (@Ne Nat ch.x ch.dx ∧ @Ne Nat ch.x ch.pg ∧ @Ne Nat ch.dx ch.pg) ∧ (∀ p ∈ popR P { ch with sps := z }, p.1 ≠ ch.x) ∧ (∀ p ∈ popR P { ch with sps := z }, p.1 ≠ ch.dx) ∧ ∀ p ∈ popR P { ch with sps := z }, p.1 ≠ ch.pg := l_off h
theorem kept_nd {w : World} {page : Int} {v : Value} {ch : ChG} {sps' : List SpG} (h : ch.as.Nodup) (A : All2 (KeptOne w page v) ch.sps sps') : (ChG.as { ch with sps := sps' }).Nodup := by
  unfold ChG.as at h ⊢
  simp only
  rw [(kept_svI A).1]; exact h
theorem keep_spec {w : World} {mean : ExcName → Option Value} {mg mb : Str → Option Value} {b : Heap} (S : Sta w mean mg mb b) {dep un : Nat} {fr : Option (List Env)} {gs : Option (List Code)} (hroom : dep + 2 < recursionLimit) {s : Shared} (hb : b.StaysIn s.heap)
    {ch : ChG} (hs : Own b s.heap (ch.l w.params)) (ok : ch.Ok w) {page : Int} {pt : Nat} {bs : Array UInt8} {vt : Nat} (hp1 : 1 ≤ page) (hp2 : page < 2 ^ 60)
    (hv : (valueAt ch.kvs page = none ∧ ch.first[(page - 1).toNat]? = some (.bytes bs vt)) ∨ valueAt ch.kvs page = some (.bytes bs vt)) (hsm : ∀ sp ∈ ch.sps, sp.kvs.length ≤ 900) {R : Result → Shared → Prop}
    (h : ∀ h' sps' tk, Step b (ch.l w.params) (ChG.l w.params { ch with sps := sps' }) s.heap h' → All2 (KeptOne w page (.bytes bs vt)) ch.sps sps' → R (.ok (.ret .none)) { s with heap := h', toks := tk }) :
    codeAny (model PySem.Challenge.rw_nt0093_01.row.prog w) (⟨none, dep, fr, gs, un⟩ : Around) (.call (.ref 138) ⟨[.ref ch.x, .int page pt], []⟩) R s := by
  refine' call_footQ (K := head.heap_39 w.params) S hb hs ?k1 S.X ?k2 (by (first | assumption | exact room_le hroom (by decide) | exact room_1 hroom (by decide) | exact room_0 hroom | ((try simp only [Around.deeper, Around.in1]); first | exact room_le hroom (by decide) | exact room_1 hroom (by decide) | exact room_0 hroom | omega))) ?k3 ?k4 ?_ ?c1 ?c2 ?c3 ?c4
  case k1 => k_is
  case k2 => k_is
  case k3 => first | exact BindsTo.of_eq rfl | exact binds_K (S.X.keeps hb) rfl (by k_is) rfl rfl rfl
  case k4 => exact locs rfl
  case c1 => exact rfl
  case c2 => exact rfl
  case c3 => exact rfl
  case c4 => decide
  intro Q9 g L' h₁ hQ hg hL F N S'
  have hbg := stays_of S hb hs hg
  have X := S'.X
  have T := S'.T
  dsimp only
  have N1 := news_sub N two_mem
  clear N
  repeat' (first | ((fail_if_success (with_reducible show wpAny _ _ (pyIter _) _ _ _)); first | (k_unfold; (try dsimp only)) | walk1 | (dsimp only; walk1)))
  try (with_reducible refine hQ _ _ ?_); try dsimp only
  rename Fr _ _ _ _ => F2
  rename News _ _ _ _ => N2
  refine sps_loop (T := chTop w.params ch (svI ch.sps)) [(Str.ofString "self", .ref ch.x), (Str.ofString "page", .int page pt)] (KeptOne w page (.bytes bs vt)) rfl F2 (news_sub N2 fun p hp => .tail _ (.tail _ (.tail _ (top_mem p hp)))) (top_nd ok.nodup) ?ag sv_mem ?_ ?_
  case ag => exact ⟨rfl, rfl, trivial⟩
  · intro I io sp rest m h2 tk Qt hsp hT AP F4 N4 hk
    clear F2 N2 h hQ
    have hspok := ok.sps sp hsp
    have hspsm := hsm sp hsp
    have hkvs := hspok.dict
    have hnm := hspok.nm
    have o2 := AP.x_pg
    have o3 := AP.dx_pg
    have o4 := AP.ipg
    have o5 := AP.rpg
    simp only [SpG.l, List.cons_append, List.nil_append] at N4
    dsimp only [fm] at F4
    have o1 : @Ne Nat ch.x sp.pg := AP.rpg _ (hT _ (.head _))
    have o0 : @Ne Nat ch.dx sp.pg := AP.rpg _ (hT _ (.tail _ (.head _)))
    have N4 := news_sub N4 (two_front (fun p hp => .tail _ (.tail _ (.tail _ (.tail _ (hT p (six_mem p hp)))))))
    by_cases hc : page ≤ sp.c
    · cases hq : valueAt sp.kvs page with
      | none =>
        k_steps
        refine wpAny_call ?_
        refine' read_spec S' ?r ?k ?o ok.dict ok.nm ok.vals hp1 hp2 hv ?_
        case r => (first | assumption | exact room_le hroom (by decide) | exact room_1 hroom (by decide) | exact room_0 hroom | ((try simp only [Around.deeper, Around.in1]); first | exact room_le hroom (by decide) | exact room_1 hroom (by decide) | exact room_0 hroom | omega))
        case k => exact F4.keep
        case o => exact own_of_news N4 fun p hp => .tail _ (.tail _ (.tail _ (.tail _ (.tail _ (.tail _ (hT p (six_mem p hp)))))))
        intro h5 tk5 K5
        have F5 := F4.keeps K5
        have N5 := news_keeps N4 K5
        clear F4 N4
        dsimp only
        k_steps
        rename Fr _ _ _ _ => F6
        rename News _ _ _ _ => N6
        rename Obj => o6
        rename Obj.IsDictOf _ o6 _ => hd6
        exact hk _ _ { sp with o := o6, kvs := stored sp.kvs page (.bytes bs vt) } _ F6 ⟨rfl, rfl, trivial⟩ (news_sub N6 fun _ hp => .tail _ (.tail _ hp)) (kept_new hspok hspsm hc hq hd6) ⟨rfl, rfl⟩ (.inl rfl)
      | some u =>
        k_steps
        exact hk _ _ sp _ F4 ⟨rfl, rfl, trivial⟩ (news_sub N4 fun _ hp => .tail _ (.tail _ hp)) (kept_same hspok fun q => by rw [hq] at q; cases q.2) ⟨rfl, rfl⟩ (.inl rfl)
    · k_steps
      exact hk _ _ sp _ F4 ⟨rfl, rfl, trivial⟩ (news_sub N4 fun _ hp => .tail _ (.tail _ hp)) (kept_same hspok fun q => hc q.1) ⟨rfl, rfl⟩ (.inl rfl)
  · intro sps' m h2 tk F3 N3 ha _
    clear F2 N2
    k_steps
    refine hQ _ _ ?_
    exact h _ sps' _ (step_of hg hbg F3 (news_sub N3 (keep_post ha)) (fun p hp => hp)) ha
end SM10
section SM11
theorem rules_M11_1 : True := by
  k_with_none
  (k_with "call type:bytes" => ((with_reducible show wpAny _ _ (call (Value.type "bytes") [_]) _ _ _); first | (refine bytes_of_8 ?_; intro t' tk') | (refine bytes_of_bytes ?_; intro t' tk'); revert t' tk'; intro _ _))
  (k_with "setItem ref int" => (k_here; k_dflt (refine kda_set (knd := PySem.intKind _ _) (by k_asm) (by k_asm) (by k_updF) (by k_asm) (by exact intKind_is _ _ _ _) (by (rw [sizeLine_eq]; omega)) ?_; intro h' o' F' N' hd'; (try dsimp only at N')); revert h' o' F' N' hd'; intro _ _ _ _ _))
  trivial
theorem put_spec {w : World} {mean : ExcName → Option Value} {mg mb : Str → Option Value} {b : Heap} (S : Sta w mean mg mb b) {dep un : Nat} {fr : Option (List Env)} {gs : Option (List Code)} (hroom : dep + 3 < recursionLimit) {s : Shared} (hb : b.StaysIn s.heap)
    {ch : ChG} (hs : Own b s.heap (ch.l w.params)) (ok : ch.Ok w) {page : Int} {pt : Nat} {bs ob : Array UInt8} {vt ot : Nat} (hp1 : 1 ≤ page) (hp2 : page < 2 ^ 60)
    (hv : (valueAt ch.kvs page = none ∧ ch.first[(page - 1).toNat]? = some (.bytes bs vt)) ∨ valueAt ch.kvs page = some (.bytes bs vt)) (hsm : ∀ sp ∈ ch.sps, sp.kvs.length ≤ 900) (hsm2 : ch.kvs.length ≤ 900) {R : Result → Shared → Prop}
    (h : ∀ h' sps' po' t' tk, Step b (ch.l w.params) (ChG.l w.params { ch with sps := sps', po := po', kvs := stored ch.kvs page (.bytes ob t') }) s.heap h' → po'.IsDictOf (intKind PySem.Challenge.rw_nt0093_01.row.prog w) (stored ch.kvs page (.bytes ob t')) → All2 (KeptOne w page (.bytes bs vt)) ch.sps sps' → R (.ok (.ret .none)) { s with heap := h', toks := tk }) :
    codeAny (model PySem.Challenge.rw_nt0093_01.row.prog w) (⟨none, dep, fr, gs, un⟩ : Around) (.call (.ref 145) ⟨[.ref ch.x, .int page pt, .bytes ob ot], []⟩) R s := by
  refine' call_footQ (K := head.heap_39 w.params) S hb hs ?k1 S.X ?k2 (by (first | assumption | exact room_le hroom (by decide) | exact room_1 hroom (by decide) | exact room_0 hroom | ((try simp only [Around.deeper, Around.in1]); first | exact room_le hroom (by decide) | exact room_1 hroom (by decide) | exact room_0 hroom | omega))) ?k3 ?k4 ?_ ?c1 ?c2 ?c3 ?c4
  case k1 => k_is
  case k2 => k_is
  case k3 => first | exact BindsTo.of_eq rfl | exact binds_K (S.X.keeps hb) rfl (by k_is) rfl rfl rfl
  case k4 => exact locs rfl
  case c1 => exact rfl
  case c2 => exact rfl
  case c3 => exact rfl
  case c4 => decide
  intro Q9 g L' h₁ hQ hg hL F N S'
  have hbg := stays_of S hb hs hg
  have X := S'.X
  have T := S'.T
  dsimp only
  have N1 : News g L' h₁ ((ch.x, instObj 191 ch.dx) :: (ch.dx, chD w.params (.ref ch.st) (.int ch.c ch.ct) (.ref ch.pg) (.ref ch.sv) ch.t1 ch.t2 ch.t3 ch.t4) :: (ch.pg, ch.po) :: popR w.params ch) := N
  k_steps
  refine wpAny_call ?_
  refine' keep_spec S' ?r ?k ?o ok hp1 hp2 hv hsm ?_
  case r => (first | assumption | exact room_le hroom (by decide) | exact room_1 hroom (by decide) | exact room_0 hroom | ((try simp only [Around.deeper, Around.in1]); first | exact room_le hroom (by decide) | exact room_1 hroom (by decide) | exact room_0 hroom | omega))
  case k => exact F.keep
  case o => exact own_of_news N (fun p hp => hp)
  intro h3 sps3 tk3 T3 A3
  have AT := l_offz (P := w.params) (kept_nd ok.nodup A3)
  have F3 := after_fr F N (fun p hp => hp) T3
  have N3 := after_news (rest := []) F N (fun p hp => hp) (List.forall_mem_nil _) (List.forall_mem_nil _) T3
  rw [List.append_nil] at N3
  have N4 : News g L' h3 ((ch.x, instObj 191 ch.dx) :: (ch.dx, chD w.params (.ref ch.st) (.int ch.c ch.ct) (.ref ch.pg) (.ref ch.sv) ch.t1 ch.t2 ch.t3 ch.t4) :: (ch.pg, ch.po) :: popR w.params { ch with sps := sps3 }) := N3
  clear F N N1 N3
  obtain ⟨R9, hR9⟩ : ∃ R9, R9 = popR w.params { ch with sps := sps3 } := ⟨_, rfl⟩
  rw [← hR9] at N4 AT
  dsimp only
  have x1 := AT.1.2.1
  have x2 := AT.1.2.2
  have x3 := AT.2.2.2
  have hd := ok.dict
  have hnm := ok.nm
  k_steps
  try (with_reducible refine hQ _ _ ?_); try dsimp only
  rename Fr _ _ _ _ => F2
  rename News _ _ _ _ => N2
  rename Obj => o9
  rename Obj.IsDictOf _ o9 _ => hd9
  rw [hR9] at N2
  exact h _ _ _ _ _ (step_of hg hbg F2 N2 (fun p hp => hp)) hd9 A3
end SM11
section SM12
theorem norules_M12 : True := by
  k_with_none
  trivial
theorem allLt_mem {d : Nat} : ∀ {l : List (Addr × Obj)}, AllLt d l → ∀ p ∈ l, @LT.lt Nat _ p.1 d := by
  intro l
  induction l with
  | nil => intro _ p hp; cases hp
  | cons a r ih =>
    intro h p hp
    rcases List.mem_cons.mp hp with rfl | hp
    · exact h.1
    · exact ih h.2 p hp
/-- a savepoint behind 'begin' -/
structure BegOne (w : World) (c : Int) (sp sp' : SpG) : Prop where
  same : sp'.x = sp.x ∧ sp'.dx = sp.dx
  ok : sp'.Ok w
  c : sp'.c = c
  kvs : sp'.kvs = []
theorem ok_new {w : World} {sp : SpG} (hd : sp.o.IsDictOf (intKind PySem.Challenge.rw_nt0093_01.row.prog w) sp.kvs) (hk : sp.kvs = []) (hn : (sp.pg == sysModules) = false) : sp.Ok w where
  dict := hd
  nm := hn
  small := by rw [hk]; decide
  vals := fun k v h => by
    rw [hk] at h
    simp [valueAt] at h
theorem beg_oks {w : World} {c : Int} {a b : List SpG} (h : All2 (BegOne w c) a b) : ∀ sp ∈ b, sp.Ok w := by
  induction h with
  | nil => intro sp hp; cases hp
  | cons q _ ih =>
    intro sp hp
    rcases List.mem_cons.mp hp with rfl | hp
    · exact q.ok
    · exact ih sp hp
/-- the ledger but for the object, its dict and the list of the savepoints -/
noncomputable def begR (P : Params) (ch : ChG) : List (Addr × Obj) := (ch.pg, ch.po) :: (ch.st, instObj 91 ch.sd) :: (ch.sd, plD P (.ref ch.sl) ch.tp) :: (ch.sl, listOf ch.first.toArray ch.ln) :: spsL P ch.sps
theorem beg_mem1 {P : Params} {ch : ChG} : ∀ p ∈ (ch.x, instObj 191 ch.dx) :: (ch.dx, chD P (.ref ch.st) (.int ch.c ch.ct) (.ref ch.pg) (.ref ch.sv) ch.t1 ch.t2 ch.t3 ch.t4) :: (ch.sv, listOf (svI ch.sps).toArray ch.sn) :: begR P ch, p ∈ ch.l P :=
  List.forall_mem_cons.mpr ⟨.head _, List.forall_mem_cons.mpr ⟨.tail _ (.head _), List.forall_mem_cons.mpr ⟨mem_sv P ch, List.forall_mem_cons.mpr ⟨.tail _ (.tail _ (.head _)), List.forall_mem_cons.mpr ⟨.tail _ (.tail _ (.tail _ (.head _))), List.forall_mem_cons.mpr ⟨.tail _ (.tail _ (.tail _ (.tail _ (.head _)))),
    List.forall_mem_cons.mpr ⟨.tail _ (.tail _ (.tail _ (.tail _ (.tail _ (.head _))))), fun _ hp => List.mem_append_right _ hp⟩⟩⟩⟩⟩⟩⟩
theorem beg_lt {P : Params} {ch : ChG} {d : Nat} (l : ch.x < d ∧ ch.dx < d ∧ ch.sv < d ∧ AllLt d (begR P ch)) : ∀ a ∈ ch.as, a < d := by
  obtain ⟨l1, l2, l3, l4, l5, l6, l7, lr⟩ := l
  refine List.forall_mem_append.mpr ⟨List.forall_mem_cons.mpr ⟨l1, List.forall_mem_cons.mpr ⟨l2, List.forall_mem_cons.mpr ⟨l4, List.forall_mem_cons.mpr ⟨l5, List.forall_mem_cons.mpr ⟨l6, List.forall_mem_cons.mpr ⟨l7, List.forall_mem_cons.mpr ⟨l3, List.forall_mem_nil _⟩⟩⟩⟩⟩⟩⟩, fun a ha => ?_⟩
  rw [← spsL_as P] at ha
  obtain ⟨p, hp, rfl⟩ := List.mem_map.mp ha
  exact allLt_mem lr p hp
theorem beg_off {P : Params} {ch : ChG} (h : ch.as.Nodup) : (@Ne Nat ch.x ch.dx ∧ @Ne Nat ch.x ch.sv ∧ @Ne Nat ch.dx ch.sv) ∧ (∀ p ∈ begR P ch, p.1 ≠ ch.x) ∧ (∀ p ∈ begR P ch, p.1 ≠ ch.dx) ∧ ∀ p ∈ begR P ch, p.1 ≠ ch.sv := by
  have h : (ch.x :: ch.dx :: ([ch.pg, ch.st, ch.sd, ch.sl] ++ ch.sv :: spsA ch.sps)).Nodup := h
  have h := ((List.perm_middle.cons _).cons _).nodup_iff.mp h
  rw [← spsL_as P] at h
  exact off3 h
theorem pg_nd {ch : ChG} {c : Int} {ct d : Nat} {po : Obj} {kvs : List (Int × Value)} (h : ch.as.Nodup) (hd : ∀ a ∈ ch.as, a < d) : (ChG.as { ch with c := c, ct := ct, pg := d, po := po, kvs := kvs }).Nodup :=
  nodup_mid (A := []) h (.inr hd)
theorem beg_mem2 {P : Params} {ch : ChG} {its : List Value} {c : Int} {ct d : Nat} {po : Obj} {kvs : List (Int × Value)} :
    ∀ p ∈ spsL P ch.sps ++ chTop P { ch with c := c, ct := ct, pg := d, po := po, kvs := kvs } its, p ∈ (d, po) :: (ch.x, instObj 191 ch.dx) :: (ch.dx, chD P (.ref ch.st) (.int c ct) (.ref d) (.ref ch.sv) ch.t1 ch.t2 ch.t3 ch.t4) :: (ch.sv, listOf its.toArray ch.sn) :: begR P ch :=
  List.forall_mem_append.mpr ⟨fun _ hp => .tail _ (.tail _ (.tail _ (.tail _ (.tail _ (.tail _ (.tail _ (.tail _ hp))))))), List.forall_mem_cons.mpr ⟨.tail _ (.head _), List.forall_mem_cons.mpr ⟨.tail _ (.tail _ (.head _)), List.forall_mem_cons.mpr ⟨.head _,
    List.forall_mem_cons.mpr ⟨.tail _ (.tail _ (.tail _ (.tail _ (.tail _ (.head _))))), List.forall_mem_cons.mpr ⟨.tail _ (.tail _ (.tail _ (.tail _ (.tail _ (.tail _ (.head _)))))), List.forall_mem_cons.mpr ⟨.tail _ (.tail _ (.tail _ (.tail _ (.tail _ (.tail _ (.tail _ (.head _))))))), List.forall_mem_cons.mpr ⟨.tail _ (.tail _ (.tail _ (.head _))), List.forall_mem_nil _⟩⟩⟩⟩⟩⟩⟩⟩
theorem top_post {P : Params} {ch : ChG} {its : List Value} (e : svI ch.sps = its) : ∀ p ∈ ch.l P, p ∈ spsL P ch.sps ++ chTop P ch its := by
  subst e; exact top_mem'
theorem nd_top {P : Params} {ch : ChG} {its : List Value} (h : ((spsL P ch.sps ++ chTop P ch its).map (·.1)).Nodup) : ch.as.Nodup := by
  rw [List.map_append] at h
  rw [← ChG.l_as P, ChG.l, List.map_append]
  exact (List.perm_append_comm.nodup_iff).mp h
theorem beg_new {w : World} {sp : SpG} {c : Int} {ct d : Nat} {o : Obj} (hd : o.IsDictOf (intKind PySem.Challenge.rw_nt0093_01.row.prog w) []) (hn : (d == sysModules) = false) : BegOne w c sp { sp with c := c, ct := ct, pg := d, o := o, kvs := [] } := ⟨⟨rfl, rfl⟩, ok_new hd rfl hn, rfl, rfl⟩
theorem beg_turn {P : Params} {sp : SpG} {c : Int} {ct d : Nat} {o io : Obj} {I : Addr} {rest : List (Addr × Obj)} : ∀ p ∈ (I, io) :: (SpG.l P { sp with c := c, ct := ct, pg := d, o := o, kvs := [] } ++ rest), p ∈ (d, o) :: (I, io) :: (sp.x, instObj 63 sp.dx) :: (sp.dx, spD P (.int c ct) (.ref d) sp.t1 sp.t2) :: (sp.pg, sp.o) :: rest :=
  List.forall_mem_cons.mpr ⟨.tail _ (.head _), List.forall_mem_cons.mpr ⟨.tail _ (.tail _ (.head _)), List.forall_mem_cons.mpr ⟨.tail _ (.tail _ (.tail _ (.head _))), List.forall_mem_cons.mpr ⟨.head _, fun _ hp => .tail _ (.tail _ (.tail _ (.tail _ (.tail _ hp))))⟩⟩⟩⟩
theorem begin_spec {w : World} {mean : ExcName → Option Value} {mg mb : Str → Option Value} {b : Heap} (S : Sta w mean mg mb b) {dep un : Nat} {fr : Option (List Env)} {gs : Option (List Code)} (hroom : dep + 2 < recursionLimit) {s : Shared} (hb : b.StaysIn s.heap)
    {ch : ChG} (hs : Own b s.heap (ch.l w.params)) (ok : ch.Ok w) {c : Int} {ct : Nat} {R : Result → Shared → Prop}
    (h : ∀ h' (pg' : Nat) po' sps' tk, Step b (ch.l w.params) (ChG.l w.params { ch with c := c, ct := ct, pg := pg', po := po', kvs := [], sps := sps' }) s.heap h' → All2 (BegOne w c) ch.sps sps' → ChG.Ok w { ch with c := c, ct := ct, pg := pg', po := po', kvs := [], sps := sps' } → R (.ok (.ret .none)) { s with heap := h', toks := tk }) :
    codeAny (model PySem.Challenge.rw_nt0093_01.row.prog w) (⟨none, dep, fr, gs, un⟩ : Around) (.call (.ref 117) ⟨[.ref ch.x, .int c ct], []⟩) R s := by
  refine' call_footQ (K := head.heap_39 w.params) S hb hs ?k1 S.X ?k2 (by (first | assumption | exact room_le hroom (by decide) | exact room_1 hroom (by decide) | exact room_0 hroom | ((try simp only [Around.deeper, Around.in1]); first | exact room_le hroom (by decide) | exact room_1 hroom (by decide) | exact room_0 hroom | omega))) ?k3 ?k4 ?_ ?c1 ?c2 ?c3 ?c4
  case k1 => k_is
  case k2 => k_is
  case k3 => first | exact BindsTo.of_eq rfl | exact binds_K (S.X.keeps hb) rfl (by k_is) rfl rfl rfl
  case k4 => exact locs rfl
  case c1 => exact rfl
  case c2 => exact rfl
  case c3 => exact rfl
  case c4 => decide
  intro Q9 g L' h₁ hQ hg hL F N S'
  have hbg := stays_of S hb hs hg
  have X := S'.X
  have T := S'.T
  dsimp only
  have N1 := news_sub N beg_mem1
  have AT := beg_off (P := w.params) ok.nodup
  have x1 := AT.1.1
  have x2 := AT.1.2.2
  have x3 := AT.2.2.1
  clear N AT
  repeat' (first | ((fail_if_success (with_reducible show wpAny _ _ (pyIter _) _ _ _)); first | (k_unfold; (try dsimp only)) | walk1 | (dsimp only; walk1)))
  try (with_reducible refine hQ _ _ ?_); try dsimp only
  rename Fr _ _ _ _ => F2
  rename News _ _ _ _ => N2
  rename Obj => o2
  rename Obj.IsDictOf (intKind _ _) _ _ => hd2
  rename (_ == sysModules) = false => hn2
  rename Addr => d2
  rename ch.x < _ ∧ _ => l1
  have hnd := pg_nd (c := c) (ct := ct) (po := o2) (kvs := []) ok.nodup (beg_lt l1)
  clear x1 x2 x3
  refine sps_loop (T := chTop w.params { ch with c := c, ct := ct, pg := d2, po := o2, kvs := [] } (svI ch.sps)) [(Str.ofString "count", .int c ct)] (BegOne w c) rfl F2 (news_sub N2 beg_mem2) (top_nd hnd) ?ag sv_mem ?_ ?_
  case ag => exact ⟨rfl, trivial⟩
  · intro I io sp rest m h2 tk Qt hsp hT AP F4 N4 hk
    clear F2 N2 h hQ hnd l1
    have o1 := AP.x_dx
    have o2 := AP.dx_pg
    have o3 := AP.idx
    have o4 := AP.rdx
    simp only [SpG.l, List.cons_append, List.nil_append] at N4
    dsimp only [fm] at F4
    k_steps
    rename Fr _ _ _ _ => F5
    rename News _ _ _ _ => N5
    rename Obj => o5
    rename Addr => d3
    rename Obj.IsDictOf (intKind _ _) _ _ => hd3
    rename (_ == sysModules) = false => hn3
    rename I < d3 ∧ _ => l1
    exact hk _ _ { sp with c := c, ct := ct, pg := d3, o := o5, kvs := [] } _ F5 ⟨rfl, trivial⟩ (news_sub N5 beg_turn) (beg_new hd3 hn3) ⟨rfl, rfl⟩ (.inr fun p hp => allLt_mem (l := (I, io) :: (SpG.l w.params sp ++ rest)) l1 p hp)
  · intro sps' m h2 tk F3 N3 ha hn
    clear F2 N2 l1 hnd
    have e := all2_svI (fun _ _ q => q.same.1) ha
    k_steps
    refine hQ _ _ ?_
    exact h _ _ _ _ _ (step_of hg hbg F3 (news_sub N3 (top_post (ch := { ch with c := c, ct := ct, pg := d2, po := o2, kvs := [], sps := sps' }) e)) (fun p hp => hp)) ha ⟨hd2, hn2, Nat.zero_le _, fun k v hk => (nomatch hk), ok.fvals, ok.flen, nd_top (P := w.params) (ch := { ch with c := c, ct := ct, pg := d2, po := o2, kvs := [], sps := sps' }) hn, beg_oks ha⟩
end SM12
section SD5
theorem valueAt_without {kvs : List (Int × Value)} {k : Int} (q : Int) : valueAt (without kvs k) q = if q = k then none else valueAt kvs q := by
  unfold valueAt without
  rw [List.find?_filter]
  by_cases h : q = k
  · subst h
    rw [if_pos rfl]
    have : (kvs.find? fun a => decide (decide (a.1 ≠ q) = true ∧ decide (a.1 = q) = true)) = none := by
      rw [List.find?_eq_none]
      intro a _ e
      simp at e
    rw [this]; rfl
  · rw [if_neg h]
    congr 1
    congr 1
    funext a
    by_cases e : a.1 = q
    · have : a.1 ≠ k := fun e2 => h (e.symm.trans e2)
      simp [e, h]
    · simp [e]
theorem without_length {kvs : List (Int × Value)} {k : Int} : (without kvs k).length ≤ kvs.length := List.length_filter_le _ _
theorem not_mem_of_none {kvs : List (Int × Value)} {k : Int} (h : valueAt kvs k = none) : k ∉ kvs.map (·.1) := by
  intro hm
  obtain ⟨a, ha, e⟩ := List.mem_map.mp hm
  unfold valueAt at h
  rw [Option.map_eq_none_iff, List.find?_eq_none] at h
  exact h a ha (by simp [e])
section
variable {prog : Program} {w : World} {A : Around} {E : Value → Shared → Prop} {s : Shared} {h₀ : Heap} {L d : Addr} {m : Str → Option Value} {news : List (Addr × Obj)} {g : Obj → List (Addr × Obj)} {o : Obj} {kvs : List (Int × Value)} {k : Int} {t : Tok}
theorem pop_any {Q : Value → Shared → Prop} (F : Fr h₀ L s.heap m) (N : News h₀ L s.heap news) (U : UpdF d o news g) (hd : o.IsDictOf (intKind prog w) kvs) (lo : (d == sysModules) = false) (hsz : kvs.length ≤ sizeLine)
    (h : ∀ h' o' v, Fr h₀ L h' m → News h₀ L h' (g o') → o'.IsDictOf (intKind prog w) (without kvs k) → Q v { s with heap := h', toks := s.toks + 1 }) :
    wpAny (model prog w) A (call (.builtin "dict.pop") [.ref d, .int k t, .none]) Q E s := by
  cases hv : valueAt kvs k with
  | some v => exact kob_pop (more := [.none]) F N U hd (intKind_is _ _ _ _) (.inr ⟨_, rfl⟩) rfl (PySem.F.args_dict_pop_3 _ _ _) hv hsz fun h' o' F' N' hd' => h h' o' v F' N' hd'
  | none =>
    obtain ⟨pre, post, rfl, hg, a, b⟩ := U.split
    have hm := N (d, o) (List.mem_append_right _ (.head _))
    have hD : s.heap.DictOf (intKind prog w) d kvs := Heap.dictOf_iff.mpr ⟨o, hm.1, hd⟩
    refine call_meetsIn PySem.F.slot_dict_pop hD.typeIs PySem.F.entry_dict_pop (PySem.F.args_dict_pop_3 _ _ _) (meets_dict_pop_default (intKind prog w) d (intKind_is _ _ _ _) lo rfl .none) ⟨kvs, hD, hv, ?_⟩
    exact h s.heap o .none F (hg o ▸ N) (by rw [without_of_not_mem _ _ (not_mem_of_none hv)]; exact hd)
end
theorem All2.comp {α β γ : Type} {R : α → β → Prop} {S : β → γ → Prop} {T : α → γ → Prop} (h : ∀ a b c, R a b → S b c → T a c) : ∀ {a b c}, All2 R a b → All2 S b c → All2 T a c
 := by
  intro a b c x
  induction x generalizing c with
  | nil => intro y; cases y; exact .nil
  | cons r _ ih => intro y; cases y with | cons s y => exact .cons (h _ _ _ r s) (ih y)
theorem All2.imp {α β : Type} {R S : α → β → Prop} (h : ∀ a b, R a b → S a b) : ∀ {a b}, All2 R a b → All2 S a b
 := by
  intro a b x
  induction x with
  | nil => exact .nil
  | cons r _ ih => exact .cons (h _ _ r) ih
theorem All2.self {α : Type} {R : α → α → Prop} : ∀ {l : List α}, (∀ a ∈ l, R a a) → All2 R l l
  | [], _ => .nil
  | a :: _, h => .cons (h a (.head _)) (All2.self fun b hb => h b (.tail _ hb))
theorem All2.right {α β : Type} {R : α → β → Prop} {P : β → Prop} (h : ∀ a b, R a b → P b) : ∀ {l l'}, All2 R l l' → ∀ b ∈ l', P b
 := by
  intro l l' x
  induction x with
  | nil => exact fun b hb => nomatch hb
  | cons r _ ih => exact List.forall_mem_cons.mpr ⟨h _ _ r, ih⟩
theorem All2.right2 {α β : Type} {R : α → β → Prop} {P : α → Prop} {Q : β → Prop} (h : ∀ a b, P a → R a b → Q b) : ∀ {l l'}, All2 R l l' → (∀ a ∈ l, P a) → ∀ b ∈ l', Q b
 := by
  intro l l' x
  induction x with
  | nil => exact fun _ b hb => nomatch hb
  | cons r _ ih => exact fun hp => List.forall_mem_cons.mpr ⟨h _ _ (hp _ (.head _)) r, ih fun a ha => hp a (.tail _ ha)⟩
noncomputable abbrev SameA (a b : SpG) : Prop := b.x = a.x ∧ b.dx = a.dx ∧ b.pg = a.pg
theorem ok_sps {w : World} {ch : ChG} {sps' : List SpG} (ok : ch.Ok w) (h : All2 SameA ch.sps sps') (hok : ∀ sp ∈ sps', sp.Ok w) : ChG.Ok w { ch with sps := sps' } :=
  ⟨ok.dict, ok.nm, ok.small, ok.vals, ok.fvals, ok.flen, by
    have := ok.nodup
    unfold ChG.as at this ⊢
    simp only
    rw [(spsA_of h).1]; exact this, hok⟩
noncomputable def rdV (ch : ChG) (q : Int) : Value := match valueAt ch.kvs q with
  | some v => v
  | none => (ch.first[(q - 1).toNat]?).getD .none
structure Rd (ch : ChG) (q : Int) : Prop where
  pos : 1 ≤ q
  top : q < 2 ^ 60
  there : valueAt ch.kvs q ≠ none ∨ (q - 1).toNat < ch.first.length
theorem rd_of {w : World} {ch : ChG} (ok : ch.Ok w) {q : Int} (r : Rd ch q) : ∃ bs vt, rdV ch q = .bytes bs vt ∧ ((valueAt ch.kvs q = none ∧ ch.first[(q - 1).toNat]? = some (.bytes bs vt)) ∨ valueAt ch.kvs q = some (.bytes bs vt)) := by
  unfold rdV
  cases hv : valueAt ch.kvs q with
  | some v =>
    obtain ⟨bs, t, rfl⟩ := ok.vals _ _ hv
    exact ⟨bs, t, rfl, .inr rfl⟩
  | none =>
    have hlt := r.there.resolve_left (fun h => h hv)
    obtain ⟨bs, t, e⟩ := ok.fvals _ (List.getElem_mem hlt)
    refine ⟨bs, t, ?_, .inl ⟨rfl, ?_⟩⟩
    · show (ch.first[(q - 1).toNat]?).getD .none = _
      rw [List.getElem?_eq_getElem hlt, e]; rfl
    · rw [List.getElem?_eq_getElem hlt, e]
/-- a savepoint behind the pages lo + 1 .. lo + i were kept -/
structure KeptR (w : World) (rd : Int → Value) (lo : Int) (i : Nat) (sp sp' : SpG) : Prop where
  same : SameA sp sp'
  c : sp'.c = sp.c
  ok : sp'.Ok w
  len : sp'.kvs.length ≤ sp.kvs.length + i
  val : ∀ q, valueAt sp'.kvs q = if valueAt sp.kvs q = none ∧ lo < q ∧ q ≤ lo + i ∧ q ≤ sp.c then some (rd q) else valueAt sp.kvs q
theorem keptR_zero {w : World} {rd : Int → Value} {lo : Int} {sp : SpG} (ok : sp.Ok w) : KeptR w rd lo 0 sp sp :=
  ⟨⟨rfl, rfl, rfl⟩, rfl, ok, Nat.le_refl _, fun q => by rw [if_neg]; rintro ⟨_, a, b, _⟩; simp at b; omega⟩
theorem kept_rng {lo q c : Int} {i : Nat} {P : Prop} (hq : q ≠ lo + 1 + i) : (P ∧ lo < q ∧ q ≤ lo + (i : Int) ∧ q ≤ c) ↔ (P ∧ lo < q ∧ q ≤ lo + ((i + 1 : Nat) : Int) ∧ q ≤ c) :=
  ⟨fun ⟨a, b, d, e⟩ => ⟨a, b, by omega, e⟩, fun ⟨a, b, d, e⟩ => ⟨a, b, by omega, e⟩⟩
theorem keptR_step {w : World} {rd : Int → Value} {lo : Int} {i : Nat} {a b c : SpG} (h : KeptR w rd lo i a b) (k : KeptOne w (lo + 1 + i) (rd (lo + 1 + i)) b c) : KeptR w rd lo (i + 1) a c := by
  refine ⟨⟨k.same.1.trans h.same.1, k.same.2.1.trans h.same.2.1, k.same.2.2.1.trans h.same.2.2⟩, k.same.2.2.2.trans h.c, k.ok, ?_, fun q => ?_⟩
  · rw [k.kvs]
    split
    · exact Nat.le_trans stored_length (Nat.succ_le_succ h.len)
    · exact Nat.le_succ_of_le h.len
  · have e1 : ∀ q, q ≠ lo + 1 + i → valueAt b.kvs q = if valueAt a.kvs q = none ∧ lo < q ∧ q ≤ lo + ((i + 1 : Nat) : Int) ∧ q ≤ a.c then some (rd q) else valueAt a.kvs q := fun q hq => by
      rw [h.val]
      exact ite_congr (propext (kept_rng hq)) (fun _ => rfl) fun _ => rfl
    have e2 : valueAt b.kvs (lo + 1 + i) = valueAt a.kvs (lo + 1 + i) := by
      rw [h.val, if_neg]
      exact fun z => absurd z.2.2.1 (by omega)
    rw [k.kvs]
    by_cases hq : q = lo + 1 + i
    · by_cases hc : lo + 1 + i ≤ b.c ∧ valueAt b.kvs (lo + 1 + i) = none
      · rw [if_pos hc, valueAt_stored, if_pos hq, hq, if_pos ⟨e2 ▸ hc.2, by omega, by omega, h.c ▸ hc.1⟩]
      · rw [if_neg hc, hq, e2, if_neg (fun z => hc ⟨h.c.symm ▸ z.2.2.2, e2.trans z.1⟩)]
    · split
      · rw [valueAt_stored, if_neg hq, e1 q hq]
      · exact e1 q hq
end SD5
section SM13
theorem rules_M13_1 : True := by
  k_with_none
  (k_with "call builtin:dict.pop" => (k_here; k_dflt (refine pop_any (by k_asm) (by k_asm) (by k_updF) (by k_asm) (by k_asm) (by (rw [sizeLine_eq]; omega)) ?_; intro h' o' v' F' N' hd'; (try dsimp only at N')); revert h' o' v' F' N' hd'; intro _ _ _ _ _ _))
  trivial
theorem all2_same {w : World} {rd : Int → Value} {lo : Int} {i : Nat} {a b : List SpG} (h : All2 (KeptR w rd lo i) a b) : All2 SameA a b := h.imp fun _ _ r => r.same
theorem keptR_all {w : World} {rd : Int → Value} {lo : Int} {i : Nat} {a b c : List SpG} (h : All2 (KeptR w rd lo i) a b) (k : All2 (KeptOne w (lo + 1 + i) (rd (lo + 1 + i))) b c) : All2 (KeptR w rd lo (i + 1)) a c := All2.comp (R := KeptR w rd lo i) (S := KeptOne w (lo + 1 + i) (rd (lo + 1 + i))) (T := KeptR w rd lo (i + 1)) (fun _ _ _ r k => keptR_step r k) h k
structure Popped (w : World) (kvs0 : List (Int × Value)) (lo : Int) (i : Nat) (z : Obj × List (Int × Value)) : Prop where
  dict : z.1.IsDictOf (intKind PySem.Challenge.rw_nt0093_01.row.prog w) z.2
  len : z.2.length ≤ kvs0.length
  val : ∀ q, valueAt z.2 q = if lo < q ∧ q ≤ lo + i then none else valueAt kvs0 q
theorem popped_zero {w : World} {kvs0 : List (Int × Value)} {lo : Int} {o : Obj} (h : o.IsDictOf (intKind PySem.Challenge.rw_nt0093_01.row.prog w) kvs0) : Popped w kvs0 lo 0 (o, kvs0) :=
  ⟨h, Nat.le_refl _, fun q => by rw [if_neg]; rintro ⟨x, y⟩; exact absurd (Int.lt_of_lt_of_le x (by simpa using y)) (Int.lt_irrefl _)⟩
theorem popped_step {w : World} {kvs0 : List (Int × Value)} {lo : Int} {i : Nat} {z : Obj × List (Int × Value)} {o : Obj} (h : Popped w kvs0 lo i z) (hd : o.IsDictOf (intKind PySem.Challenge.rw_nt0093_01.row.prog w) (without z.2 (lo + 1 + i))) : Popped w kvs0 lo (i + 1) (o, without z.2 (lo + 1 + i)) := by
  refine ⟨hd, Nat.le_trans without_length h.len, fun q => ?_⟩
  rw [valueAt_without, h.val]
  have hi : (if q = lo + 1 + i then true else decide (lo < q ∧ q ≤ lo + i)) = decide (lo < q ∧ q ≤ lo + ((i + 1 : Nat) : Int)) := by
    push_cast
    split
    · rw [decide_eq_true (by omega)]
    · exact decide_eq_decide.mpr (by omega)
  by_cases hq : q = lo + 1 + i
  · rw [if_pos hq] at hi ⊢
    rw [if_pos (of_decide_eq_true hi.symm)]
  · rw [if_neg hq] at hi ⊢
    have hi := decide_eq_decide.mp hi
    by_cases hc : lo < q ∧ q ≤ lo + i
    · rw [if_pos hc, if_pos (hi.mp hc)]
    · rw [if_neg hc, if_neg (fun z => hc (hi.mpr z))]
theorem popped_end {w : World} {kvs0 : List (Int × Value)} {lo hi : Int} {z : Obj × List (Int × Value)} (h : Popped w kvs0 lo (hi + 1 - (lo + 1)).toNat z) (q : Int) : valueAt z.2 q = if lo < q ∧ q ≤ hi then none else valueAt kvs0 q := by
  rw [h.val]
  have e : (lo < q ∧ q ≤ lo + (((hi + 1 - (lo + 1)).toNat : Nat) : Int)) ↔ (lo < q ∧ q ≤ hi) := by omega
  by_cases hc : lo < q ∧ q ≤ hi
  · rw [if_pos hc, if_pos (e.mpr hc)]
  · rw [if_neg hc, if_neg (fun z => hc (e.mp z))]
theorem pop_off {x dx pg I : Nat} {ox od o1 o2 : Obj} {R : List (Addr × Obj)} (h : ∀ p ∈ ((x, ox) : Addr × Obj) :: (dx, od) :: (pg, o1) :: R, p.1 ≠ I) : ∀ p ∈ ((x, ox) : Addr × Obj) :: (dx, od) :: (pg, o2) :: R, p.1 ≠ I := by
  rw [List.forall_mem_cons, List.forall_mem_cons, List.forall_mem_cons] at h ⊢
  exact h
theorem step_one {g h h' : Heap} {L I : Addr} {io : Obj} {m : Str → Option Value} {foot foot' : List (Addr × Obj)} (F : Fr g L h m) (N : News g L h ((I, io) :: foot)) (hI : ∀ p ∈ foot, p.1 ≠ I) (T : Step g foot foot' h h') : Fr g L h' m ∧ News g L h' ((I, io) :: foot') ∧ ∀ p ∈ foot', p.1 ≠ I := by
  have hf : ∀ p ∈ foot, p ∈ (I, io) :: foot := fun p hp => .tail _ hp
  have hn : I ∉ foot.map (·.1) := fun q => by
    obtain ⟨p, hp, e⟩ := List.mem_map.mp q
    exact hI p hp e
  refine ⟨after_fr F N hf T, news_sub (after_news (rest := [(I, io)]) F N hf (fun p hp => (List.mem_singleton.mp hp).symm ▸ .head _) (fun p hp => (List.mem_singleton.mp hp).symm ▸ hn) T) fun p hp => ?_, fun p hp e => ?_⟩
  · exact (List.mem_cons.mp hp).elim (fun e => List.mem_append_right _ (e ▸ .head _)) fun hp => List.mem_append_left _ hp
  · rcases T.new p hp with q | q
    · exact hn (e ▸ q)
    · rw [e, (N _ (.head _)).1] at q; cases q
theorem cut_pre {w : World} {ch : ChG} {z : List SpG} {c : Int} {i : Nat} {G : Prop} (ok : ch.Ok w) (h3 : ch.c ≤ 100) (hrd : ∀ q, c < q → q ≤ ch.c → Rd ch q) (hsm : ∀ sp ∈ ch.sps, sp.kvs.length ≤ 500) (hi : i < (ch.c + 1 - (c + 1)).toNat) (ha : All2 (KeptR w (rdV ch) c i) ch.sps z)
    (k : ∀ bs vt, rdV ch (c + 1 + i) = .bytes bs vt → ChG.Ok w { ch with sps := z } → 1 ≤ c + 1 + i → c + 1 + i < 2 ^ 60 → ((valueAt ch.kvs (c + 1 + i) = none ∧ ch.first[(c + 1 + i - 1).toNat]? = some (.bytes bs vt)) ∨ valueAt ch.kvs (c + 1 + i) = some (.bytes bs vt)) → (∀ sp ∈ z, sp.kvs.length ≤ 900) → G) : G := by
  have hr := hrd (c + 1 + (i : Int)) (by omega) (by omega)
  obtain ⟨bs, vt, hv1, hv2⟩ := rd_of ok hr
  refine k bs vt hv1 (ok_sps ok (all2_same ha) (All2.right (fun _ _ r => r.ok) ha)) hr.pos hr.top hv2 ?_
  have := hrd (c + 1) (by omega) (by omega)
  have hp := this.pos
  exact All2.right2 (P := fun sp => sp.kvs.length ≤ 500) (fun a b ha r => by have := r.len; omega) ha hsm
theorem cut_spec {w : World} {mean : ExcName → Option Value} {mg mb : Str → Option Value} {b : Heap} (S : Sta w mean mg mb b) {dep un : Nat} {fr : Option (List Env)} {gs : Option (List Code)} (hroom : dep + 4 < recursionLimit) {s : Shared} (hb : b.StaysIn s.heap)
    {ch : ChG} (hs : Own b s.heap (ch.l w.params)) (ok : ch.Ok w) {c : Int} {ct : Nat} (h1 : 0 ≤ c) (h2 : c ≤ ch.c) (h3 : ch.c ≤ 100) (hrd : ∀ q, c < q → q ≤ ch.c → Rd ch q) (hsm : ∀ sp ∈ ch.sps, sp.kvs.length ≤ 500) (hsm2 : ch.kvs.length ≤ 900) {R : Result → Shared → Prop}
    (h : ∀ h' sps' po' kvs' tk, Step b (ch.l w.params) (ChG.l w.params { ch with sps := sps', po := po', kvs := kvs', c := c, ct := ct }) s.heap h' → po'.IsDictOf (intKind PySem.Challenge.rw_nt0093_01.row.prog w) kvs' → All2 (KeptR w (rdV ch) c (ch.c - c).toNat) ch.sps sps' → kvs'.length ≤ ch.kvs.length → (∀ q, valueAt kvs' q = if c < q ∧ q ≤ ch.c then none else valueAt ch.kvs q) → R (.ok (.ret .none)) { s with heap := h', toks := tk }) :
    codeAny (model PySem.Challenge.rw_nt0093_01.row.prog w) (⟨none, dep, fr, gs, un⟩ : Around) (.call (.ref 159) ⟨[.ref ch.x, .int c ct], []⟩) R s := by
  refine' call_footQ (K := head.heap_39 w.params) S hb hs ?k1 S.X ?k2 (by (first | assumption | exact room_le hroom (by decide) | exact room_1 hroom (by decide) | exact room_0 hroom | ((try simp only [Around.deeper, Around.in1]); first | exact room_le hroom (by decide) | exact room_1 hroom (by decide) | exact room_0 hroom | omega))) ?k3 ?k4 ?_ ?c1 ?c2 ?c3 ?c4
  case k1 => k_is
  case k2 => k_is
  case k3 => first | exact BindsTo.of_eq rfl | exact binds_K (S.X.keeps hb) rfl (by k_is) rfl rfl rfl
  case k4 => exact locs rfl
  case c1 => exact rfl
  case c2 => exact rfl
  case c3 => exact rfl
  case c4 => decide
  intro Q9 g L' h₁ hQ hg hL F N S'
  have hbg := stays_of S hb hs hg
  have X := S'.X
  have T := S'.T
  dsimp only
  have N1 : News g L' h₁ ((ch.x, instObj 191 ch.dx) :: (ch.dx, chD w.params (.ref ch.st) (.int ch.c ch.ct) (.ref ch.pg) (.ref ch.sv) ch.t1 ch.t2 ch.t3 ch.t4) :: (ch.pg, ch.po) :: popR w.params ch) := N
  clear N
  repeat' (first | ((fail_if_success (with_reducible show wpAny _ _ (pyIter _) _ _ _)); first | (k_unfold; (try dsimp only)) | walk1 | (dsimp only; walk1)))
  try (with_reducible refine hQ _ _ ?_); try dsimp only
  rename Fr _ _ _ _ => F2
  rename News _ _ _ _ => N2
  rename IsRange _ _ _ _ _ _ _ _ => hr2
  refine range_loop (fun z => ChG.l w.params { ch with sps := z }) (fun _ => [(Str.ofString "self", .ref ch.x), (Str.ofString "count", .int c ct)]) (fun i z => All2 (KeptR w (rdV ch) c i) ch.sps z) ch.sps rfl hr2 (by omega) (by omega) F2 N2 (All2.self fun sp hsp => keptR_zero (ok.sps sp hsp)) ?ag ?_ ?_
  case ag => exact ⟨rfl, rfl, trivial⟩
  · intro I io i vt4 z hi ha hI m h4 tk4 Qt F4 N4 hk
    clear hr2 F2 N2 h hQ
    refine cut_pre ok h3 hrd hsm hi ha fun bs vt hv1 ok1 hp1 hp2 hv2 hsm1 => ?_
    have N5 : News g L' h4 ((I, io) :: (ch.x, instObj 191 ch.dx) :: (ch.dx, chD w.params (.ref ch.st) (.int ch.c ch.ct) (.ref ch.pg) (.ref ch.sv) ch.t1 ch.t2 ch.t3 ch.t4) :: (ch.pg, ch.po) :: popR w.params { ch with sps := z }) := N4
    clear h1 h2 h3 hi hrd hsm hsm2
    dsimp only [fm] at F4
    k_steps
    refine wpAny_call ?_
    refine' keep_spec (ch := { ch with sps := z }) S' ?r ?k ?o ok1 hp1 hp2 hv2 hsm1 ?_
    case r => (first | assumption | exact room_le hroom (by decide) | exact room_1 hroom (by decide) | exact room_0 hroom | ((try simp only [Around.deeper, Around.in1]); first | exact room_le hroom (by decide) | exact room_1 hroom (by decide) | exact room_0 hroom | omega))
    case k => exact F4.keep
    case o => exact own_of_news N4 (fun p hp => .tail _ hp)
    intro h5 sps5 tk5 T5 A5
    have X5 := step_one F4 N4 hI T5
    dsimp only
    k_steps
    exact hk _ _ sps5 _ X5.1 ⟨rfl, rfl, trivial⟩ X5.2.1 (keptR_all ha (hv1 ▸ A5)) X5.2.2
  · intro z m h4 tk4 ha F4 N4
    clear hr2 F2 N2
    have AT := l_offz (P := w.params) (ok_sps ok (all2_same ha) (All2.right (fun _ _ r => r.ok) ha)).nodup
    have N5 : News g L' h4 ((ch.x, instObj 191 ch.dx) :: (ch.dx, chD w.params (.ref ch.st) (.int ch.c ch.ct) (.ref ch.pg) (.ref ch.sv) ch.t1 ch.t2 ch.t3 ch.t4) :: (ch.pg, ch.po) :: popR w.params { ch with sps := z }) := N4
    clear N4
    obtain ⟨R9, hR9⟩ : ∃ R9, R9 = popR w.params { ch with sps := z } := ⟨_, rfl⟩
    rw [← hR9] at N5 AT
    dsimp only [fm] at F4 ⊢
    repeat' (first | ((fail_if_success (with_reducible show wpAny _ _ (pyIter _) _ _ _)); first | (k_unfold; (try dsimp only)) | walk1 | (dsimp only; walk1)))
    try (with_reducible refine hQ _ _ ?_); try dsimp only
    rename Fr _ _ _ _ => F2
    rename News _ _ _ _ => N2
    rename IsRange _ _ _ _ _ _ _ _ => hr2
    refine range_loop (fun y : Obj × List (Int × Value) => (ch.x, instObj 191 ch.dx) :: (ch.dx, chD w.params (.ref ch.st) (.int ch.c ch.ct) (.ref ch.pg) (.ref ch.sv) ch.t1 ch.t2 ch.t3 ch.t4) :: (ch.pg, y.1) :: R9) (fun _ => [(Str.ofString "self", .ref ch.x), (Str.ofString "count", .int c ct)]) (Popped w ch.kvs c) (ch.po, ch.kvs) rfl hr2 (by omega) (by omega) F2 N2 (popped_zero ok.dict) ?ag ?_ ?_
    case ag => exact ⟨rfl, rfl, trivial⟩
    · intro I io i vt4 y hi hy hI m h4 tk4 Qt F4 N4 hk
      clear hr2 F2 N2 h hQ
      have x1 := AT.1.2.1
      have x2 := AT.1.2.2
      have x3 := AT.2.2.2
      have x4 : @Ne Nat ch.pg I := hI (ch.pg, y.1) (.tail _ (.tail _ (.head _)))
      have hd1 := hy.dict
      have hl1 := hy.len
      have hnm := ok.nm
      dsimp only [fm] at F4 N4
      k_steps
      try (with_reducible refine hQ _ _ ?_); try dsimp only
      rename Fr _ _ _ _ => F2
      rename News _ _ _ _ => N2
      rename Obj => o9
      rename Obj.IsDictOf _ o9 _ => hd9
      exact hk _ _ (o9, without y.2 (c + 1 + i)) _ F2 ⟨rfl, rfl, trivial⟩ N2 (popped_step hy hd9) (pop_off hI)
    · intro y m h4 tk4 hy F4 N4
      clear hr2 F2 N2
      have x1 := AT.1.1
      have x2 := AT.1.2.2
      have x3 := AT.2.2.1
      dsimp only [fm] at F4 ⊢
      k_steps
      try (with_reducible refine hQ _ _ ?_); try dsimp only
      rename Fr _ _ _ _ => F2
      rename News _ _ _ _ => N2
      rw [hR9] at N2
      rw [show (ch.c + 1 - (c + 1)).toNat = (ch.c - c).toNat from by omega] at ha
      exact h _ z y.1 y.2 _ (step_of hg hbg F2 N2 (fun p hp => hp)) hy.dict ha hy.len (popped_end hy)
end SM13
section SD6
theorem norules_D6 : True := by
  k_with_none
  trivial
theorem mem_keys {kvs : List (Int × Value)} {k : Int} : k ∈ kvs.map (·.1) ↔ valueAt kvs k ≠ none := by
  constructor
  · intro h e
    exact not_mem_of_none e h
  · intro h
    unfold valueAt at h
    cases hf : kvs.find? fun kv => decide (kv.1 = k) with
    | none => rw [hf] at h; exact absurd rfl h
    | some p =>
      have h1 := List.find?_some hf
      have h2 := List.mem_of_find?_eq_some hf
      exact List.mem_map.mpr ⟨p, h2, of_decide_eq_true h1⟩
theorem intsAre_of {vs : List Value} {ks : List Int} (hl : vs.length = ks.length) (h : ∀ (j : Nat) u, vs[j]? = some u → ∃ k t, ks[j]? = some k ∧ u = .int k t) : IntsAre vs ks := by
  induction vs generalizing ks with
  | nil => cases ks with
    | nil => exact .nil
    | cons a r => simp at hl
  | cons v r ih =>
    cases ks with
    | nil => simp at hl
    | cons k t =>
      obtain ⟨k', u, e1, e2⟩ := h 0 v rfl
      simp at e1
      subst e1
      rw [e2]
      refine .cons _ _ (ih (by simpa using hl) fun j u hu => ?_)
      exact h (j + 1) u hu
section
variable {prog : Program} {w : World} {A : Around} {E : Value → Shared → Prop} {s : Shared} {h₀ : Heap} {L d : Addr} {m : Str → Option Value} {news : List (Addr × Obj)} {o : Obj} {kvs : List (Int × Value)} {Q : Value → Shared → Prop}
theorem sorted_dict (hh : A.handled = none) (F : Fr h₀ L s.heap m) (N : News h₀ L s.heap news) (hp : (d, o) ∈ news) (hd : o.IsDictOf (intKind prog w) kvs) (lo : (d == sysModules) = false) (h64 : kvs.length < 64)
    (h : ∀ (D : Addr) vs ns e h' tk, Fr h₀ L h' m → News h₀ L h' ((D, listOf (List.toArray vs) e) :: news) → (∀ q ∈ news, q.1 < D) → IntsAre vs ns → (∀ k, k ∈ ns ↔ valueAt kvs k ≠ none) → ns.length = kvs.length → Q (.ref D) { s with heap := h', toks := tk }) :
    wpAny (model prog w) A (call (.builtin "sorted") [.ref d]) Q E s := by
  obtain ⟨es, ep, hd2⟩ := hd
  have hat : s.heap.DictAt (intKind prog w) d kvs ep := ⟨o, es, (N _ hp).1, hd2⟩
  refine kdu_sorted (kdl_dict (knd := intKind prog w) (kvs := kvs) (ep := ep) lo) hh F N hat (kdl_size (by omega)) fun B h' tk vs F' N' l1 hl hv => ?_
  have hi : IntsAre vs (kvs.map (·.1)) := intsAre_of (by rw [hl, List.length_map]) fun j u hu => by
    obtain ⟨k, x, hx, hk⟩ := hv j u hu
    obtain ⟨t, rfl⟩ := Value.isInt_shape hk
    exact ⟨k, t, by rw [List.getElem?_map, hx]; rfl, rfl⟩
  have hB := N' (B, listOf vs.toArray 0) (.head _)
  refine wpAny_call_entry PyProof.Rows.slot_list_sort ⟨_, hB.1, rfl⟩ PyProof.Rows.entry_list_sort (list_sort_tree (s := { s with heap := h', toks := tk }) (n := 0) (vs := vs) hB.1 hi (by omega) fun out ns' hI hpm hP => ⟨.none, rfl, ?_⟩) (PyProof.Rows.args_list_sort _)
  obtain ⟨e, he⟩ := sortedHeap_at (out := out) hB.1
  have hB1 : ({ s with heap := h', toks := tk } : Shared).heap.get? B = some (listOf vs.toArray 0) := hB.1
  have old : ∀ b o', h'.get? b = some o' → b ≠ B → (sortedHeap h' B vs out).get? b = some o' := fun b o' e hb => by
    rw [sortedHeap_old hb (Heap.lt_size e)]; exact e
  have F'' : Fr h₀ L (sortedHeap h' B vs out) m := ⟨by
    obtain ⟨oL, es, ep, hL, r⟩ := F'.ns
    exact ⟨oL, es, ep, old _ _ hL (fun q => hB.2.1 q.symm), r⟩, fun b o' e => old b o' (F'.keep b o' e) (fun q => by
      rw [q, hB.2.2] at e; cases e), F'.above⟩
  refine h B out.toList ns' e (sortedHeap h' B vs out) tk F'' (fun p hp => ?_) l1 hI (fun k => ?_) (by rw [hpm.length_eq, List.length_map])
  · rcases List.mem_cons.mp hp with rfl | hp
    · refine ⟨?_, hB.2⟩
      rw [Array.toArray_toList]; exact he
    · have hN := N' p (.tail _ hp)
      exact ⟨old _ _ hN.1 (Nat.ne_of_lt (l1 p hp)), hN.2⟩
  · rw [hpm.mem_iff]; exact mem_keys
end
end SD6
section SM14
theorem rules_M14_1 : True := by
  k_with_none
  (k_with "call builtin:dict.pop" => (k_here; k_dflt (refine pop_any (by k_asm) (by k_asm) (by k_updF) (by k_asm) (by k_asm) (by (rw [sizeLine_eq]; omega)) ?_; intro h' o' v' F' N' hd'; (try dsimp only at N')); revert h' o' v' F' N' hd'; intro _ _ _ _ _ _))
  (k_with "setItem ref int" => (k_here; k_dflt (refine kda_set (knd := PySem.intKind _ _) (by k_asm) (by k_asm) (by k_updF) (by k_asm) (by exact intKind_is _ _ _ _) (by (rw [sizeLine_eq]; omega)) ?_; intro h' o' F' N' hd'; (try dsimp only at N')); revert h' o' F' N' hd'; intro _ _ _ _ _))
  (k_with "getItem ref int" => (refine wpAny_getItem_of (knd := PySem.intKind _ _) (intKind_is _ _ _ _) (kda_dict (by k_asm) (by k_mem) (by with_reducible assumption)).mapOf (by with_reducible assumption) ?_))
  trivial
/-- the ledger of a rollback behind the parts that change -/
noncomputable def rbR (P : Params) (ch : ChG) (its : List Value) (n : Nat) (pre : List SpG) : List (Addr × Obj) := (ch.st, instObj 91 ch.sd) :: (ch.sd, plD P (.ref ch.sl) ch.tp) :: (ch.sl, listOf ch.first.toArray ch.ln) :: (ch.sv, listOf its.toArray n) :: spsL P pre
theorem rb_mem1 {P : Params} {ch : ChG} {sp : SpG} {pre post : List SpG} {its : List Value} {n : Nat} (e : ch.sps = pre ++ sp :: post) :
    ∀ p ∈ (ch.x, instObj 191 ch.dx) :: (ch.dx, chD P (.ref ch.st) (.int ch.c ch.ct) (.ref ch.pg) (.ref ch.sv) ch.t1 ch.t2 ch.t3 ch.t4) :: (ch.pg, ch.po) :: (sp.x, instObj 63 sp.dx) :: (sp.dx, spD P (.int sp.c sp.ct) (.ref sp.pg) sp.t1 sp.t2) :: (sp.pg, sp.o) :: rbR P ch its n pre,
      p ∈ (ch.x, instObj 191 ch.dx) :: (ch.dx, chD P (.ref ch.st) (.int ch.c ch.ct) (.ref ch.pg) (.ref ch.sv) ch.t1 ch.t2 ch.t3 ch.t4) :: (ch.sv, listOf its.toArray n) :: begR P ch := by
  have hs : ∀ p ∈ spsL P ch.sps, p ∈ begR P ch := fun p hp => .tail _ (.tail _ (.tail _ (.tail _ hp)))
  have hp : ∀ p ∈ SpG.l P sp, p ∈ spsL P ch.sps := fun p hp => by
    rw [e, spsL_append]
    exact List.mem_append_right _ (List.mem_append_left _ hp)
  refine List.forall_mem_cons.mpr ⟨.head _, List.forall_mem_cons.mpr ⟨.tail _ (.head _), List.forall_mem_cons.mpr ⟨.tail _ (.tail _ (.tail _ (.head _))), ?_⟩⟩⟩
  refine List.forall_mem_cons.mpr ⟨.tail _ (.tail _ (.tail _ (hs _ (hp _ (.head _))))), List.forall_mem_cons.mpr ⟨.tail _ (.tail _ (.tail _ (hs _ (hp _ (.tail _ (.head _)))))), List.forall_mem_cons.mpr ⟨.tail _ (.tail _ (.tail _ (hs _ (hp _ (.tail _ (.tail _ (.head _))))))), ?_⟩⟩⟩
  refine List.forall_mem_cons.mpr ⟨.tail _ (.tail _ (.tail _ (.tail _ (.head _)))), List.forall_mem_cons.mpr ⟨.tail _ (.tail _ (.tail _ (.tail _ (.tail _ (.head _))))), List.forall_mem_cons.mpr ⟨.tail _ (.tail _ (.tail _ (.tail _ (.tail _ (.tail _ (.head _)))))), List.forall_mem_cons.mpr ⟨.tail _ (.tail _ (.head _)), fun p h => ?_⟩⟩⟩⟩
  refine .tail _ (.tail _ (.tail _ (hs _ ?_)))
  rw [e, spsL_append]
  exact List.mem_append_left _ h
theorem rb_nd {P : Params} {ch : ChG} {sp : SpG} {pre post : List SpG} {its : List Value} {n : Nat} (e : ch.sps = pre ++ sp :: post) (h : ch.as.Nodup) : (ch.x :: ch.dx :: ch.pg :: sp.x :: sp.dx :: sp.pg :: (rbR P ch its n pre).map (·.1)).Nodup := by
  unfold ChG.as at h
  rw [e, spsA_append] at h
  have h : ([ch.x, ch.dx, ch.pg] ++ (([ch.st, ch.sd, ch.sl, ch.sv] ++ spsA pre) ++ ([sp.x, sp.dx, sp.pg] ++ spsA post))).Nodup := by
    rw [List.append_assoc]; exact h
  have h := List.Sublist.nodup ((List.Sublist.refl _).append ((List.Sublist.refl _).append (List.sublist_append_left _ _))) h
  have h := (List.Perm.append_left _ List.perm_append_comm).nodup_iff.mp h
  rw [← spsL_as P] at h
  exact h
structure RbOff (ch : ChG) (sp : SpG) (R : List (Addr × Obj)) : Prop where
  x_dx : @Ne Nat ch.x ch.dx
  x_pg : @Ne Nat ch.x ch.pg
  dx_pg : @Ne Nat ch.dx ch.pg
  sx_dx : @Ne Nat sp.x ch.dx
  sd_dx : @Ne Nat sp.dx ch.dx
  sp_dx : @Ne Nat sp.pg ch.dx
  sx_pg : @Ne Nat sp.x ch.pg
  sd_pg : @Ne Nat sp.dx ch.pg
  sp_pg : @Ne Nat sp.pg ch.pg
  x_sd : @Ne Nat ch.x sp.dx
  sx_sd : @Ne Nat sp.x sp.dx
  sp_sd : @Ne Nat sp.pg sp.dx
  rdx : ∀ p ∈ R, p.1 ≠ ch.dx
  rpg : ∀ p ∈ R, p.1 ≠ ch.pg
  rsd : ∀ p ∈ R, p.1 ≠ sp.dx
theorem rb_off {ch : ChG} {sp : SpG} {R : List (Addr × Obj)} (h : (ch.x :: ch.dx :: ch.pg :: sp.x :: sp.dx :: sp.pg :: R.map (·.1)).Nodup) : RbOff ch sp R := by
  rw [List.nodup_cons, List.nodup_cons, List.nodup_cons, List.nodup_cons, List.nodup_cons] at h
  obtain ⟨h1, h2, h3, h4, h5, _⟩ := h
  exact ⟨fun e => h1 (e ▸ .head _), fun e => h1 (e ▸ .tail _ (.head _)), fun e => h2 (e ▸ .head _), fun e => h2 (e ▸ .tail _ (.head _)), fun e => h2 (e ▸ .tail _ (.tail _ (.head _))), fun e => h2 (e ▸ .tail _ (.tail _ (.tail _ (.head _)))),
    fun e => h3 (e ▸ .head _), fun e => h3 (e ▸ .tail _ (.head _)), fun e => h3 (e ▸ .tail _ (.tail _ (.head _))), fun e => h1 (e ▸ .tail _ (.tail _ (.tail _ (.head _)))), fun e => h4 (e ▸ .head _), fun e => h5 (e ▸ .head _),
    fun p hp e => h2 (e ▸ .tail _ (.tail _ (.tail _ (.tail _ (List.mem_map_of_mem hp))))), fun p hp e => h3 (e ▸ .tail _ (.tail _ (.tail _ (List.mem_map_of_mem hp)))), fun p hp e => h5 (e ▸ .tail _ (List.mem_map_of_mem hp))⟩
theorem mem_take_succ {l : List Int} {i : Nat} {k q : Int} (h : l[i]? = some k) : q ∈ l.take (i + 1) ↔ q ∈ l.take i ∨ q = k := by
  obtain ⟨_, _, e3⟩ := take_drop_at h
  rw [e3, List.mem_append, List.mem_singleton]
/-- the kept pages set back, i of them -/
structure SetB (w : World) (kvs1 kvs : List (Int × Value)) (ns : List Int) (n i : Nat) (z : Obj × List (Int × Value)) : Prop where
  dict : z.1.IsDictOf (intKind PySem.Challenge.rw_nt0093_01.row.prog w) z.2
  len : z.2.length ≤ n + i
  val : ∀ q, valueAt z.2 q = if q ∈ ns.take i then valueAt kvs q else valueAt kvs1 q
theorem setB_step {w : World} {kvs1 kvs : List (Int × Value)} {ns : List Int} {n i : Nat} {z : Obj × List (Int × Value)} {o : Obj} {k : Int} {u : Value} (h : SetB w kvs1 kvs ns n i z) (hk : ns[i]? = some k) (hu : valueAt kvs k = some u) (hd : o.IsDictOf (intKind PySem.Challenge.rw_nt0093_01.row.prog w) (stored z.2 k u)) : SetB w kvs1 kvs ns n (i + 1) (o, stored z.2 k u) := by
  refine ⟨hd, Nat.le_trans stored_length (Nat.succ_le_succ h.len), fun q => ?_⟩
  have hmt := mem_take_succ (q := q) hk
  rw [valueAt_stored, h.val]
  by_cases hq : q = k
  · rw [if_pos hq, if_pos (hmt.mpr (.inr hq)), hq, hu]
  · rw [if_neg hq]
    by_cases hc : q ∈ ns.take i
    · rw [if_pos hc, if_pos (hmt.mpr (.inl hc))]
    · rw [if_neg hc, if_neg (fun z => (hmt.mp z).elim hc hq)]
theorem setB_end {w : World} {kvs0 kvs1 kvs : List (Int × Value)} {ns : List Int} {n i : Nat} {z : Obj × List (Int × Value)} {lo hi : Int} (h : SetB w kvs1 kvs ns n i z) (hi2 : i = ns.length) (hmem : ∀ k, k ∈ ns ↔ valueAt kvs k ≠ none) (hp : ∀ q, valueAt kvs1 q = if lo < q ∧ q ≤ hi then none else valueAt kvs0 q) (q : Int) :
    valueAt z.2 q = if valueAt kvs q ≠ none then valueAt kvs q else if lo < q ∧ q ≤ hi then none else valueAt kvs0 q := by
  rw [h.val, hi2, List.take_length, ← hp]
  by_cases hc : q ∈ ns
  · rw [if_pos hc, if_pos ((hmem q).mp hc)]
  · rw [if_neg hc, if_neg (fun z => hc ((hmem q).mpr z))]
theorem set_off {D x dx pg I : Nat} {oD ox od o1 o2 : Obj} {R : List (Addr × Obj)} (h : ∀ p ∈ ((D, oD) : Addr × Obj) :: (x, ox) :: (dx, od) :: (pg, o1) :: R, p.1 ≠ I) : ∀ p ∈ ((D, oD) : Addr × Obj) :: (x, ox) :: (dx, od) :: (pg, o2) :: R, p.1 ≠ I := by
  rw [List.forall_mem_cons] at h ⊢
  exact ⟨h.1, pop_off h.2⟩
theorem rb_lt {P : Params} {ch : ChG} {sp : SpG} {pre : List SpG} {its : List Value} {n d : Nat} (l : ch.x < d ∧ ch.dx < d ∧ ch.pg < d ∧ sp.x < d ∧ sp.dx < d ∧ sp.pg < d ∧ AllLt d (rbR P ch its n pre)) : ∀ a ∈ ([ch.x, ch.dx, ch.pg, ch.st, ch.sd, ch.sl, ch.sv] ++ spsA pre) ++ (sp.x :: sp.dx :: sp.pg :: []), a < d := by
  obtain ⟨l1, l2, l3, l4, l5, l6, r1, r2, r3, r4, lr⟩ := l
  refine List.forall_mem_append.mpr ⟨List.forall_mem_append.mpr ⟨List.forall_mem_cons.mpr ⟨l1, List.forall_mem_cons.mpr ⟨l2, List.forall_mem_cons.mpr ⟨l3, List.forall_mem_cons.mpr ⟨r1, List.forall_mem_cons.mpr ⟨r2, List.forall_mem_cons.mpr ⟨r3, List.forall_mem_cons.mpr ⟨r4, List.forall_mem_nil _⟩⟩⟩⟩⟩⟩⟩, fun a ha => ?_⟩,
    List.forall_mem_cons.mpr ⟨l4, List.forall_mem_cons.mpr ⟨l5, List.forall_mem_cons.mpr ⟨l6, List.forall_mem_nil _⟩⟩⟩⟩
  rw [← spsL_as P] at ha
  obtain ⟨p, hp, rfl⟩ := List.mem_map.mp ha
  exact allLt_mem lr p hp
theorem rb_mem2 {P : Params} {ch : ChG} {sp : SpG} {pre : List SpG} {its : List Value} {n d3 : Nat} {po2 o5 : Obj} {kvs : List (Int × Value)} (e : svI (pre ++ [sp]) = its) :
    ∀ p ∈ ChG.l P { ch with c := sp.c, ct := sp.ct, po := po2, kvs := kvs, sn := n, sps := pre ++ [{ sp with pg := d3, o := o5, kvs := [] }] },
      p ∈ (d3, o5) :: (ch.x, instObj 191 ch.dx) :: (ch.dx, chD P (.ref ch.st) (.int sp.c sp.ct) (.ref ch.pg) (.ref ch.sv) ch.t1 ch.t2 ch.t3 ch.t4) :: (ch.pg, po2) :: (sp.x, instObj 63 sp.dx) :: (sp.dx, spD P (.int sp.c sp.ct) (.ref d3) sp.t1 sp.t2) :: (sp.pg, sp.o) :: rbR P ch its n pre := by
  have e : svI (pre ++ [{ sp with pg := d3, o := o5, kvs := [] }]) = its := by rw [← e, svI_append, svI_append]; rfl
  show ∀ p ∈ chTop P { ch with c := sp.c, ct := sp.ct, po := po2, kvs := kvs, sn := n, sps := pre ++ [{ sp with pg := d3, o := o5, kvs := [] }] } (svI (pre ++ [{ sp with pg := d3, o := o5, kvs := [] }])) ++ spsL P (pre ++ [{ sp with pg := d3, o := o5, kvs := [] }]), _
  rw [e, spsL_append]
  have r : ∀ p ∈ rbR P ch its n pre, p ∈ (d3, o5) :: (ch.x, instObj 191 ch.dx) :: (ch.dx, chD P (.ref ch.st) (.int sp.c sp.ct) (.ref ch.pg) (.ref ch.sv) ch.t1 ch.t2 ch.t3 ch.t4) :: (ch.pg, po2) :: (sp.x, instObj 63 sp.dx) :: (sp.dx, spD P (.int sp.c sp.ct) (.ref d3) sp.t1 sp.t2) :: (sp.pg, sp.o) :: rbR P ch its n pre :=
    fun p hp => .tail _ (.tail _ (.tail _ (.tail _ (.tail _ (.tail _ (.tail _ hp))))))
  refine List.forall_mem_append.mpr ⟨List.forall_mem_cons.mpr ⟨.tail _ (.head _), List.forall_mem_cons.mpr ⟨.tail _ (.tail _ (.head _)), List.forall_mem_cons.mpr ⟨.tail _ (.tail _ (.tail _ (.head _))), List.forall_mem_cons.mpr ⟨r _ (.head _), List.forall_mem_cons.mpr ⟨r _ (.tail _ (.head _)), List.forall_mem_cons.mpr ⟨r _ (.tail _ (.tail _ (.head _))), List.forall_mem_cons.mpr ⟨r _ (.tail _ (.tail _ (.tail _ (.head _)))), List.forall_mem_nil _⟩⟩⟩⟩⟩⟩⟩,
    List.forall_mem_append.mpr ⟨fun p hp => r p (.tail _ (.tail _ (.tail _ (.tail _ hp)))), List.forall_mem_cons.mpr ⟨.tail _ (.tail _ (.tail _ (.tail _ (.head _)))), List.forall_mem_cons.mpr ⟨.tail _ (.tail _ (.tail _ (.tail _ (.tail _ (.head _))))), List.forall_mem_cons.mpr ⟨.head _, List.forall_mem_nil _⟩⟩⟩⟩⟩
theorem rb_ok {P : Params} {w : World} {ch : ChG} {sp : SpG} {pre post : List SpG} {its : List Value} {n sn d3 : Nat} {po2 o5 : Obj} {kvs : List (Int × Value)} (ok : ch.Ok w) (e : ch.sps = pre ++ sp :: post) (hd : po2.IsDictOf (intKind PySem.Challenge.rw_nt0093_01.row.prog w) kvs) (hl : kvs.length ≤ 1000) (hd3 : o5.IsDictOf (intKind PySem.Challenge.rw_nt0093_01.row.prog w) []) (hn3 : (d3 == sysModules) = false)
    (hv : ∀ q, valueAt kvs q = if valueAt sp.kvs q ≠ none then valueAt sp.kvs q else if sp.c < q ∧ q ≤ ch.c then none else valueAt ch.kvs q) (l : ch.x < d3 ∧ ch.dx < d3 ∧ ch.pg < d3 ∧ sp.x < d3 ∧ sp.dx < d3 ∧ sp.pg < d3 ∧ AllLt d3 (rbR P ch its n pre)) :
    ChG.Ok w { ch with c := sp.c, ct := sp.ct, po := po2, kvs := kvs, sn := sn, sps := pre ++ [{ sp with pg := d3, o := o5, kvs := [] }] } := by
  have oksp : sp.Ok w := ok.sps sp (by rw [e]; exact List.mem_append_right _ (.head _))
  refine ⟨hd, ok.nm, hl, fun k v hk => ?_, ok.fvals, ok.flen, ?_, fun s1 h1 => ?_⟩
  · have hk : valueAt kvs k = some v := hk
    rw [hv] at hk
    split at hk
    · exact oksp.vals _ _ hk
    · split at hk
      · cases hk
      · exact ok.vals _ _ hk
  · have h := ok.nodup
    unfold ChG.as at h ⊢
    simp only
    rw [e, spsA_append, ← List.append_assoc] at h
    rw [spsA_append, ← List.append_assoc]
    exact nodup_mid (List.Sublist.nodup ((List.Sublist.refl _).append (.cons_cons _ (.cons_cons _ (.cons_cons _ (List.nil_sublist _))))) h) (.inr (rb_lt l))
  · rcases List.mem_append.mp h1 with q | q
    · exact ok.sps s1 (by rw [e]; exact List.mem_append_left _ q)
    · rw [List.mem_singleton.mp q]
      exact ok_new hd3 rfl hn3
theorem rollback_spec {w : World} {mean : ExcName → Option Value} {mg mb : Str → Option Value} {b : Heap} (S : Sta w mean mg mb b) {dep un : Nat} {fr : Option (List Env)} {gs : Option (List Code)} (hroom : dep + 4 < recursionLimit) {s : Shared} (hb : b.StaysIn s.heap)
    {ch : ChG} (hs : Own b s.heap (ch.l w.params)) (ok : ch.Ok w) {d : Int} {dt : Nat} {sp : SpG} (h0 : 0 ≤ d) (hsp : ch.sps[d.toNat]? = some sp) (hlen : ch.sps.length ≤ 100) (hc : 0 ≤ ch.c ∧ ch.c ≤ 100) (hc2 : 0 ≤ sp.c ∧ sp.c ≤ 100) (hsm : sp.kvs.length < 64) (hsm2 : ch.kvs.length ≤ 800) {R : Result → Shared → Prop}
    (h : ∀ h' (pg' : Nat) po' kvs' o' sn' tk, Step b (ch.l w.params) (ChG.l w.params { ch with c := sp.c, ct := sp.ct, po := po', kvs := kvs', sn := sn', sps := ch.sps.take d.toNat ++ [{ sp with pg := pg', o := o', kvs := [] }] }) s.heap h' →
      ChG.Ok w { ch with c := sp.c, ct := sp.ct, po := po', kvs := kvs', sn := sn', sps := ch.sps.take d.toNat ++ [{ sp with pg := pg', o := o', kvs := [] }] } →
      kvs'.length ≤ ch.kvs.length + sp.kvs.length →
      (∀ q, valueAt kvs' q = if valueAt sp.kvs q ≠ none then valueAt sp.kvs q else if sp.c < q ∧ q ≤ ch.c then none else valueAt ch.kvs q) → R (.ok (.ret .none)) { s with heap := h', toks := tk }) :
    codeAny (model PySem.Challenge.rw_nt0093_01.row.prog w) (⟨none, dep, fr, gs, un⟩ : Around) (.call (.ref 188) ⟨[.ref ch.x, .int d dt], []⟩) R s := by
  obtain ⟨e1, e2, e3⟩ := take_drop_at hsp
  have hlt : d.toNat < ch.sps.length := (List.getElem?_eq_some_iff.mp hsp).1
  have hvl : (svI ch.sps).length = ch.sps.length := List.length_map _
  have hsv : (svI ch.sps)[d.toNat]? = some (.ref sp.x) := by rw [svI, List.getElem?_map, hsp]; rfl
  have eits : (svI ch.sps).take (d + 1).toNat = svI (ch.sps.take d.toNat ++ [sp]) := by
    rw [show (d + 1).toNat = d.toNat + 1 from by omega, ← e3, svI, svI, List.map_take]
  have okd := ok.dict
  have oknm := ok.nm
  have oksp : sp.Ok w := ok.sps sp (List.mem_of_getElem? hsp)
  refine' call_footQ (K := head.heap_39 w.params) S hb hs ?k1 S.X ?k2 (by (first | assumption | exact room_le hroom (by decide) | exact room_1 hroom (by decide) | exact room_0 hroom | ((try simp only [Around.deeper, Around.in1]); first | exact room_le hroom (by decide) | exact room_1 hroom (by decide) | exact room_0 hroom | omega))) ?k3 ?k4 ?_ ?c1 ?c2 ?c3 ?c4
  case k1 => k_is
  case k2 => k_is
  case k3 => first | exact BindsTo.of_eq rfl | exact binds_K (S.X.keeps hb) rfl (by k_is) rfl rfl rfl
  case k4 => exact locs rfl
  case c1 => exact rfl
  case c2 => exact rfl
  case c3 => exact rfl
  case c4 => decide
  intro Q9 g L' h₁ hQ hg hL F N S'
  have hbg := stays_of S hb hs hg
  have X := S'.X
  have T := S'.T
  dsimp only
  have N1 := news_sub N beg_mem1
  have AT := beg_off (P := w.params) ok.nodup
  clear N
  repeat' (first | ((fail_if_success (with_reducible show wpAny _ _ (pyIter _) _ _ _)); first | (k_unfold; (try dsimp only)) | walk1 | (dsimp only; walk1)))
  refine wpAny_call ?_
  refine' check_ok (its := svI ch.sps) (sn := ch.sn) S' ?r ?k ?o (by omega) h0 (by omega) ?_
  case r => (first | assumption | exact room_le hroom (by decide) | exact room_1 hroom (by decide) | exact room_0 hroom | ((try simp only [Around.deeper, Around.in1]); first | exact room_le hroom (by decide) | exact room_1 hroom (by decide) | exact room_0 hroom | omega))
  case k => exact F.keep
  case o => exact own_of_news N1 (by repeat' (first | exact List.forall_mem_nil _ | (refine List.forall_mem_cons.mpr ⟨?sa, ?_⟩; (case sa => k_mem)) | (intro p9 hp9; repeat' (first | exact hp9 | refine List.Mem.tail _ ?_))))
  intro h3 tk3 K3
  have F3 := F.keeps K3
  have N3 := news_keeps N1 K3
  clear F N1
  dsimp only
  repeat' (first | ((fail_if_success (with_reducible show wpAny _ _ (pyIter _) _ _ _)); first | (k_unfold; (try dsimp only)) | walk1 | (dsimp only; walk1)))
  refine list_item (v := .ref sp.x) ⟨_, (N3 (ch.sv, listOf (svI ch.sps).toArray ch.sn) (by k_mem)).1, rfl, _, rfl⟩ h0 (by omega) hsv ?_
  repeat' (first | ((fail_if_success (with_reducible show wpAny _ _ (pyIter _) _ _ _)); first | (k_unfold; (try dsimp only)) | walk1 | (dsimp only; walk1)))
  try (with_reducible refine hQ _ _ ?_); try dsimp only
  rename Fr _ _ _ _ => F2
  rename News _ _ _ _ => N2
  have x1 := AT.1.2.1
  have x2 := AT.1.2.2
  have x3 := AT.2.2.2
  refine' del_slice_K (l := ch.sv) (items := svI ch.sps) (n := ch.sn) F2 N2 ?U (by omega) (by omega) (by omega) ?_
  case U => k_updF
  intro h6 n6 F6 N6
  (try dsimp only at N6)
  rw [eits] at N6
  have N7 := news_sub N6 (rb_mem1 e1)
  have AP := rb_off (rb_nd (P := w.params) (its := svI (ch.sps.take d.toNat ++ [sp])) (n := n6) e1 ok.nodup)
  clear N2 N6 F2 x1 x2 x3 AT hvl hsv eits
  obtain ⟨R9, hR9⟩ : ∃ R9, R9 = rbR w.params ch (svI (ch.sps.take d.toNat ++ [sp])) n6 (ch.sps.take d.toNat) := ⟨_, rfl⟩
  rw [← hR9] at N7 AP
  dsimp only
  repeat' (first | ((fail_if_success (with_reducible show wpAny _ _ (pyIter _) _ _ _)); first | (k_unfold; (try dsimp only)) | walk1 | (dsimp only; walk1)))
  try (with_reducible refine hQ _ _ ?_); try dsimp only
  rename Fr _ _ _ _ => F2
  rename News _ _ _ _ => N2
  rename IsRange _ _ _ _ _ _ _ _ => hr2
  refine range_loop (fun y : Obj × List (Int × Value) => (ch.x, instObj 191 ch.dx) :: (ch.dx, chD w.params (.ref ch.st) (.int ch.c ch.ct) (.ref ch.pg) (.ref ch.sv) ch.t1 ch.t2 ch.t3 ch.t4) :: (ch.pg, y.1) :: (sp.x, instObj 63 sp.dx) :: (sp.dx, spD w.params (.int sp.c sp.ct) (.ref sp.pg) sp.t1 sp.t2) :: (sp.pg, sp.o) :: R9) (fun _ => [(Str.ofString "self", .ref ch.x), (Str.ofString "savepoint", .ref sp.x)]) (Popped w ch.kvs sp.c) (ch.po, ch.kvs) rfl hr2 (by omega) (by omega) F2 N2 (popped_zero okd) ?ag ?_ ?_
  case ag => exact ⟨rfl, rfl, trivial⟩
  · intro I io i vt4 y hi hy hI m h4 tk4 Qt F4 N4 hk
    clear hr2 F2 N2 h hQ
    have x1 := AP.x_pg
    have x2 := AP.dx_pg
    have x3 := AP.sx_pg
    have x4 := AP.sd_pg
    have x5 := AP.sp_pg
    have x6 := AP.rpg
    have x7 : @Ne Nat ch.pg I := hI (ch.pg, y.1) (.tail _ (.tail _ (.head _)))
    have hd1 := hy.dict
    have hl1 := hy.len
    dsimp only [fm] at F4 N4
    k_steps
    try (with_reducible refine hQ _ _ ?_); try dsimp only
    rename Fr _ _ _ _ => F2
    rename News _ _ _ _ => N2
    rename Obj => o9
    rename Obj.IsDictOf _ o9 _ => hd9
    exact hk _ _ (o9, without y.2 (sp.c + 1 + i)) _ F2 ⟨rfl, rfl, trivial⟩ N2 (popped_step hy hd9) (pop_off hI)
  · intro y m h4 tk4 hy F4 N4
    clear hr2 F2 N2
    have hye := popped_end hy
    have x1 := AP.x_dx
    have x2 := AP.dx_pg
    have x3 := AP.sx_dx
    have x4 := AP.sd_dx
    have x5 := AP.sp_dx
    have x6 := AP.rdx
    dsimp only [fm] at F4 N4 ⊢
    repeat' (first | ((fail_if_success (with_reducible show wpAny _ _ (pyIter _) _ _ _)); first | (k_unfold; (try dsimp only)) | walk1 | (dsimp only; walk1)))
    try (with_reducible refine hQ _ _ ?_); try dsimp only
    rename Fr _ _ _ _ => F2
    rename News _ _ _ _ => N2
    refine sorted_dict rfl F2 N2 (by k_mem) oksp.dict oksp.nm hsm ?_
    intro D vs ns e h9 tk9 F9 N9 hlD hI hmem hnl
    have hvs := hI.length
    have hD : @Ne Nat ch.pg D := Nat.ne_of_lt (hlD (ch.pg, y.1) (.tail _ (.tail _ (.head _))))
    clear F2 N2 x1 x2 x3 x4 x5 x6 hlD
    dsimp only
    repeat' (first | ((fail_if_success (with_reducible show wpAny _ _ (pyIter _) _ _ _)); first | (k_unfold; (try dsimp only)) | walk1 | (dsimp only; walk1)))
    refine refs_loop (n := e) (vs := vs) (fun z : Obj × List (Int × Value) => (D, listOf (List.toArray vs) e) :: (ch.x, instObj 191 ch.dx) :: (ch.dx, chD w.params (.ref ch.st) (.int sp.c sp.ct) (.ref ch.pg) (.ref ch.sv) ch.t1 ch.t2 ch.t3 ch.t4) :: (ch.pg, z.1) :: (sp.x, instObj 63 sp.dx) :: (sp.dx, spD w.params (.int sp.c sp.ct) (.ref sp.pg) sp.t1 sp.t2) :: (sp.pg, sp.o) :: R9) (fun _ => [(Str.ofString "self", .ref ch.x), (Str.ofString "savepoint", .ref sp.x)]) (SetB w y.2 sp.kvs ns ch.kvs.length) (y.1, y.2)
      rfl F9 N9 ⟨hy.dict, hy.len, fun q => by rw [if_neg]; exact fun z => nomatch z⟩ ?ag (fun _ _ _ => .head _) ?_ ?_
    case ag => exact ⟨rfl, rfl, trivial⟩
    · intro I io i v z hvi hz hne m h2 tk2 Qt F4 N4 hk
      obtain ⟨k, kt, hk1, rfl⟩ := intsAre_at hI hvi
      have hkn : valueAt sp.kvs k ≠ none := (hmem k).mp (List.mem_of_getElem? hk1)
      obtain ⟨u, hu⟩ := Option.ne_none_iff_exists'.mp hkn
      have okd2 := oksp.dict
      have hd2 := hz.dict
      have hl2 := hz.len
      have hi2 : i < vs.length := (List.getElem?_eq_some_iff.mp hvi).1
      have x1 := AP.x_pg
      have x2 := AP.dx_pg
      have x3 := AP.sx_pg
      have x4 := AP.sd_pg
      have x5 := AP.sp_pg
      have x6 := AP.rpg
      have x8 : @Ne Nat ch.pg I := hne (ch.pg, z.1) (.tail _ (.tail _ (.tail _ (.head _))))
      dsimp only [fm] at F4 N4
      clear h hQ F9 N9
      k_steps
      try (with_reducible refine hQ _ _ ?_); try dsimp only
      rename Fr _ _ _ _ => F2
      rename News _ _ _ _ => N2
      rename Obj => o9
      rename Obj.IsDictOf _ o9 _ => hd9
      exact hk _ _ (o9, stored z.2 k u) _ F2 ⟨rfl, rfl, trivial⟩ N2 (setB_step hz hk1 hu hd9) (set_off hne)
    · intro z m h2 tk2 hz F4 N4
      have hv := setB_end hz hvs hmem hye
      have x1 := AP.x_sd
      have x2 := AP.sd_dx
      have x3 := AP.sd_pg
      have x4 := AP.sx_sd
      have x5 := AP.sp_sd
      have x6 := AP.rsd
      have hl2 : z.2.length ≤ ch.kvs.length + sp.kvs.length := Nat.le_trans hz.len (Nat.add_le_add_left (by omega) _)
      have N4 := news_sub N4 (fun p hp => List.Mem.tail _ hp)
      dsimp only [fm] at F4 N4 ⊢
      clear F9 N9
      k_steps
      try (with_reducible refine hQ _ _ ?_); try dsimp only
      rename Fr _ _ _ _ => F2
      rename News _ _ _ _ => N2
      rename Obj => o5
      rename Addr => d3
      rename Obj.IsDictOf (intKind _ _) _ _ => hd3
      rename (_ == sysModules) = false => hn3
      rename ch.x < _ ∧ _ => l1
      rw [hR9] at N2 l1
      exact h _ d3 z.1 z.2 o5 n6 _ (step_of hg hbg F2 (news_sub N2 (rb_mem2 rfl)) (fun p hp => hp)) (rb_ok ok e1 hz.dict (Nat.le_trans hl2 (by omega)) hd3 hn3 hv l1) hl2 hv
end SM14
section SE5
theorem norules_E5 : True := by
  k_with_none
  trivial
theorem frames_in {B h0 h : Heap} {outer : List Env} {L a : Addr} {name : Str} {scope : Scope} {cd : Value} (hB : B.StaysIn h0) (hFF : h0.FunFrames B outer) (hk : h0.StaysIn h) (hL : h0.get? L = none) (hns : ∃ o es ep, h.get? L = some o ∧ o.data = .dict es ep) (hs : scope.kind = .function := by rfl) :
    h.FunFrames B (envOf name scope L a cd :: outer) := by
  have hBL : B.get? L = none := by
    cases q : B.get? L with
    | none => rfl
    | some o => have := hB _ _ q; rw [hL] at this; cases this
  refine ⟨by show scope.kind ≠ .module; rw [hs]; decide, ?_, hFF.of_keeps fun b o q _ => ⟨o, hk _ _ q, rfl⟩⟩
  obtain ⟨o, es, ep, ho, hd⟩ := hns
  exact ⟨L, o, rfl, hBL, ho, fun vs q => by rw [hd] at q; cases q⟩
theorem release_bad {w : World} {mean : ExcName → Option Value} {mg mb : Str → Option Value} {b : Heap} (S : Sta w mean mg mb b) {dep un : Nat} {outer : List Env} {gs : Option (List Code)} (hroom : dep + 4 < recursionLimit) {s : Shared} (hb : b.StaysIn s.heap)
    {x dx sv t1 t2 t3 t4 sn : Nat} {its : List Value} {stv ccv pgv : Value} {d : Int} {dt : Nat}
    (hs : Own b s.heap [(x, instObj 191 dx), (dx, chD w.params stv ccv pgv (.ref sv) t1 t2 t3 t4), (sv, listOf its.toArray sn)]) (hsz : its.length ≤ 1000) (hd : d < 0 ∨ its.length ≤ d)
    {B : Heap} (hB : B.StaysIn s.heap) (hFF : s.heap.FunFrames B outer) {R : Result → Shared → Prop}
    (h : ∀ h' e a0 tk, Heap.FlyingW B outer e (.ref 44) a0 h' → s.heap.UpToSlots h' → R (.error (.ref e)) { s with heap := h', toks := tk }) :
    codeAny (model PySem.Challenge.rw_nt0093_01.row.prog w) (⟨none, dep, some outer, gs, un⟩ : Around) (.call (.ref 180) ⟨[.ref x, .int d dt], []⟩) R s := by
  refine' call_foot (K := head.heap_39 w.params) S hb hs ?k1 S.X ?k2 (by (first | assumption | exact room_le hroom (by decide) | exact room_1 hroom (by decide) | exact room_0 hroom | ((try simp only [Around.deeper, Around.in1]); first | exact room_le hroom (by decide) | exact room_1 hroom (by decide) | exact room_0 hroom | omega))) ?k3 ?k4 ?_ ?c1 ?c2 ?c3 ?c4
  case k1 => k_is
  case k2 => k_is
  case k3 => first | exact BindsTo.of_eq rfl | exact binds_K (S.X.keeps hb) rfl (by k_is) rfl rfl rfl
  case k4 => exact locs rfl
  case c1 => exact rfl
  case c2 => exact rfl
  case c3 => exact rfl
  case c4 => decide
  intro g L' h₁ hg hL F N S'
  have hbg := stays_of S hb hs hg
  have X := S'.X
  have T := S'.T
  dsimp only
  have hLn : s.heap.get? L' = none := by rw [hL]; exact Heap.get?_none_of_le (Nat.le_refl _)
  repeat' (first | ((fail_if_success (with_reducible show wpAny _ _ (pyIter _) _ _ _)); first | (k_unfold; (try dsimp only)) | walk1 | (dsimp only; walk1)))
  have hst : s.heap.StaysIn h₁ := (step_of hg hbg F N (fun p hp => hp)).same hs
  refine wpAny_call ?_
  refine' check_bad (B := B) (its := its) (sn := sn) S' ?r ?k ?o hsz hd ?b ?f ?_
  case r => (first | assumption | exact room_le hroom (by decide) | exact room_1 hroom (by decide) | exact room_0 hroom | ((try simp only [Around.deeper, Around.in1]); first | exact room_le hroom (by decide) | exact room_1 hroom (by decide) | exact room_0 hroom | omega))
  case k => exact F.keep
  case o => exact own_of_news N (by repeat' (first | exact List.forall_mem_nil _ | (refine List.forall_mem_cons.mpr ⟨?sa, ?_⟩; (case sa => k_mem)) | (intro p9 hp9; repeat' (first | exact hp9 | refine List.Mem.tail _ ?_))))
  case b => exact fun a o q => hst _ _ (hB _ _ q)
  case f => exact frames_in hB hFF hst hLn (fr_dict F)
  intro h3 e a0 tk3 fl up
  refine wpAny_leaves_onW (Around.frames_deeper rfl) rfl fl fun h' x1 x2 => ?_
  exact h h' e a0 _ x1 (((Heap.UpToSlots.of_keeps hst).trans up).trans x2)
theorem rollback_bad {w : World} {mean : ExcName → Option Value} {mg mb : Str → Option Value} {b : Heap} (S : Sta w mean mg mb b) {dep un : Nat} {outer : List Env} {gs : Option (List Code)} (hroom : dep + 4 < recursionLimit) {s : Shared} (hb : b.StaysIn s.heap)
    {x dx sv t1 t2 t3 t4 sn : Nat} {its : List Value} {stv ccv pgv : Value} {d : Int} {dt : Nat}
    (hs : Own b s.heap [(x, instObj 191 dx), (dx, chD w.params stv ccv pgv (.ref sv) t1 t2 t3 t4), (sv, listOf its.toArray sn)]) (hsz : its.length ≤ 1000) (hd : d < 0 ∨ its.length ≤ d)
    {B : Heap} (hB : B.StaysIn s.heap) (hFF : s.heap.FunFrames B outer) {R : Result → Shared → Prop}
    (h : ∀ h' e a0 tk, Heap.FlyingW B outer e (.ref 44) a0 h' → s.heap.UpToSlots h' → R (.error (.ref e)) { s with heap := h', toks := tk }) :
    codeAny (model PySem.Challenge.rw_nt0093_01.row.prog w) (⟨none, dep, some outer, gs, un⟩ : Around) (.call (.ref 188) ⟨[.ref x, .int d dt], []⟩) R s := by
  refine' call_foot (K := head.heap_39 w.params) S hb hs ?k1 S.X ?k2 (by (first | assumption | exact room_le hroom (by decide) | exact room_1 hroom (by decide) | exact room_0 hroom | ((try simp only [Around.deeper, Around.in1]); first | exact room_le hroom (by decide) | exact room_1 hroom (by decide) | exact room_0 hroom | omega))) ?k3 ?k4 ?_ ?c1 ?c2 ?c3 ?c4
  case k1 => k_is
  case k2 => k_is
  case k3 => first | exact BindsTo.of_eq rfl | exact binds_K (S.X.keeps hb) rfl (by k_is) rfl rfl rfl
  case k4 => exact locs rfl
  case c1 => exact rfl
  case c2 => exact rfl
  case c3 => exact rfl
  case c4 => decide
  intro g L' h₁ hg hL F N S'
  have hbg := stays_of S hb hs hg
  have X := S'.X
  have T := S'.T
  dsimp only
  have hLn : s.heap.get? L' = none := by rw [hL]; exact Heap.get?_none_of_le (Nat.le_refl _)
  repeat' (first | ((fail_if_success (with_reducible show wpAny _ _ (pyIter _) _ _ _)); first | (k_unfold; (try dsimp only)) | walk1 | (dsimp only; walk1)))
  have hst : s.heap.StaysIn h₁ := (step_of hg hbg F N (fun p hp => hp)).same hs
  refine wpAny_call ?_
  refine' check_bad (B := B) (its := its) (sn := sn) S' ?r ?k ?o hsz hd ?b ?f ?_
  case r => (first | assumption | exact room_le hroom (by decide) | exact room_1 hroom (by decide) | exact room_0 hroom | ((try simp only [Around.deeper, Around.in1]); first | exact room_le hroom (by decide) | exact room_1 hroom (by decide) | exact room_0 hroom | omega))
  case k => exact F.keep
  case o => exact own_of_news N (by repeat' (first | exact List.forall_mem_nil _ | (refine List.forall_mem_cons.mpr ⟨?sa, ?_⟩; (case sa => k_mem)) | (intro p9 hp9; repeat' (first | exact hp9 | refine List.Mem.tail _ ?_))))
  case b => exact fun a o q => hst _ _ (hB _ _ q)
  case f => exact frames_in hB hFF hst hLn (fr_dict F)
  intro h3 e a0 tk3 fl up
  refine wpAny_leaves_onW (Around.frames_deeper rfl) rfl fl fun h' x1 x2 => ?_
  exact h h' e a0 _ x1 (((Heap.UpToSlots.of_keeps hst).trans up).trans x2)
end SE5
section SE6
inductive FrList : List Env → List (Addr × Obj) → Prop
  | nil : FrList [] []
  | cons {env : Env} {p : Addr × Obj} {l : List Env} {r : List (Addr × Obj)} : env.scope.kind ≠ .module → env.frame = some p.1 → (∃ es ep, p.2.data = .dict es ep) → FrList l r → FrList (env :: l) (p :: r)
inductive SameFr : List (Addr × Obj) → List (Addr × Obj) → Prop
  | nil : SameFr [] []
  | cons {p q : Addr × Obj} {l r : List (Addr × Obj)} : q.1 = p.1 → (∃ sl, q.2 = { p.2 with slots := sl }) → SameFr l r → SameFr (p :: l) (q :: r)
theorem SameFr.refl : ∀ {l : List (Addr × Obj)}, SameFr l l
  | [] => .nil
  | p :: _ => .cons rfl ⟨p.2.slots, rfl⟩ SameFr.refl
theorem SameFr.trans : ∀ {a b c : List (Addr × Obj)}, SameFr a b → SameFr b c → SameFr a c
 := by
  intro a b c x
  induction x generalizing c with
  | nil => exact id
  | cons e h1 _ ih =>
    intro y
    cases y with
    | cons e' h2 y =>
      obtain ⟨s1, h1⟩ := h1
      obtain ⟨s2, h2⟩ := h2
      exact .cons (e'.trans e) ⟨s2, by rw [h2, h1]⟩ (ih y)
theorem SameFr.fst : ∀ {a b : List (Addr × Obj)}, SameFr a b → b.map (·.1) = a.map (·.1)
 := by
  intro a b x
  induction x with
  | nil => rfl
  | cons e _ _ ih => rw [List.map_cons, List.map_cons, e, ih]
theorem FrList.same : ∀ {l : List Env} {a b : List (Addr × Obj)}, FrList l a → SameFr a b → FrList l b
 := by
  intro l a b x
  induction x generalizing b with
  | nil => intro y; cases y; exact .nil
  | cons h1 h2 h3 _ ih =>
    intro y
    cases y with
    | cons e h y =>
      obtain ⟨sl, h⟩ := h
      obtain ⟨es, ep, h3⟩ := h3
      exact .cons h1 (by rw [h2, e]) ⟨es, ep, by rw [h]; exact h3⟩ (ih y)
theorem frames_of {h : Heap} {as : List Addr} : ∀ {l : List Env} {frs : List (Addr × Obj)}, FrList l frs → (∀ p ∈ frs, h.get? p.1 = some p.2) → (∀ p ∈ frs, p.1 ∈ as) → h.FunFrames (hideAll h as) l
 := by
  intro l frs x
  induction x with
  | nil => exact fun _ _ => trivial
  | @cons _ p _ _ h1 h2 h3 _ ih =>
    intro hh ha
    obtain ⟨es, ep, h3⟩ := h3
    exact ⟨h1, ⟨p.1, p.2, h2, hideAll_none _ (ha p (.head _)), hh p (.head _), fun vs q => by rw [h3] at q; cases q⟩, ih (fun q hq => hh q (.tail _ hq)) (fun q hq => ha q (.tail _ hq))⟩
theorem frs_up {h h5 : Heap} (up : h.UpToSlots h5) : ∀ {l : List Env} {frs : List (Addr × Obj)}, FrList l frs → (∀ p ∈ frs, h.get? p.1 = some p.2) → ∃ frs', SameFr frs frs' ∧ ∀ p ∈ frs', h5.get? p.1 = some p.2
 := by
  intro l frs x
  induction x with
  | nil => exact fun _ => ⟨[], .nil, fun p hp => nomatch hp⟩
  | @cons _ p _ _ h1 h2 h3 _ ih =>
    intro hh
    obtain ⟨es, ep, h3⟩ := h3
    obtain ⟨frs', a, b⟩ := ih fun q hq => hh q (.tail _ hq)
    obtain ⟨sl, hs⟩ := up _ _ (hh p (.head _)) (fun vs q => by rw [h3] at q; cases q)
    refine ⟨(p.1, { p.2 with slots := sl }) :: frs', .cons rfl ⟨sl, rfl⟩ a, fun q hq => ?_⟩
    rcases List.mem_cons.mp hq with rfl | hq
    · exact hs
    · exact b q hq
theorem land_fr {g h h5 : Heap} {L : Addr} {m : Str → Option Value} {news frs : List (Addr × Obj)} {outer : List Env} (F : Fr g L h m) (N : News g L h (news ++ frs)) (hdis : ∀ p ∈ news, p.1 ∉ frs.map (·.1)) (hfr : FrList outer frs)
    (hB : (hideAll h (L :: frs.map (·.1))).StaysIn h5) (up : h.UpToSlots h5) : Fr g L h5 m ∧ ∃ frs', SameFr frs frs' ∧ News g L h5 (news ++ frs') := by
  have keep : ∀ a o, h.get? a = some o → a ≠ L → a ∉ frs.map (·.1) → h5.get? a = some o := fun a o e n1 n2 => hB _ _ (hideAll_get _ e (fun q => (List.mem_cons.mp q).elim n1 n2))
  refine ⟨⟨up.ns F.ns, fun a o e => keep a o (F.keep a o e) (fun q => ?_) (fun q => ?_), F.above⟩, ?_⟩
  · rw [q, kts_self F] at e; cases e
  · obtain ⟨p, hp, e2⟩ := List.mem_map.mp q
    have := (N p (List.mem_append_right _ hp)).2.2
    rw [e2, e] at this; cases this
  · obtain ⟨frs', hs, hf⟩ := frs_up up hfr fun p hp => (N p (List.mem_append_right _ hp)).1
    refine ⟨frs', hs, fun p hp => ?_⟩
    rcases List.mem_append.mp hp with hp | hp
    · have n := N p (List.mem_append_left _ hp)
      exact ⟨keep _ _ n.1 n.2.1 (hdis p hp), n.2⟩
    · have : p.1 ∈ frs.map (·.1) := by rw [← hs.fst]; exact List.mem_map_of_mem hp
      obtain ⟨q, hq, e⟩ := List.mem_map.mp this
      have n := N q (List.mem_append_right _ hq)
      exact ⟨hf p hp, by rw [← e]; exact n.2.1, by rw [← e]; exact n.2.2⟩
theorem caught_mis {w : World} {mean : ExcName → Option Value} {mg mb : Str → Option Value} {g h : Heap} {dep un : Nat} {outer : List Env} {gs : Option (List Code)} {L a e : Addr} {m : Str → Option Value} {name : Str} {scope : Scope} {cd a0 : Value} {news frs : List (Addr × Obj)} {s' : Shared}
    {b₀ : Stmt} {suite : List Stmt} {pos np : Pos} {rest : List ExceptHandler} {Q : Flow → Shared → Prop} {E : Value → Shared → Prop}
    (S : Sta w mean mg mb g) (F : Fr g L h m) (N : News g L h (news ++ frs)) (hdis : ∀ p ∈ news, p.1 ∉ frs.map (·.1)) (hfr : FrList outer frs)
    (fl : Heap.FlyingW (hideAll h (L :: frs.map (·.1))) (envOf name scope L a cd :: outer) e (.ref 44) a0 s'.heap) (up : h.UpToSlots s'.heap)
    (k : ∀ h' frs', SameFr frs frs' → Fr g L h' m → News g L h' (news ++ frs') → wpAny (model PySem.Challenge.rw_nt0093_01.row.prog w) ((Around.deeper ⟨none, dep, some outer, gs, un⟩ (envOf name scope L a cd)).mark (some (.ref e))) (execs (b₀ :: suite) (envOf name scope L a cd)) Q E { s' with heap := h' })
    (hk : scope.kind = .function := by rfl)
    (hx : (envOf name scope L a cd).kindOf (Str.ofString "MisuseError") = some .globalImplicit := by rfl)
    (hE : PassesOwnAt (model PySem.Challenge.rw_nt0093_01.row.prog w) ((Around.deeper ⟨none, dep, some outer, gs, un⟩ (envOf name scope L a cd)).mark (some (.ref e))) (Around.deeper ⟨none, dep, some outer, gs, un⟩ (envOf name scope L a cd)) (envOf name scope L a cd) E := by passes_own) :
    wpAny (model PySem.Challenge.rw_nt0093_01.row.prog w) (Around.deeper ⟨none, dep, some outer, gs, un⟩ (envOf name scope L a cd)) (noteFrame (.ref e) (envOf name scope L a cd))
      (fun _ s₂ => wpAny (model PySem.Challenge.rw_nt0093_01.row.prog w) (Around.deeper ⟨none, dep, some outer, gs, un⟩ (envOf name scope L a cd)) (setFlight (.ref e) none) (fun _ s₃ =>
        wpAny (model PySem.Challenge.rw_nt0093_01.row.prog w) (Around.deeper ⟨none, dep, some outer, gs, un⟩ (envOf name scope L a cd)) (handleBy (.ref e) (envOf name scope L a cd) (.ExceptHandler (some (.Name (Str.ofString "MisuseError") np)) none (b₀ :: suite) pos :: rest)) Q E s₃) E s₂) E s' := by
  refine wpAny_looks_onW (Around.frames_deeper rfl) rfl fl fun h₄ hheld₄ hsm₄ => ?_
  refine wpAny_landsW hheld₄ fun h₅ hheld hsm₅' => ?_
  have up5 := up.trans (hsm₄.trans hsm₅')
  obtain ⟨F5, frs5, hs5, N5⟩ := land_fr F N hdis hfr hheld.1 up5
  have X5 := S.X
  obtain ⟨cd', nm, qn, N', bs, sn, sub, ab, col, dd, k0, k1, k2, k3, k5, hc, hmro, hdict, hlk⟩ := exc_cls (mis_in w.params)
  have hC : h₅.get? 44 = some (excClassObj nm qn 44 N' bs misMro true sn sub ab col dd k0 k1 k2 k3 k5 "Exception.__new__") := (X5.keeps F5.keep) _ _ hlk
  obtain ⟨oe, he, hcls⟩ := hheld.there
  refine wpAny_handleBy_cons (codeAny_handlers_test (name_K F5 X5 (topRead_of S.T) (v := .ref 44) (by k_is) ?_ hk hx (by decide))) (by intro q; cases q)
  refine wpAny_excMatches_sub_self hC he hcls (by decide) (codeAny_handlers_suite ?_)
  refine lands_againW hheld fun h₆ hfl₆ hsm₆ => ?_
  obtain ⟨F6, frs6, hs6, N6⟩ := land_fr F N hdis hfr hfl₆.1 (up5.trans hsm₆)
  exact wpAny_passesOwnAt hE (k h₆ frs6 hs6 F6 N6)
end SE6
section SE7
theorem notin_map {a : Nat} {frs : List (Addr × Obj)} (h : ∀ r ∈ frs, @Ne Nat r.1 a) : a ∉ frs.map (·.1) := fun q => by
  obtain ⟨r, hr, e⟩ := List.mem_map.mp q
  exact h r hr e
theorem dis4 {D x dx sv : Nat} {o1 o2 o3 o4 : Obj} {frs : List (Addr × Obj)} (h : ∀ r ∈ frs, @Ne Nat r.1 D) (hap : ∀ q ∈ frs, @Ne Nat q.1 x ∧ @Ne Nat q.1 dx ∧ @Ne Nat q.1 sv) : ∀ p ∈ [((D, o1) : Addr × Obj), (x, o2), (dx, o3), (sv, o4)], p.1 ∉ frs.map (·.1) :=
  List.forall_mem_cons.mpr ⟨notin_map h, List.forall_mem_cons.mpr ⟨notin_map fun q hq => (hap q hq).1, List.forall_mem_cons.mpr ⟨notin_map fun q hq => (hap q hq).2.1, List.forall_mem_cons.mpr ⟨notin_map fun q hq => (hap q hq).2.2, List.forall_mem_nil _⟩⟩⟩⟩
theorem refused_spec {w : World} {mean : ExcName → Option Value} {mg mb : Str → Option Value} {b : Heap} (S : Sta w mean mg mb b) {dep un : Nat} {outer : List Env} {gs : Option (List Code)} (hroom : dep + 6 < recursionLimit) (hun : un + 100 < cLine) {s : Shared} (hb : b.StaysIn s.heap)
    {x dx sv t1 t2 t3 t4 sn : Nat} {its : List Value} {stv ccv pgv : Value} {d : Int} {dt : Nat} {frs : List (Addr × Obj)}
    (hs : Own b s.heap ((x, instObj 191 dx) :: (dx, chD w.params stv ccv pgv (.ref sv) t1 t2 t3 t4) :: (sv, listOf its.toArray sn) :: frs)) (hfr : FrList outer frs) (hap : ∀ q ∈ frs, @Ne Nat q.1 x ∧ @Ne Nat q.1 dx ∧ @Ne Nat q.1 sv) (hsz : its.length ≤ 1000) (hd : d < 0 ∨ its.length ≤ d) {R : Result → Shared → Prop}
    (h : ∀ h' frs' tk, SameFr frs frs' → Step b ((x, instObj 191 dx) :: (dx, chD w.params stv ccv pgv (.ref sv) t1 t2 t3 t4) :: (sv, listOf its.toArray sn) :: frs) ((x, instObj 191 dx) :: (dx, chD w.params stv ccv pgv (.ref sv) t1 t2 t3 t4) :: (sv, listOf its.toArray sn) :: frs') s.heap h' → R (.ok (.ret (.bool true))) { s with heap := h', toks := tk }) :
    codeAny (model PySem.Challenge.rw_nt0093_01.row.prog w) (⟨none, dep, some outer, gs, un⟩ : Around) (.call (.ref 223) ⟨[.ref x, .int d dt], []⟩) R s := by
  refine' call_footQ (K := head.heap_39 w.params) S hb hs ?k1 S.X ?k2 (by (first | assumption | exact room_le hroom (by decide) | exact room_1 hroom (by decide) | exact room_0 hroom | ((try simp only [Around.deeper, Around.in1]); first | exact room_le hroom (by decide) | exact room_1 hroom (by decide) | exact room_0 hroom | omega))) ?k3 ?k4 ?_ ?c1 ?c2 ?c3 ?c4
  case k1 => k_is
  case k2 => k_is
  case k3 => first | exact BindsTo.of_eq rfl | exact binds_K (S.X.keeps hb) rfl (by k_is) rfl rfl rfl
  case k4 => exact locs rfl
  case c1 => exact rfl
  case c2 => exact rfl
  case c3 => exact rfl
  case c4 => decide
  intro Q9 g L' h₁ hQ hg hL F N S'
  have hbg := stays_of S hb hs hg
  have X := S'.X
  have T := S'.T
  dsimp only
  repeat' (first | ((fail_if_success (with_reducible show wpAny _ _ (pyIter _) _ _ _)); first | (k_unfold; (try dsimp only)) | walk1 | (dsimp only; walk1)))
  try (with_reducible refine hQ _ _ ?_); try dsimp only
  rename Fr _ _ _ _ => F2
  rename News _ _ _ _ => N2
  rename_i D h9 l1 h2
  have dis := dis4 (o1 := listOf #[] 0) (o2 := instObj 191 dx) (o3 := chD w.params stv ccv pgv (.ref sv) t1 t2 t3 t4) (o4 := listOf its.toArray sn) (fun r hr => Nat.ne_of_lt (allLt_mem l1.2.2.2 r hr)) hap
  refine wpAny_call ?_
  refine' release_bad (B := hideAll h2 (L' :: frs.map (·.1))) (its := its) (sn := sn) S' ?r ?k ?o hsz hd ?b ?f ?_
  case r => (first | assumption | exact room_le hroom (by decide) | exact room_1 hroom (by decide) | exact room_0 hroom | ((try simp only [Around.deeper, Around.in1]); first | exact room_le hroom (by decide) | exact room_1 hroom (by decide) | exact room_0 hroom | omega))
  case k => exact F2.keep
  case o => exact own_of_news N2 (by repeat' (first | exact List.forall_mem_nil _ | (refine List.forall_mem_cons.mpr ⟨?sa, ?_⟩; (case sa => k_mem)) | (intro p9 hp9; repeat' (first | exact hp9 | refine List.Mem.tail _ ?_))))
  case b => exact fun a o q => of_hideAll _ q
  case f =>
    obtain ⟨o, es, ep, ho, hd⟩ := fr_dict F2
    exact ⟨(by show ScopeKind.function ≠ ScopeKind.module; decide), ⟨L', o, rfl, hideAll_none _ (.head _), ho, fun vs q => by rw [hd] at q; cases q⟩, frames_of hfr (fun p hp => (N2 p (.tail _ (.tail _ (.tail _ (.tail _ hp))))).1) (fun p hp => .tail _ (List.mem_map_of_mem hp))⟩
  intro h3 e a0 tk3 fl up
  refine caught_mis (news := [(D, listOf #[] 0), (x, instObj 191 dx), (dx, chD w.params stv ccv pgv (.ref sv) t1 t2 t3 t4), (sv, listOf its.toArray sn)]) S' F2 N2 dis hfr fl up ?_
  intro h4 frs4 hs4 F4 N4
  simp only [List.cons_append, List.nil_append] at N4
  have x1 : @Ne Nat x D := Nat.ne_of_lt l1.1
  have x2 : @Ne Nat dx D := Nat.ne_of_lt l1.2.1
  have x3 : @Ne Nat sv D := Nat.ne_of_lt l1.2.2.1
  have hlt4 : ∀ p ∈ frs4, p.1 ≠ D := fun p hp e => dis _ (.head _) (by rw [← hs4.fst]; exact List.mem_map.mpr ⟨p, hp, e⟩)
  clear F2 N2
  dsimp only
  repeat' (first | ((fail_if_success (with_reducible show wpAny _ _ (pyIter _) _ _ _)); first | (k_unfold; (try dsimp only)) | walk1 | (dsimp only; walk1)))
  try (with_reducible refine hQ _ _ ?_); try dsimp only
  rename Fr _ _ _ _ => F2
  rename News _ _ _ _ => N2
  rename_i h5
  have dis2 : ∀ p ∈ [(D, listOf (#[].push (Value.str (Str.ofString "release") tk3)) (0 + 1)), (x, instObj 191 dx), (dx, chD w.params stv ccv pgv (.ref sv) t1 t2 t3 t4), (sv, listOf its.toArray sn)], p.1 ∉ frs4.map (·.1) := by
    intro p hp q
    rw [hs4.fst] at q
    simp only [List.mem_cons, List.not_mem_nil, or_false] at hp
    rcases hp with rfl | rfl | rfl | rfl
    · exact dis (D, listOf #[] 0) (.head _) q
    · exact dis (x, instObj 191 dx) (.tail _ (.head _)) q
    · exact dis (dx, _) (.tail _ (.tail _ (.head _))) q
    · exact dis (sv, _) (.tail _ (.tail _ (.tail _ (.head _)))) q
  have hfr4 := hfr.same hs4
  refine wpAny_call ?_
  refine' rollback_bad (B := hideAll h5 (L' :: frs4.map (·.1))) (its := its) (sn := sn) S' ?r ?k ?o hsz hd ?b ?f ?_
  case r => (first | assumption | exact room_le hroom (by decide) | exact room_1 hroom (by decide) | exact room_0 hroom | ((try simp only [Around.deeper, Around.in1]); first | exact room_le hroom (by decide) | exact room_1 hroom (by decide) | exact room_0 hroom | omega))
  case k => exact F2.keep
  case o => exact own_of_news N2 (by repeat' (first | exact List.forall_mem_nil _ | (refine List.forall_mem_cons.mpr ⟨?sa, ?_⟩; (case sa => k_mem)) | (intro p9 hp9; repeat' (first | exact hp9 | refine List.Mem.tail _ ?_))))
  case b => exact fun a o q => of_hideAll _ q
  case f =>
    obtain ⟨o, es, ep, ho, hd⟩ := fr_dict F2
    exact ⟨(by show ScopeKind.function ≠ ScopeKind.module; decide), ⟨L', o, rfl, hideAll_none _ (.head _), ho, fun vs q => by rw [hd] at q; cases q⟩, frames_of hfr4 (fun p hp => (N2 p (.tail _ (.tail _ (.tail _ (.tail _ hp))))).1) (fun p hp => .tail _ (List.mem_map_of_mem hp))⟩
  intro h6 e6 a6 tk6 fl6 up6
  refine caught_mis (news := [(D, listOf (#[].push (Value.str (Str.ofString "release") tk3)) (0 + 1)), (x, instObj 191 dx), (dx, chD w.params stv ccv pgv (.ref sv) t1 t2 t3 t4), (sv, listOf its.toArray sn)]) S' F2 N2 dis2 hfr4 fl6 up6 ?_
  intro h7 frs7 hs7 F7 N7
  simp only [List.cons_append, List.nil_append] at N7
  have hlt7 : ∀ p ∈ frs7, p.1 ≠ D := fun p hp e => by
    have : p.1 ∈ frs4.map (·.1) := by rw [← hs7.fst]; exact List.mem_map_of_mem hp
    obtain ⟨q, hq, e2⟩ := List.mem_map.mp this
    exact hlt4 q hq (e2.trans e)
  clear F2 N2 hlt4
  dsimp only
  repeat' (first | ((fail_if_success (with_reducible show wpAny _ _ (pyIter _) _ _ _)); first | (k_unfold; (try dsimp only)) | walk1 | (dsimp only; walk1)))
  try (with_reducible refine hQ _ _ ?_); try dsimp only
  rename Fr _ _ _ _ => F2
  rename News _ _ _ _ => N2
  exact h _ _ _ (hs4.trans hs7) (step_of hg hbg F2 N2 (by
    intro p hp
    exact .tail _ (.tail _ hp)))
end SE7
section SL0
theorem call_footC {prog : Program} {w : World} {A : Around} {s : Shared} {b : Heap} {foot : List (Addr × Obj)} {K : Frag} {mean : ExcName → Option Value} {mg mb : Str → Option Value}
    {R : Result → Shared → Prop} {name qual : Str} {params : Arguments} {body : List Stmt} {scope : Scope} {dV kV doc pm cdv ct oc : Value} {an od : Option Addr} {osl : Array (Option Value)} {f : Addr} {args : Args} {binds : List (Str × Value)}
    (S : Sta w mean mg mb b) (hb : b.StaysIn s.heap) (hfoot : Own b s.heap foot)
    (ho : K.lookup f = some ⟨oc, od, .func (fnOf name qual params body scope dV kV doc pm an cdv ct), osl⟩) (hK : K.In b) (hcd : codeIn K cdv qual = true) (hroom : A.depth < recursionLimit)
    (hbind : BindsTo s (fnOf name qual params body scope dV kV doc pm an cdv ct) args binds) (hkind : (binds.all fun y => scope.names.lookup y.1 == some .local || scope.names.lookup y.1 == some .cell) = true)
    (hnd : ((cellsFrom 0 scope.names []).map (·.1)).Nodup)
    (h : ∀ (Q : Flow → Shared → Prop) g L' h₁ tk cells, (∀ fl s', R (.ok (.ret (match fl with | .ret v => v | _ => .none))) s' → Q fl s') → (∀ a o, s.heap.get? a = some o → a ∉ foot.map (·.1) → g.get? a = some o) → L' = s.heap.objs.size → Fr g L' h₁ (bindL (envOfC qual scope L' f cdv).kindOf binds fun _ => none) → News g L' h₁ (cells ++ foot) →
      CellsAre (bindC (envOfC qual scope L' f cdv).kindOf binds fun _ => none) (cellsFrom (L' + 1) scope.names []) cells → (∀ p ∈ cells, s.heap.get? p.1 = none) → Sta w mean mg mb g →
      wpAny (model prog w) (A.deeper (envOfC qual scope L' f cdv)) (execs body (envOfC qual scope L' f cdv)) Q (fun _ _ => False)
        { s with heap := h₁, toks := tk })
    (hco : scope.isCoroutine = false := by rfl) (hgen : scope.isGenerator = false := by rfl) (hk : scope.kind = .function := by rfl) : codeAny (model prog w) A (.call (.ref f) args) R s := by
  have XS : K.In s.heap := hK.keeps hb
  refine codeAny_call_function hroom (XS _ _ ho) rfl hco hgen rfl (codeRec_of XS hcd) (hbind _ _ _ _ ?_)
  refine wpAny_newFunctionEnv_cells hk (kindsX hkind _) fun env' he s' x => ?_
  subst he
  refine ⟨(S.T.nolimit.keeps hb).keeps x.toInCall.keep, codeAny_func ?_⟩
  obtain ⟨h₁, tk, rfl, _⟩ := x.done
  have hk₁ := x.toInCall.keep
  obtain ⟨cells, NC, Y⟩ := Cl.news (h₀ := s.heap) (Nat.le_refl _) fun n c hm => ⟨x.cell n c (lookup_of_mem_nodup (cellsFrom_names scope.names 0 (s.heap.objs.size + 1) [] [] rfl ▸ hnd) hm), x.above n c hm⟩
  have st : b.StaysIn (hideAll s.heap (foot.map (·.1))) := fun a o e => hideAll_get _ (hb a o e) fun q => by
    obtain ⟨p, hp, e'⟩ := List.mem_map.mp q
    rw [← e', (hfoot p hp).2] at e; cases e
  refine wpAny_mono (h _ (hideAll s.heap (foot.map (·.1))) s.heap.objs.size h₁ tk cells (fun _ _ x => x) (fun a o e n => hideAll_get _ e n) rfl
    ⟨x.toInCall.ns, fun b' o e => hk₁ b' o (of_hideAll _ e), Nat.le_of_eq (hideAll_size _ _)⟩ (fun p hp => ?_) Y (fun p hp => (NC p hp).2.2) (S.keeps st)) (fun _ _ x => x) fun _ _ x => x.elim
  rcases List.mem_append.mp hp with hp | hp
  · refine ⟨(NC p hp).1, (NC p hp).2.1, ?_⟩
    cases q : (hideAll s.heap (foot.map (·.1))).get? p.1 with
    | none => rfl
    | some o => have := of_hideAll _ q; rw [(NC p hp).2.2] at this; cases this
  · exact ⟨hk₁ _ _ (hfoot p hp).1, Nat.ne_of_lt (Heap.lt_size (hfoot p hp).1), hideAll_none _ (List.mem_map_of_mem hp)⟩
open LCg in
theorem comp_inv {prog : Program} {w : World} {A : Around} {s : Shared} {h₀ : Heap} {L : Addr} {m : Str → Option Value} {env : Env} {elt : PySem.Expr} {x : Str} {scope : Scope} {cl : List (Str × Addr)} {S : List (Addr × Obj) → Prop} {P : Nat → Value → Prop} {Fin : List Value → List (Addr × Obj) → Prop} {n : Nat}
    (J : Nat → List Value → List (Addr × Obj) → Prop)
    (turn : ∀ i ys news, i < n → J i ys news → ∀ v I oI C oC D m₂ h tk (E' : Value → Shared → Prop), P i v → NsObj oC m₂ → m₂ x = some v → Fr h₀ L h m → News h₀ L h ((I, oI) :: (C, oC) :: (D, lst ys) :: news) → Off3 I C D news → ((@Ne Nat I C) ∧ (@Ne Nat I D) ∧ (@Ne Nat C D)) →
      wpAny (model prog w) A (eval elt (compEnvC scope cl C env)) (CompEnd h₀ L m { s with heap := h, toks := tk } I oI C oC D (lst ys) S (fun y news' => J (i + 1) (ys ++ [y]) news')) E' { s with heap := h, toks := tk })
    (fin : ∀ ys news, J n ys news → Fin ys news) : ∀ k i ys news, i + k = n → J i ys news → CompRest prog w A h₀ L m env elt x scope cl s S P Fin k i ys news
  | 0, i, ys, news, e, hj => by
    refine CompRest.zero (fin ys news ?_)
    rw [show n = i from by omega]; exact hj
  | k + 1, i, ys, news, e, hj => by
    refine CompRest.succ fun v I oI C oC D m₂ h tk E' hP hN hx F N O ne => ?_
    refine wpAny_mono (turn i ys news (by omega) hj v I oI C oC D m₂ h tk E' hP hN hx F N O ne) (fun y s₂ hc => ?_) fun _ _ z => z
    obtain ⟨h', tk', news', a, F', N', O', S', r⟩ := hc
    exact ⟨h', tk', news', a, F', N', O', S', comp_inv J turn fin k (i + 1) (ys ++ [y]) news' (by omega) r⟩
end SL0
section SL1
open LCg
theorem off1_mem {D : Addr} : ∀ {l : List (Addr × Obj)}, Off1 D l → ∀ p ∈ l, p.1 ≠ D
  | [], _, _, h => nomatch h
  | _ :: _, x, p, h => by
    rcases List.mem_cons.mp h with rfl | h
    · exact x.1
    · exact off1_mem x.2 p h
theorem lread_spec {w : World} {mean : ExcName → Option Value} {mg mb : Str → Option Value} {b : Heap} (S : Sta w mean mg mb b) {dep un : Nat} {fr : Option (List Env)} {gs : Option (List Code)} (hroom : dep + 6 < recursionLimit) {s : Shared} (hb : b.StaysIn s.heap)
    {ch : ChG} (hs : Own b s.heap (ch.l w.params)) (ok : ch.Ok w) (hc : 0 ≤ ch.c ∧ ch.c ≤ 100) (hrd : ∀ q, 1 ≤ q → q ≤ ch.c → Rd ch q) {R : Result → Shared → Prop}
    (h : ∀ h' (D n tk : Nat), s.heap.StaysIn h' → h'.get? D = some (listOf ((List.range ch.c.toNat).map fun (i : Nat) => rdV ch ((i : Int) + 1)).toArray n) → s.heap.get? D = none → R (.ok (.ret (.ref D))) { s with heap := h', toks := tk }) :
    codeAny (model PySem.Challenge.rw_nt0093_01.row.prog w) (⟨none, dep, fr, gs, un⟩ : Around) (.call (.ref 235) ⟨[.ref ch.x], []⟩) R s := by
  refine' call_footC (K := head.heap_39 w.params) S hb hs ?k1 S.X ?k2 ?k0 ?k3 ?k4 ?k5 ?_ ?c1 ?c2 ?c3
  case k1 => k_is
  case k2 => k_is
  case k0 => (first | assumption | exact room_le hroom (by decide) | exact room_1 hroom (by decide) | exact room_0 hroom | ((try simp only [Around.deeper, Around.in1]); first | exact room_le hroom (by decide) | exact room_1 hroom (by decide) | exact room_0 hroom | omega))
  case k3 => first | exact BindsTo.of_eq rfl | exact binds_K (S.X.keeps hb) rfl (by k_is) rfl rfl rfl
  case k4 => exact rfl
  case k5 => decide
  case c1 => exact rfl
  case c2 => exact rfl
  case c3 => exact rfl
  intro Q9 g L' h₁ tk cells hQ hg hL F N hcl hce S'
  have hbg := stays_of S hb hs hg
  have X := S'.X
  have T := S'.T
  obtain ⟨oc, rfl, hoc⟩ := hcl.one
  have N : News g L' h₁ ((L' + 1, oc) :: (ch.x, instObj 191 ch.dx) :: (ch.dx, chD w.params (.ref ch.st) (.int ch.c ch.ct) (.ref ch.pg) (.ref ch.sv) ch.t1 ch.t2 ch.t3 ch.t4) :: (ch.pg, ch.po) :: popR w.params ch) := N
  try dsimp only
  repeat' (first | ((fail_if_success (with_reducible show wpAny _ _ (eval (PySem.Expr.ListComp _ _ _ _) _) _ _ _)); first | (k_unfold; (try dsimp only)) | walk1 | (dsimp only; walk1)))
  refine ListComp_U (F₀ := F) (by with_unfolding_all rfl) (by decide) (by rfl) (by decide) (by rfl) ?_
  repeat' (first | ((fail_if_success (with_reducible show CompSrc _ _ _ _ _ _ _ _ _ _ _ _ _ _)); first | (k_unfold; (try dsimp only)) | walk1 | (dsimp only; walk1)))
  try (with_reducible refine hQ _ _ ?_); try dsimp only
  rename Fr _ _ _ _ => F2
  rename News _ _ _ _ => N2
  rename IsRange _ _ _ _ _ _ _ _ => hr2
  have hoc : oc.data = .cell (some (.ref ch.x)) := hoc
  refine CompSrc.range (n := ch.c.toNat) rfl F2 N2 hr2 (small_one (by omega) (by omega) (by omega) (by omega)) (by rw [rangeSize_one]; split <;> omega) (by rw [sizeLine_eq]; omega) fun g' => ?_
  refine comp_inv (fun i ys news => news = (L' + 1, oc) :: ChG.l w.params ch ∧ ys = (List.range i).map fun (j : Nat) => rdV ch ((j : Int) + 1)) ?_ ?_ _ _ _ _ (Nat.zero_add _) ⟨rfl, rfl⟩
  · rintro i ys news hi ⟨rfl, rfl⟩ v I oI C oC D m₂ h3 tk3 E' ⟨vt, rfl⟩ hNs hm2 F3 N3 O3 ne3
    clear F2 N2 hr2 h
    k_steps
    have hq := hrd (1 + (i : Int)) (by omega) (by omega)
    obtain ⟨bs, vt2, hv1, hv2⟩ := rd_of ok hq
    refine wpAny_call ?_
    refine' read_spec (v := .bytes bs vt2) S' ?r ?k ?o ok.dict ok.nm ok.vals (by omega) (by omega) hv2 ?_
    case r => (first | assumption | exact room_le hroom (by decide) | exact room_1 hroom (by decide) | exact room_0 hroom | ((try simp only [Around.deeper, Around.in1]); first | exact room_le hroom (by decide) | exact room_1 hroom (by decide) | exact room_0 hroom | omega))
    case k => exact F3.keep
    case o => exact own_of_news N3 fun p hp => .tail _ (.tail _ (.tail _ (.tail _ (List.mem_append_left _ (six_mem p hp)))))
    intro h5 tk5 K5
    refine CompEnd.intro (F3.keeps K5) (news_keeps N3 K5) _ (fun p hp => hp) O3 trivial ⟨rfl, ?_⟩
    rw [List.range_succ, List.map_append, List.map_cons, List.map_nil, ← hv1, Int.add_comm]
  · rintro ys news ⟨rfl, rfl⟩ D h5 tk5 F5 N5 O5
    have T5 := step_of hg hbg F5 N5 (foot' := ChG.l w.params ch) (fun p hp => .tail _ (.tail _ hp))
    have hD := N5 (D, _) (.head _)
    refine hQ (.ret _) _ ?_
    refine h h5 D _ tk5 (T5.same hs) hD.1 ?_
    have T6 := step_of hg hbg F5 N5 (foot := ChG.l w.params ch) (foot' := [(D, lst ((List.range ch.c.toNat).map fun (j : Nat) => rdV ch ((j : Int) + 1)))]) (fun p hp => by rw [List.mem_singleton.mp hp]; exact .head _)
    refine T6.fresh (.head _) (fun q => ?_)
    obtain ⟨p, hp, e⟩ := List.mem_map.mp q
    have : Off1 D ((L' + 1, oc) :: ChG.l w.params ch) := O5
    exact off1_mem this p (.tail _ hp) e
end SL1
section SL2
open PySem.SeqAt PySem.SeqAt
noncomputable abbrev PgsAre : List Value → List (Array UInt8) → Prop := All2 (fun v p => ∃ t, v = .bytes p t)
theorem All2.len {α β : Type} {R : α → β → Prop} : ∀ {a : List α} {b : List β}, All2 R a b → a.length = b.length
 := by
  intro a b x
  induction x with
  | nil => rfl
  | cons _ _ ih => exact congrArg Nat.succ ih
theorem All2.at {α β : Type} {R : α → β → Prop} : ∀ {a : List α} {b : List β}, All2 R a b → ∀ (i : Nat) (h1 : i < a.length) (h2 : i < b.length), R a[i] b[i]
 := by
  intro a b x
  induction x with
  | nil => exact fun i h => absurd h (Nat.not_lt_zero i)
  | cons x _ ih =>
    intro i h1 h2
    cases i with
    | zero => exact x
    | succ i => exact ih i (Nat.lt_of_succ_lt_succ h1) (Nat.lt_of_succ_lt_succ h2)
section
variable {prog : Program} {w : World} {A : Around} {E : Value → Shared → Prop} {s : Shared} {a b : Addr} {vs ws : List Value} {ps : List (Array UInt8)} {Q : Value → Shared → Prop}
theorem eqAt_pgs (hv : PgsAre vs ps) (hw : PgsAre ws ps) (j : Nat) (h1 : j < vs.toArray.size) (h2 : j < ws.toArray.size) : EqAt A s vs.toArray[j] ws.toArray[j] true := by
  intro prog w E Q h
  have l1 := hv.len
  have l2 := hw.len
  simp only [List.size_toArray] at h1 h2
  obtain ⟨t1, e1⟩ := hv.at j h1 (by omega)
  obtain ⟨t2, e2⟩ := hw.at j h2 (by omega)
  simp only [List.getElem_toArray]
  rw [e1, e2]
  exact eqBool_bytes (by simpa using h)
theorem all_true {n : Nat} : (List.range n).all (fun _ => true) = true := by simp
theorem eq_pgs (ha : s.heap.IsList a vs.toArray) (hb : s.heap.IsList b ws.toArray) (hv : PgsAre vs ps) (hw : PgsAre ws ps) (hu : A.units < cLine) (h : Q (.bool true) s) : wpAny (model prog w) A (compareOp .Eq (.ref a) (.ref b)) Q E s := by
  refine eq_listAt (e := fun _ => true) ha hb (by simp [hv.len, hw.len]) hu (fun j h1 h2 => eqAt_pgs hv hw j h1 h2) ?_
  rw [all_true]; exact h
theorem ne_pgs (ha : s.heap.IsList a vs.toArray) (hb : s.heap.IsList b ws.toArray) (hv : PgsAre vs ps) (hw : PgsAre ws ps) (hu : A.units < cLine) (h : Q (.bool false) s) : wpAny (model prog w) A (compareOp .NotEq (.ref a) (.ref b)) Q E s := by
  refine RcNeAt.lists (e := fun _ => true) ha hb (by simp [hv.len, hw.len]) hu (fun j h1 h2 => eqAt_pgs hv hw j h1 h2) prog w E Q ?_
  rw [all_true]; exact h
theorem eq_empty {xs : List Value} (ha : s.heap.IsList a xs.toArray) (hb : s.heap.IsList b #[]) (hu : A.units < cLine) (h : Q (.bool (decide (xs = []))) s) : wpAny (model prog w) A (compareOp .Eq (.ref a) (.ref b)) Q E s := by
  cases xs with
  | nil =>
    refine eq_listAt (e := fun _ => true) ha hb rfl hu (fun j h1 h2 => absurd h1 (by simp)) ?_
    exact h
  | cons x r =>
    refine eq_list_lengthsAt ha hb (by simp) hu ?_
    exact h
end
end SL2
section SD7
noncomputable abbrev Pg := Array UInt8
theorem All2.getR {α β : Type} {R : α → β → Prop} : ∀ {a : List α} {b : List β}, All2 R a b → ∀ {i : Nat} {y : β}, b[i]? = some y → ∃ x, a[i]? = some x ∧ R x y
 := by
  intro a b x
  induction x with
  | nil => intro i y h; cases h
  | cons x _ ih =>
    intro i y h
    cases i with
    | zero => exact ⟨_, rfl, Option.some.inj h ▸ x⟩
    | succ i => exact ih (i := i) h
structure SpI (ps : List Pg) (t : Nat) (sp : SpG) (p : List Pg) : Prop where
  c : sp.c = p.length
  len : 1 ≤ p.length ∧ p.length ≤ 7
  keys : ∀ q, valueAt sp.kvs q ≠ none → 1 ≤ q ∧ q ≤ sp.c
  val : ∀ q, 1 ≤ q → q ≤ sp.c → (∃ u pg, valueAt sp.kvs q = some (.bytes pg u) ∧ p[(q - 1).toNat]? = some pg) ∨ (valueAt sp.kvs q = none ∧ q ≤ ps.length ∧ ps[(q - 1).toNat]? = p[(q - 1).toNat]?)
  small : sp.kvs.length ≤ 3 * t
noncomputable def PairI (a : SpG) (pa : List Pg) (b : SpG) (pb : List Pg) : Prop := ∀ q, 1 ≤ q → q ≤ a.c → valueAt a.kvs q = none → q ≤ b.c ∧ valueAt b.kvs q = none ∧ pb[(q - 1).toNat]? = pa[(q - 1).toNat]?
structure Inv (w : World) (ch : ChG) (ps : List Pg) (pp : List (List Pg)) (t : Nat) : Prop where
  ok : ch.Ok w
  c : ch.c = ps.length
  len : 1 ≤ ps.length ∧ ps.length ≤ 7
  keys : ∀ q, valueAt ch.kvs q ≠ none → 1 ≤ q ∧ q ≤ ch.c
  rd : ∀ q, 1 ≤ q → q ≤ ch.c → Rd ch q ∧ ∃ u pg, rdV ch q = .bytes pg u ∧ ps[(q - 1).toNat]? = some pg
  n : ch.sps.length = pp.length
  n4 : pp.length ≤ 4
  sp : ∀ (i : Nat) (sp : SpG) (p : List Pg), ch.sps[i]? = some sp → pp[i]? = some p → SpI ps t sp p
  pair : ∀ (i j : Nat) (a : SpG) (pa : List Pg) (b : SpG) (pb : List Pg), i < j → ch.sps[i]? = some a → pp[i]? = some pa → ch.sps[j]? = some b → pp[j]? = some pb → PairI a pa b pb
  small : ch.kvs.length ≤ 49 * t
theorem inv_put {w : World} {ch : ChG} {ps : List Pg} {pp : List (List Pg)} {t : Nat} (I : Inv w ch ps pp t) (ht : t ≤ 16) {page : Int} (h1 : 1 ≤ page) (h2 : page ≤ ch.c) {sps' : List SpG} {po' : Obj} {ob bs : Pg} {vt t' : Nat} (hv : rdV ch page = .bytes bs vt)
    (hd : po'.IsDictOf (intKind PySem.Challenge.rw_nt0093_01.row.prog w) (stored ch.kvs page (.bytes ob t'))) (A : All2 (KeptOne w page (.bytes bs vt)) ch.sps sps') :
    Inv w { ch with sps := sps', po := po', kvs := stored ch.kvs page (.bytes ob t') } (ps.set (page - 1).toNat ob) pp (t + 1) := by
  have hl := stored_length (kvs := ch.kvs) (k := page) (v := .bytes ob t')
  have hsm := I.small
  have hva : ∀ q, valueAt (stored ch.kvs page (.bytes ob t')) q = if q = page then some (.bytes ob t') else valueAt ch.kvs q := fun q => valueAt_stored q
  have hbs : ps[(page - 1).toNat]? = some bs := by
    obtain ⟨_, u, pg, e1, e2⟩ := I.rd page h1 h2
    rw [hv] at e1
    injection e1 with e1 _
    rw [e1]; exact e2
  have ok1 : ChG.Ok w { ch with sps := sps' } := ok_sps I.ok (A.imp fun _ _ r => ⟨r.same.1, r.same.2.1, r.same.2.2.1⟩) (All2.right (fun _ _ r => r.ok) A)
  have hc := I.c
  refine ⟨⟨hd, ok1.nm, by (show (stored ch.kvs page (.bytes ob t')).length ≤ 1000); omega, ?_, ok1.fvals, ok1.flen, ok1.nodup, ok1.sps⟩, by rw [List.length_set]; exact I.c, by rw [List.length_set]; exact I.len, ?_, ?_, by rw [← A.len]; exact I.n, I.n4, ?_, ?_, by (show (stored ch.kvs page (.bytes ob t')).length ≤ _); omega⟩
  · intro k v hk
    have hk : valueAt (stored ch.kvs page (.bytes ob t')) k = some v := hk
    rw [hva] at hk
    split at hk
    · exact ⟨ob, t', (Option.some.inj hk).symm⟩
    · exact I.ok.vals _ _ hk
  · intro q hq
    have hq : valueAt (stored ch.kvs page (.bytes ob t')) q ≠ none := hq
    rw [hva] at hq
    split at hq
    · subst q; exact ⟨h1, h2⟩
    · exact I.keys q hq
  · intro q hq1 hq2
    obtain ⟨r, u, pg, e1, e2⟩ := I.rd q hq1 hq2
    by_cases hq : q = page
    · subst hq
      refine ⟨⟨hq1, r.top, .inl ?_⟩, t', ob, ?_, ?_⟩
      · show valueAt (stored ch.kvs q (.bytes ob t')) q ≠ none
        rw [hva, if_pos rfl]; exact fun e => nomatch e
      · show (match valueAt (stored ch.kvs q (.bytes ob t')) q with | some v => v | none => _) = _
        rw [hva, if_pos rfl]
      · rw [List.getElem?_set_self]
        omega
    · refine ⟨⟨hq1, r.top, ?_⟩, u, pg, ?_, ?_⟩
      · show valueAt (stored ch.kvs page (.bytes ob t')) q ≠ none ∨ _
        rw [hva, if_neg hq]; exact r.there
      · rw [← e1]
        show (match valueAt (stored ch.kvs page (.bytes ob t')) q with | some v => v | none => _) = rdV ch q
        rw [hva, if_neg hq]; rfl
      · rw [List.getElem?_set_ne (by omega)]; exact e2
  · intro i sp' p hs hp
    obtain ⟨sp, hsp, k⟩ := A.getR hs
    have S := I.sp i sp p hsp hp
    have hkv : ∀ q, valueAt sp'.kvs q = if page ≤ sp.c ∧ valueAt sp.kvs page = none ∧ q = page then some (.bytes bs vt) else valueAt sp.kvs q := fun q => by
      rw [k.kvs]
      by_cases hh : page ≤ sp.c ∧ valueAt sp.kvs page = none
      · rw [if_pos hh, valueAt_stored]
        by_cases hq : q = page
        · rw [if_pos hq, if_pos ⟨hh.1, hh.2, hq⟩]
        · rw [if_neg hq, if_neg (fun x => hq x.2.2)]
      · rw [if_neg hh, if_neg (fun x => hh ⟨x.1, x.2.1⟩)]
    have ec := k.same.2.2.2
    refine ⟨by rw [ec]; exact S.c, S.len, fun q hq => ?_, fun q hq1 hq2 => ?_, ?_⟩
    · rw [hkv] at hq
      rw [ec]
      split at hq
      · rename_i x
        rw [x.2.2]; exact ⟨h1, x.1⟩
      · exact S.keys q hq
    · rw [ec] at hq2
      rw [hkv, List.length_set]
      rcases S.val q hq1 hq2 with ⟨u, pg, e1, e2⟩ | ⟨e1, e2, e3⟩
      · refine .inl ⟨u, pg, ?_, e2⟩
        rw [if_neg, e1]
        rintro ⟨_, x, rfl⟩
        rw [e1] at x; cases x
      · by_cases hq : q = page
        · subst hq
          rw [if_pos ⟨hq2, e1, rfl⟩]
          exact .inl ⟨vt, bs, rfl, by rw [← e3]; exact hbs⟩
        · rw [if_neg (fun x => hq x.2.2)]
          exact .inr ⟨e1, e2, by rw [List.getElem?_set_ne (by omega)]; exact e3⟩
    · have := S.small
      rw [k.kvs]
      split
      · have := stored_length (kvs := sp.kvs) (k := page) (v := .bytes bs vt)
        omega
      · omega
  · intro i j a' pa b' pb hij ha' hpa hb' hpb q hq1 hq2 hn
    obtain ⟨a, ha, ka⟩ := A.getR ha'
    obtain ⟨b, hb, kb⟩ := A.getR hb'
    have P := I.pair i j a pa b pb hij ha hpa hb hpb
    rw [ka.same.2.2.2] at hq2
    rw [kb.same.2.2.2]
    rw [ka.kvs] at hn
    rw [kb.kvs]
    by_cases hq : q = page
    · subst hq
      by_cases x : valueAt a.kvs q = none
      · rw [if_pos ⟨hq2, x⟩, valueAt_stored, if_pos rfl] at hn; cases hn
      · rw [if_neg (fun z => x z.2)] at hn; exact absurd hn x
    · have hn' : valueAt a.kvs q = none := by
        split at hn
        · rwa [valueAt_stored, if_neg hq] at hn
        · exact hn
      obtain ⟨y1, y2, y3⟩ := P q hq1 hq2 hn'
      refine ⟨y1, ?_, y3⟩
      split
      · rw [valueAt_stored, if_neg hq]; exact y2
      · exact y2
end SD7
section SD8
theorem inv_extend {w : World} {ch : ChG} {ps : List Pg} {pp : List (List Pg)} {t : Nat} (I : Inv w ch ps pp t) (ht : t ≤ 16) (hlt : ps.length < 7) {po' : Obj} {ct' bt : Nat} {z : Pg}
    (hd : po'.IsDictOf (intKind PySem.Challenge.rw_nt0093_01.row.prog w) (stored ch.kvs (ch.c + 1) (.bytes z bt))) :
    Inv w { ch with c := ch.c + 1, ct := ct', po := po', kvs := stored ch.kvs (ch.c + 1) (.bytes z bt) } (ps ++ [z]) pp (t + 1) := by
  have hl := stored_length (kvs := ch.kvs) (k := ch.c + 1) (v := .bytes z bt)
  have hsm := I.small
  have hc := I.c
  have hva : ∀ q, valueAt (stored ch.kvs (ch.c + 1) (.bytes z bt)) q = if q = ch.c + 1 then some (.bytes z bt) else valueAt ch.kvs q := fun q => valueAt_stored q
  refine ⟨⟨hd, I.ok.nm, by (show (stored ch.kvs (ch.c + 1) (.bytes z bt)).length ≤ 1000); omega, ?_, I.ok.fvals, I.ok.flen, I.ok.nodup, I.ok.sps⟩, by (show ch.c + 1 = _); rw [List.length_append, List.length_singleton]; push_cast; omega, ⟨by rw [List.length_append, List.length_singleton]; omega, by rw [List.length_append, List.length_singleton]; omega⟩, ?_, ?_, I.n, I.n4, ?_, I.pair, by (show (stored ch.kvs (ch.c + 1) (.bytes z bt)).length ≤ _); omega⟩
  · intro k v hk
    have hk : valueAt (stored ch.kvs (ch.c + 1) (.bytes z bt)) k = some v := hk
    rw [hva] at hk
    split at hk
    · exact ⟨z, bt, (Option.some.inj hk).symm⟩
    · exact I.ok.vals _ _ hk
  · intro q hq
    have hq : valueAt (stored ch.kvs (ch.c + 1) (.bytes z bt)) q ≠ none := hq
    show 1 ≤ q ∧ q ≤ ch.c + 1
    rw [hva] at hq
    split at hq
    · omega
    · have := I.keys q hq
      omega
  · intro q hq1 hq2
    have hq2 : q ≤ ch.c + 1 := hq2
    by_cases hq : q = ch.c + 1
    · subst hq
      refine ⟨⟨hq1, by omega, .inl ?_⟩, bt, z, ?_, ?_⟩
      · show valueAt (stored ch.kvs (ch.c + 1) (.bytes z bt)) (ch.c + 1) ≠ none
        rw [hva, if_pos rfl]; exact fun e => nomatch e
      · show (match valueAt (stored ch.kvs (ch.c + 1) (.bytes z bt)) (ch.c + 1) with | some v => v | none => _) = _
        rw [hva, if_pos rfl]
      · rw [show (ch.c + 1 - 1).toNat = ps.length from by omega]
        simp
    · obtain ⟨r, u, pg, e1, e2⟩ := I.rd q hq1 (by omega)
      refine ⟨⟨hq1, r.top, ?_⟩, u, pg, ?_, ?_⟩
      · show valueAt (stored ch.kvs (ch.c + 1) (.bytes z bt)) q ≠ none ∨ _
        rw [hva, if_neg hq]; exact r.there
      · rw [← e1]
        show (match valueAt (stored ch.kvs (ch.c + 1) (.bytes z bt)) q with | some v => v | none => _) = rdV ch q
        rw [hva, if_neg hq]; rfl
      · rw [List.getElem?_append_left (by omega)]; exact e2
  · intro i sp p hs hp
    have S := I.sp i sp p hs hp
    refine ⟨S.c, S.len, S.keys, fun q hq1 hq2 => ?_, by have := S.small; omega⟩
    rcases S.val q hq1 hq2 with x | ⟨e1, e2, e3⟩
    · exact .inl x
    · refine .inr ⟨e1, ?_, ?_⟩
      · rw [List.length_append, List.length_singleton]; push_cast; omega
      · rw [List.getElem?_append_left (by omega)]; exact e3
theorem inv_cut {w : World} {ch : ChG} {ps : List Pg} {pp : List (List Pg)} {t : Nat} (I : Inv w ch ps pp t) (ht : t ≤ 16) {c : Int} {ct' : Nat} (h1 : 1 ≤ c) (h2 : c ≤ ch.c) (h3 : ch.c - c ≤ 3) {sps' : List SpG} {po' : Obj} {kvs' : List (Int × Value)}
    (hd : po'.IsDictOf (intKind PySem.Challenge.rw_nt0093_01.row.prog w) kvs') (A : All2 (KeptR w (rdV ch) c (ch.c - c).toNat) ch.sps sps') (hl : kvs'.length ≤ ch.kvs.length) (hva : ∀ q, valueAt kvs' q = if c < q ∧ q ≤ ch.c then none else valueAt ch.kvs q) :
    Inv w { ch with sps := sps', po := po', kvs := kvs', c := c, ct := ct' } (ps.take c.toNat) pp (t + 1) := by
  have hsm := I.small
  have hc := I.c
  have hlen := I.len
  have ok1 : ChG.Ok w { ch with sps := sps' } := ok_sps I.ok (A.imp fun _ _ r => r.same) (All2.right (fun _ _ r => r.ok) A)
  have lt : (ps.take c.toNat).length = c.toNat := by rw [List.length_take]; omega
  refine ⟨⟨hd, ok1.nm, by (show kvs'.length ≤ 1000); omega, ?_, ok1.fvals, ok1.flen, ok1.nodup, ok1.sps⟩, by (show c = _); rw [lt]; omega, by rw [lt]; omega, ?_, ?_, by rw [← A.len]; exact I.n, I.n4, ?_, ?_, by (show kvs'.length ≤ _); omega⟩
  · intro k v hk
    have hk : valueAt kvs' k = some v := hk
    rw [hva] at hk
    split at hk
    · cases hk
    · exact I.ok.vals _ _ hk
  · intro q hq
    have hq : valueAt kvs' q ≠ none := hq
    show 1 ≤ q ∧ q ≤ c
    rw [hva] at hq
    split at hq
    · exact absurd rfl hq
    · rename_i x
      have := I.keys q hq
      omega
  · intro q hq1 hq2
    have hq2 : q ≤ c := hq2
    obtain ⟨r, u, pg, e1, e2⟩ := I.rd q hq1 (by omega)
    have hv : valueAt kvs' q = valueAt ch.kvs q := by rw [hva, if_neg (by omega)]
    refine ⟨⟨hq1, r.top, ?_⟩, u, pg, ?_, ?_⟩
    · show valueAt kvs' q ≠ none ∨ _
      rw [hv]; exact r.there
    · rw [← e1]
      show (match valueAt kvs' q with | some v => v | none => _) = rdV ch q
      rw [hv]; rfl
    · rw [List.getElem?_take_of_lt (by omega)]; exact e2
  · intro i sp' p hs hp
    obtain ⟨sp, hsp, k⟩ := A.getR hs
    have S := I.sp i sp p hsp hp
    have hkv := k.val
    rw [show c + ((ch.c - c).toNat : Int) = ch.c from by omega] at hkv
    refine ⟨by rw [k.c]; exact S.c, S.len, fun q hq => ?_, fun q hq1 hq2 => ?_, ?_⟩
    · rw [hkv] at hq
      rw [k.c]
      split at hq
      · rename_i x
        omega
      · exact S.keys q hq
    · rw [k.c] at hq2
      rw [hkv, lt]
      rcases S.val q hq1 hq2 with ⟨u, pg, e1, e2⟩ | ⟨e1, e2, e3⟩
      · refine .inl ⟨u, pg, ?_, e2⟩
        rw [if_neg (fun x => by rw [e1] at x; cases x.1)]
        exact e1
      · by_cases hq : c < q
        · obtain ⟨r, u, pg, y1, y2⟩ := I.rd q hq1 (by omega)
          rw [if_pos ⟨e1, hq, by omega, hq2⟩, y1]
          exact .inl ⟨u, pg, rfl, by rw [← e3]; exact y2⟩
        · rw [if_neg (fun x => hq x.2.1)]
          exact .inr ⟨e1, by omega, by rw [List.getElem?_take_of_lt (by omega)]; exact e3⟩
    · have := S.small
      have := k.len
      omega
  · intro i j a' pa b' pb hij ha' hpa hb' hpb q hq1 hq2 hn
    obtain ⟨a, ha, ka⟩ := A.getR ha'
    obtain ⟨b, hb, kb⟩ := A.getR hb'
    have P := I.pair i j a pa b pb hij ha hpa hb hpb
    have hka := ka.val
    have hkb := kb.val
    rw [show c + ((ch.c - c).toNat : Int) = ch.c from by omega] at hka hkb
    rw [ka.c] at hq2
    rw [kb.c]
    rw [hka] at hn
    split at hn
    · cases hn
    · rename_i x
      obtain ⟨y1, y2, y3⟩ := P q hq1 hq2 hn
      refine ⟨y1, ?_, y3⟩
      rw [hkb, if_neg]
      · exact y2
      · rintro ⟨_, z1, z2, _⟩
        exact x ⟨hn, z1, z2, hq2⟩
end SD8
section SD9
theorem get_snoc {α : Type} {l : List α} {a b : α} {i : Nat} (h : (l ++ [a])[i]? = some b) : l[i]? = some b ∨ (i = l.length ∧ b = a) := by
  rw [List.getElem?_append] at h
  split at h
  · exact .inl h
  · rename_i hi
    cases hj : i - l.length with
    | zero => rw [hj] at h; exact .inr ⟨by omega, (Option.some.inj h).symm⟩
    | succ n => rw [hj] at h; simp at h
theorem get_lt {α : Type} {l : List α} {b : α} {i : Nat} (h : l[i]? = some b) : i < l.length := by
  rcases Nat.lt_or_ge i l.length with q | q
  · exact q
  · rw [List.getElem?_eq_none q] at h; cases h
theorem inv_open {w : World} {ch : ChG} {ps : List Pg} {pp : List (List Pg)} {t : Nat} (I : Inv w ch ps pp t) (hpp : pp.length < 4) {sp : SpG} {sn' : Nat} (hc : sp.c = ch.c) (hk : sp.kvs = []) (hok : ChG.Ok w { ch with sn := sn', sps := ch.sps ++ [sp] }) :
    Inv w { ch with sn := sn', sps := ch.sps ++ [sp] } ps (pp ++ [ps]) (t + 1) := by
  have hsm := I.small
  have hcl := I.c
  have hn := I.n
  refine ⟨hok, I.c, I.len, I.keys, fun q z1 z2 => ⟨⟨(I.rd q z1 z2).1.pos, (I.rd q z1 z2).1.top, (I.rd q z1 z2).1.there⟩, (I.rd q z1 z2).2⟩, by (show (ch.sps ++ [sp]).length = _); rw [List.length_append, List.length_append, I.n]; rfl, by rw [List.length_append, List.length_singleton]; omega, ?_, ?_, by (show ch.kvs.length ≤ _); omega⟩
  · intro i s1 p h1 h2
    have h1 : (ch.sps ++ [sp])[i]? = some s1 := h1
    rcases get_snoc h1 with h1 | ⟨h1, rfl⟩
    · rcases get_snoc h2 with h2 | ⟨h2, rfl⟩
      · have S := I.sp i s1 p h1 h2
        exact ⟨S.c, S.len, S.keys, S.val, by have := S.small; omega⟩
      · have := get_lt h1; omega
    · rcases get_snoc h2 with h2 | ⟨h2, rfl⟩
      · have := get_lt h2; omega
      · refine ⟨by rw [hc]; exact I.c, I.len, fun q hq => ?_, fun q hq1 hq2 => .inr ⟨?_, by omega, rfl⟩, by rw [hk]; exact Nat.zero_le _⟩
        · rw [hk] at hq; simp [valueAt] at hq
        · rw [hk]; simp [valueAt]
  · intro i j a pa b pb hij ha hpa hb hpb
    have ha : (ch.sps ++ [sp])[i]? = some a := ha
    have hb : (ch.sps ++ [sp])[j]? = some b := hb
    rcases get_snoc ha with ha1 | ⟨ha1, rfl⟩
    · rcases get_snoc hpa with hpa1 | ⟨hpa1, rfl⟩
      · rcases get_snoc hb with hb1 | ⟨hb1, rfl⟩
        · rcases get_snoc hpb with hpb1 | ⟨hpb1, rfl⟩
          · exact I.pair i j a pa b pb hij ha1 hpa1 hb1 hpb1
          · have := get_lt hb1; omega
        · rcases get_snoc hpb with hpb1 | ⟨hpb1, rfl⟩
          · have := get_lt hpb1; omega
          · intro q hq1 hq2 hq3
            rcases (I.sp i a pa ha1 hpa1).val q hq1 hq2 with ⟨u, pg, e1, _⟩ | ⟨e1, e2, e3⟩
            · rw [hq3] at e1; cases e1
            · refine ⟨by omega, ?_, e3⟩
              rw [hk]; simp [valueAt]
      · have := get_lt ha1; omega
    · have := get_lt hb
      rw [List.length_append, List.length_singleton] at this
      omega
theorem inv_take {w : World} {ch : ChG} {ps : List Pg} {pp : List (List Pg)} {t : Nat} (I : Inv w ch ps pp t) (d : Nat) {sn' : Nat} (hok : ChG.Ok w { ch with sn := sn', sps := ch.sps.take d }) :
    Inv w { ch with sn := sn', sps := ch.sps.take d } ps (pp.take d) (t + 1) := by
  have hsm := I.small
  have hn := I.n
  have hn4 := I.n4
  have sub : ∀ {α : Type} {l : List α} {i : Nat} {a : α}, (l.take d)[i]? = some a → l[i]? = some a := fun h => by
    rw [List.getElem?_take] at h
    split at h
    · exact h
    · cases h
  refine ⟨hok, I.c, I.len, I.keys, fun q z1 z2 => ⟨⟨(I.rd q z1 z2).1.pos, (I.rd q z1 z2).1.top, (I.rd q z1 z2).1.there⟩, (I.rd q z1 z2).2⟩, by (show (ch.sps.take d).length = _); rw [List.length_take, List.length_take, I.n], by rw [List.length_take]; omega, ?_, ?_, by (show ch.kvs.length ≤ _); omega⟩
  · intro i s1 p h1 h2
    have S := I.sp i s1 p (sub h1) (sub h2)
    exact ⟨S.c, S.len, S.keys, S.val, by have := S.small; omega⟩
  · intro i j a pa b pb hij ha hpa hb hpb
    exact I.pair i j a pa b pb hij (sub ha) (sub hpa) (sub hb) (sub hpb)
theorem inv_rollback {w : World} {ch : ChG} {ps : List Pg} {pp : List (List Pg)} {t : Nat} (I : Inv w ch ps pp t) (ht : t ≤ 16) {d : Nat} {sp : SpG} {p : List Pg} (hsp : ch.sps[d]? = some sp) (hp : pp[d]? = some p) {pg' sn' : Nat} {po' o' : Obj} {kvs' : List (Int × Value)}
    (hok : ChG.Ok w { ch with c := sp.c, ct := sp.ct, po := po', kvs := kvs', sn := sn', sps := ch.sps.take d ++ [{ sp with pg := pg', o := o', kvs := [] }] }) (hl : kvs'.length ≤ ch.kvs.length + sp.kvs.length)
    (hva : ∀ q, valueAt kvs' q = if valueAt sp.kvs q ≠ none then valueAt sp.kvs q else if sp.c < q ∧ q ≤ ch.c then none else valueAt ch.kvs q) :
    Inv w { ch with c := sp.c, ct := sp.ct, po := po', kvs := kvs', sn := sn', sps := ch.sps.take d ++ [{ sp with pg := pg', o := o', kvs := [] }] } p (pp.take (d + 1)) (t + 1) := by
  have hsm := I.small
  have hn := I.n
  have hn4 := I.n4
  have hcl := I.c
  have S := I.sp d sp p hsp hp
  have hSs := S.small
  have hSc := S.c
  have hSl := S.len
  have hd1 := get_lt hsp
  have hd2 := get_lt hp
  have e3 := (take_drop_at hp).2.2
  have lt1 : (ch.sps.take d).length = d := by rw [List.length_take]; omega
  have lt2 : (pp.take d).length = d := by rw [List.length_take]; omega
  have sub : ∀ {α : Type} {l : List α} {i : Nat} {a : α}, (l.take d)[i]? = some a → l[i]? = some a := fun h => by
    rw [List.getElem?_take] at h
    split at h
    · exact h
    · cases h
  have nil : ∀ q, valueAt ([] : List (Int × Value)) q = none := fun q => by simp [valueAt]
  rw [e3]
  refine ⟨hok, S.c, S.len, ?_, ?_, ?_, ?_, ?_, ?_, by (show kvs'.length ≤ _); omega⟩
  · intro q hq
    have hq : valueAt kvs' q ≠ none := hq
    show 1 ≤ q ∧ q ≤ sp.c
    rw [hva] at hq
    split at hq
    · rename_i x; exact S.keys q x
    · split at hq
      · exact absurd rfl hq
      · have := I.keys q hq
        omega
  · intro q hq1 hq2
    have hq2 : q ≤ sp.c := hq2
    have hv : valueAt kvs' q = if valueAt sp.kvs q ≠ none then valueAt sp.kvs q else valueAt ch.kvs q := by
      rw [hva]
      split
      · rfl
      · rw [if_neg (by omega)]
    rcases S.val q hq1 hq2 with ⟨u, pg, e1, e2⟩ | ⟨e1, e2, e3⟩
    · have hv2 : valueAt kvs' q = some (.bytes pg u) := by rw [hv, if_pos (by rw [e1]; exact fun z => nomatch z), e1]
      refine ⟨⟨hq1, by omega, .inl ?_⟩, u, pg, ?_, e2⟩
      · show valueAt kvs' q ≠ none
        rw [hv2]; exact fun z => nomatch z
      · show (match valueAt kvs' q with | some v => v | none => _) = _
        rw [hv2]
    · have hv2 : valueAt kvs' q = valueAt ch.kvs q := by rw [hv, if_neg (by rw [e1]; exact fun z => z rfl)]
      obtain ⟨r, u, pg, y1, y2⟩ := I.rd q hq1 (by omega)
      refine ⟨⟨hq1, r.top, ?_⟩, u, pg, ?_, by rw [← e3]; exact y2⟩
      · show valueAt kvs' q ≠ none ∨ _
        rw [hv2]; exact r.there
      · rw [← y1]
        show (match valueAt kvs' q with | some v => v | none => _) = rdV ch q
        rw [hv2]; rfl
  · show (ch.sps.take d ++ [_]).length = _
    rw [List.length_append, List.length_append, lt1, lt2]; rfl
  · rw [List.length_append, lt2, List.length_singleton]; omega
  · intro i s1 p1 h1 h2
    have h1 : (ch.sps.take d ++ [_])[i]? = some s1 := h1
    rcases get_snoc h1 with h1 | ⟨h1, rfl⟩
    · rcases get_snoc h2 with h2 | ⟨h2, rfl⟩
      · have hi := get_lt h2
        have hS1 := I.sp i s1 p1 (sub h1) (sub h2)
        have P := I.pair i d s1 p1 sp p (by omega) (sub h1) (sub h2) hsp hp
        refine ⟨hS1.c, hS1.len, hS1.keys, fun q hq1 hq2 => ?_, by have := hS1.small; omega⟩
        rcases hS1.val q hq1 hq2 with x | ⟨x1, x2, x3⟩
        · exact .inl x
        · obtain ⟨y1, y2, y3⟩ := P q hq1 hq2 x1
          exact .inr ⟨x1, by omega, y3⟩
      · have := get_lt h1; omega
    · rcases get_snoc h2 with h2 | ⟨h2, rfl⟩
      · have := get_lt h2; omega
      · exact ⟨S.c, S.len, fun q hq => absurd (nil q) hq, fun q hq1 hq2 => .inr ⟨nil q, by (have hq2 : q ≤ sp.c := hq2); omega, rfl⟩, Nat.zero_le _⟩
  · intro i j a pa b pb hij ha hpa hb hpb
    have ha : (ch.sps.take d ++ [_])[i]? = some a := ha
    have hb : (ch.sps.take d ++ [_])[j]? = some b := hb
    rcases get_snoc ha with ha1 | ⟨ha1, rfl⟩
    · rcases get_snoc hpa with hpa1 | ⟨hpa1, rfl⟩
      · rcases get_snoc hb with hb1 | ⟨hb1, rfl⟩
        · rcases get_snoc hpb with hpb1 | ⟨hpb1, rfl⟩
          · exact I.pair i j a pa b pb hij (sub ha1) (sub hpa1) (sub hb1) (sub hpb1)
          · have := get_lt hb1; omega
        · rcases get_snoc hpb with hpb1 | ⟨hpb1, rfl⟩
          · have := get_lt hpb1; omega
          · have hi := get_lt hpa1
            have P := I.pair i d a pa sp pb (by omega) (sub ha1) (sub hpa1) hsp hp
            intro q hq1 hq2 hq3
            obtain ⟨y1, y2, y3⟩ := P q hq1 hq2 hq3
            exact ⟨y1, nil q, y3⟩
      · have := get_lt ha1; omega
    · have := get_lt hb
      rw [List.length_append, List.length_singleton] at this
      omega
end SD9
section SP0
noncomputable abbrev dl (P : Params) (ch : ChG) (src : Nat) (so : Obj) (rest : List (Addr × Obj)) : List (Addr × Obj) :=
  (src, so) :: (ch.x, instObj 191 ch.dx) :: (ch.dx, chD P (.ref ch.st) (.int ch.c ch.ct) (.ref ch.pg) (.ref ch.sv) ch.t1 ch.t2 ch.t3 ch.t4) :: (ch.l P ++ rest)
theorem mem_dl {P : Params} {ch : ChG} {src : Nat} {so : Obj} {rest l : List (Addr × Obj)} (h1 : (src, so) ∈ l) (h2 : ∀ p ∈ ch.l P, p ∈ l) (h3 : ∀ p ∈ rest, p ∈ l) : ∀ p ∈ dl P ch src so rest, p ∈ l := by
  intro p hp
  rcases List.mem_cons.mp hp with rfl | hp
  · exact h1
  rcases List.mem_cons.mp hp with rfl | hp
  · exact h2 _ (.head _)
  rcases List.mem_cons.mp hp with rfl | hp
  · exact h2 _ (.tail _ (.head _))
  exact (List.mem_append.mp hp).elim (h2 p) (h3 p)
theorem step_dl {P : Params} {g h h' : Heap} {L : Addr} {m : Str → Option Value} {ch ch' : ChG} {src : Nat} {so : Obj} {rest fo : List (Addr × Obj)} (F : Fr g L h m) (N : News g L h (dl P ch src so rest)) (hsrc : src ∉ ch.as) (hrest : ∀ q ∈ rest, q.1 ∉ ch.as)
    (T : Step g (ch.l P) (ch'.l P ++ fo) h h') : Fr g L h' m ∧ News g L h' (fo ++ dl P ch' src so rest) ∧ src ∉ ch'.as ∧ (∀ q ∈ rest, q.1 ∉ ch'.as) ∧ (∀ q ∈ fo, q.1 ∈ ch.as ∨ h.get? q.1 = none) := by
  have hf : ∀ p ∈ ch.l P, p ∈ dl P ch src so rest := fun p hp => .tail _ (.tail _ (.tail _ (List.mem_append_left _ hp)))
  have F' := after_fr F N hf T
  have N' := after_news (rest := (src, so) :: rest) F N hf (fun p hp => by
    rcases List.mem_cons.mp hp with rfl | hp
    · exact .head _
    · exact .tail _ (.tail _ (.tail _ (List.mem_append_right _ hp)))) (fun p hp => by
    rw [ChG.l_as]
    rcases List.mem_cons.mp hp with rfl | hp
    · exact hsrc
    · exact hrest p hp) T
  have out : ∀ q : Addr × Obj, h.get? q.1 = some q.2 → q.1 ∉ ch.as → q.1 ∉ ch'.as := fun q hq hn hm => by
    rw [← ChG.l_as P] at hm
    obtain ⟨p, hp, e⟩ := List.mem_map.mp hm
    rcases T.new p (List.mem_append_left _ hp) with x | x
    · rw [ChG.l_as, e] at x; exact hn x
    · rw [e, hq] at x; cases x
  refine ⟨F', news_sub N' ?_, out (src, so) (N _ (.head _)).1 hsrc, fun q hq => out q (N q (.tail _ (.tail _ (.tail _ (List.mem_append_right _ hq))))).1 (hrest q hq), fun q hq => ?_⟩
  · intro p hp
    rcases List.mem_append.mp hp with hp | hp
    · exact List.mem_append_left _ (List.mem_append_right _ hp)
    · exact mem_dl (List.mem_append_right _ (.head _)) (fun p hp => List.mem_append_left _ (List.mem_append_left _ hp)) (fun p hp => List.mem_append_right _ (.tail _ hp)) p hp
  · rw [← ChG.l_as P]
    exact T.new q (List.mem_append_right _ hq)
theorem dl_ne {P : Params} {ch : ChG} {src : Nat} {rest : List (Addr × Obj)} (hsrc : src ∉ ch.as) (hr : ∀ q ∈ rest, q.1 ≠ src) : @Ne Nat src ch.x ∧ @Ne Nat src ch.dx ∧ ∀ p ∈ ch.l P ++ rest, p.1 ≠ src := by
  refine ⟨fun e => hsrc (by rw [e]; simp [ChG.as]), fun e => hsrc (by rw [e]; simp [ChG.as]), fun p hp e => ?_⟩
  rcases List.mem_append.mp hp with q | q
  · exact hsrc (by rw [← ChG.l_as P ch, ← e]; exact List.mem_map_of_mem q)
  · exact hr p q e
theorem page_K {w : World} {mean : ExcName → Option Value} {mg mb : Str → Option Value} {g : Heap} {L : Addr} {mm : Str → Option Value} {news : List (Addr × Obj)} {gU : Obj → List (Addr × Obj)} {dep un : Nat} {fr : Option (List Env)} {gs : Option (List Code)} {s : Shared} {Q : Value → Shared → Prop} {E : Value → Shared → Prop}
    {src : Addr} {n : Nat} {d m : Int} {td tm : Tok} (F : Fr g L s.heap mm) (N : News g L s.heap news) (S : Sta w mean mg mb g) (hroom : dep + 1 < recursionLimit) (U : UpdF src (srcO d m td tm n) news gU) (hd : 0 ≤ d) (hm : 0 ≤ m ∧ m < 2147483647)
    (h : ∀ h' bs tb d' td' m' tm' tk, Fr g L h' mm → News g L h' (gU (srcO d' m' td' tm' n)) → bs.size = 8 → 0 ≤ d' → (0 ≤ m' ∧ m' < 2147483647) → Q (.bytes bs tb) { s with heap := h', toks := tk }) :
    wpAny (model PySem.Challenge.rw_nt0093_01.row.prog w) (⟨none, dep, fr, gs, un⟩ : Around) (call (.ref 216) [.ref src]) Q E s := by
  refine wpAny_call (page_spec S hroom F.keep (own_upd N U) hd hm ?_)
  intro h' bs tb d' td' m' tm' tk T a c d e
  obtain ⟨F', N'⟩ := after_upd F N U T
  exact h h' bs tb d' td' m' tm' tk F' N' a c ⟨d, e⟩
noncomputable def PilesIn (oth : List (Addr × Obj)) (pa pi : Addr) (ps : List Pg) (pp : List (List Pg)) : Prop :=
  ∃ vs n pas pn, (pa, listOf (List.toArray vs) n) ∈ oth ∧ PgsAre vs ps ∧ (pi, listOf (List.toArray (pas.map Value.ref)) pn) ∈ oth ∧ All2 (fun a p => ∃ ws m, (a, listOf (List.toArray ws) m) ∈ oth ∧ PgsAre ws p) pas pp
theorem PilesIn.mono {oth oth' : List (Addr × Obj)} {pa pi : Addr} {ps : List Pg} {pp : List (List Pg)} (h : PilesIn oth pa pi ps pp) (hs : ∀ p ∈ oth, p ∈ oth') : PilesIn oth' pa pi ps pp := by
  obtain ⟨vs, n, pas, pn, a, b, c, d⟩ := h
  exact ⟨vs, n, pas, pn, hs _ a, b, hs _ c, d.imp fun _ _ ⟨ws, m, x, y⟩ => ⟨ws, m, hs _ x, y⟩⟩
structure SameCh (a b : ChG) : Prop where
  x : b.x = a.x
  st : b.st = a.st
  sd : b.sd = a.sd
  sl : b.sl = a.sl
  tp : b.tp = a.tp
  ln : b.ln = a.ln
  first : b.first = a.first
noncomputable def DeedPost (w : World) (b : Heap) (foot : List (Addr × Obj)) (s : Shared) (ch : ChG) (src n : Nat) (frs oth : List (Addr × Obj)) (t : Nat) (R : Result → Shared → Prop) : Prop :=
  ∀ h' ch' d' m' td' tm' frs' oth2 (r pa' pi' rn tk : Nat) ps' pp', Step b foot (oth2 ++ (src, srcO d' m' td' tm' n) :: (ChG.l w.params ch' ++ frs')) s.heap h' → SameFr frs frs' → Inv w ch' ps' pp' (t + 1) → 0 ≤ d' → (0 ≤ m' ∧ m' < 2147483647) → SameCh ch ch' →
    src ∉ ch'.as → (∀ q ∈ frs', q.1 ∉ ch'.as) → (r, listOf #[.ref pa', .ref pi'] rn) ∈ oth2 → PilesIn (oth ++ oth2) pa' pi' ps' pp' → (∀ p ∈ oth2, p.1 ≠ src ∧ p.1 ∉ ch'.as ∧ p.1 ∉ frs'.map (·.1)) → R (.ok (.ret (.ref r))) { s with heap := h', toks := tk }
theorem deed_off {P : Params} {ch' : ChG} {src : Nat} {so : Obj} {frs' oth2 : List (Addr × Obj)} (h : ∀ p ∈ oth2, ∀ q ∈ dl P ch' src so frs', @LT.lt Nat _ q.1 p.1) : ∀ p ∈ oth2, p.1 ≠ src ∧ p.1 ∉ ch'.as ∧ p.1 ∉ frs'.map (·.1) := by
  intro p hp
  refine ⟨fun e => ?_, fun q => ?_, fun q => ?_⟩
  · exact Nat.lt_irrefl _ (e ▸ h p hp _ (.head _))
  · rw [← ChG.l_as P] at q
    obtain ⟨x, hx, e⟩ := List.mem_map.mp q
    exact Nat.lt_irrefl _ (e ▸ h p hp x (.tail _ (.tail _ (.tail _ (List.mem_append_left _ hx)))))
  · obtain ⟨x, hx, e⟩ := List.mem_map.mp q
    exact Nat.lt_irrefl _ (e ▸ h p hp x (.tail _ (.tail _ (.tail _ (List.mem_append_right _ hx)))))
theorem add_K {prog : Program} {w : World} {A : Around} {E : Value → Shared → Prop} {s : Shared} {g : Heap} {L a b : Addr} {m : Str → Option Value} {news : List (Addr × Obj)} {its its2 : Array Value} {Q : Value → Shared → Prop} (F : Fr g L s.heap m) (N : News g L s.heap news) (ha : s.heap.IsList a its) (hb : s.heap.IsList b its2)
    (h : ∀ D h', Fr g L h' m → News g L h' ((D, listOf (its.toList ++ its2.toList).toArray 0) :: news) → (∀ p ∈ news, p.1 < D) → Q (.ref D) { s with heap := h' })
    (hz : its.size + its2.size ≤ sizeLine) : wpAny (model prog w) A (binaryOp .Add (.ref a) (.ref b)) Q E s :=
  add_arrays (hsz := hz) F N ha hb fun h' F' N' => h _ h' F' N' fun p hp => Heap.lt_size (N p hp).1
theorem pgs_take {vs : List Value} {ps : List Pg} (h : PgsAre vs ps) (k : Nat) : PgsAre (vs.take k) (ps.take k) := by
  induction h generalizing k with
  | nil => simp; exact .nil
  | cons x _ ih => cases k with
    | zero => exact .nil
    | succ k => exact .cons x (ih k)
theorem pgs_drop {vs : List Value} {ps : List Pg} (h : PgsAre vs ps) (k : Nat) : PgsAre (vs.drop k) (ps.drop k) := by
  induction h generalizing k with
  | nil => simp; exact .nil
  | cons x r ih => cases k with
    | zero => exact .cons x r
    | succ k => exact ih k
theorem pgs_append {vs ws : List Value} {ps qs : List Pg} (h : PgsAre vs ps) (k : PgsAre ws qs) : PgsAre (vs ++ ws) (ps ++ qs) := by
  induction h with
  | nil => exact k
  | cons x _ ih => exact .cons x ih
theorem pgs_set {vs : List Value} {ps : List Pg} {bs : Pg} {tb : Nat} {i : Nat} (h : PgsAre vs ps) (hi : i < ps.length) : PgsAre ((vs.take i ++ [Value.bytes bs tb]) ++ vs.drop (i + 1)) (ps.set i bs) := by
  rw [List.set_eq_take_append_cons_drop, if_pos hi, show ps.take i ++ bs :: ps.drop (i + 1) = (ps.take i ++ [bs]) ++ ps.drop (i + 1) from by simp]
  exact pgs_append (pgs_append (pgs_take h i) (.cons ⟨tb, rfl⟩ .nil)) (pgs_drop h _)
end SP0
section SP2
theorem Step.widen {b h h' : Heap} {foot foot' rest : List (Addr × Obj)} (T : Step b foot foot' h h') (O : Own b h rest) (hd : ∀ p ∈ rest, p.1 ∉ foot.map (·.1)) : Step b (foot ++ rest) (foot' ++ rest) h h' where
  own := fun p hp => (List.mem_append.mp hp).elim (T.own p) fun q => ⟨T.kept _ _ (O p q).1 (hd p q), (O p q).2⟩
  kept := fun a o e n => T.kept a o e fun q => n (by rw [List.map_append]; exact List.mem_append_left _ q)
  new := fun p hp => by
    rw [List.map_append]
    rcases List.mem_append.mp hp with q | q
    · exact (T.new p q).imp (List.mem_append_left _) id
    · exact .inl (List.mem_append_right _ (List.mem_map_of_mem q))
theorem Step.recut {b h h' : Heap} {foot foot' f1 f1' : List (Addr × Obj)} (T : Step b foot foot' h h') (hf : ∀ a, a ∈ foot.map (·.1) ↔ a ∈ f1.map (·.1)) (hs : ∀ p ∈ f1', p ∈ foot') : Step b f1 f1' h h' where
  own := fun p hp => T.own p (hs p hp)
  kept := fun a o e n => T.kept a o e fun q => n ((hf a).mp q)
  new := fun p hp => (T.new p (hs p hp)).imp (hf _).mp id
theorem extend2 {w : World} {mean : ExcName → Option Value} {mg mb : Str → Option Value} {b : Heap} (S : Sta w mean mg mb b) {dep un : Nat} {fr : Option (List Env)} {gs : Option (List Code)} (hroom : dep < recursionLimit) {s : Shared} (hb : b.StaysIn s.heap)
    {ch : ChG} (hs : Own b s.heap (ch.l w.params)) (ok : ch.Ok w) (hc : 0 ≤ ch.c ∧ ch.c ≤ 1000) {R : Result → Shared → Prop}
    (h : ∀ h' po' ct' bt tk, Step b (ch.l w.params) (ChG.l w.params { ch with c := ch.c + 1, ct := ct', po := po', kvs := stored ch.kvs (ch.c + 1) (.bytes #[0,0,0,0,0,0,0,0] bt) }) s.heap h' →
      po'.IsDictOf (intKind PySem.Challenge.rw_nt0093_01.row.prog w) (stored ch.kvs (ch.c + 1) (.bytes #[0,0,0,0,0,0,0,0] bt)) → R (.ok (.ret (.int (ch.c + 1) ct'))) { s with heap := h', toks := tk }) {pst : Tok} :
    codeAny (model PySem.Challenge.rw_nt0093_01.row.prog w) (⟨none, dep, fr, gs, un⟩ : Around) (.call (.ref 152) ⟨[.ref ch.x, .int 8 pst], []⟩) R s := by
  have AT := l_off (P := w.params) ok.nodup
  refine extend_spec S hroom hb AT.1.1.symm AT.1.2.1.symm AT.1.2.2.symm (own_sub hs fun p hp => List.mem_append_left (as := [_, _, _]) (popR w.params ch) hp) ok.dict ok.nm ok.small hc fun h' po' ct' bt tk T hd => ?_
  exact h h' po' ct' bt tk ((T.widen (own_sub hs (fun p hp => .tail _ (.tail _ (.tail _ hp)))) fun p hp q => (List.mem_cons.mp q).elim (AT.2.1 p hp) fun q => (List.mem_cons.mp q).elim (AT.2.2.1 p hp) fun q => AT.2.2.2 p hp (List.mem_singleton.mp q)).recut (fun a => Iff.rfl) (fun p hp => hp)) hd
end SP2
section SP3
noncomputable abbrev thr (P : Params) (ch : ChG) (its : List Value) (n : Nat) : List (Addr × Obj) := [(ch.x, instObj 191 ch.dx), (ch.dx, chD P (.ref ch.st) (.int ch.c ch.ct) (.ref ch.pg) (.ref ch.sv) ch.t1 ch.t2 ch.t3 ch.t4), (ch.sv, listOf its.toArray n)]
theorem perm_l {P : Params} {ch : ChG} {its : List Value} {n : Nat} (a : Addr) : a ∈ (thr P ch its n ++ begR P ch).map (·.1) ↔ a ∈ (ch.l P).map (·.1) := by
  have h := (((List.perm_middle (l₁ := [ch.pg, ch.st, ch.sd, ch.sl]) (l₂ := spsA ch.sps) (a := ch.sv)).cons ch.dx).cons ch.x).mem_iff (a := a)
  rw [← spsL_as P] at h
  rw [ChG.l_as, ChG.as, ← spsL_as P]
  exact h.symm
theorem rest_off {P : Params} {ch : ChG} (hnd : ch.as.Nodup) {v1 v2 v3 : Obj} : ∀ p ∈ begR P ch, p.1 ∉ [((ch.x, v1) : Addr × Obj), (ch.dx, v2), (ch.sv, v3)].map (·.1) := fun p hp q =>
  have h := beg_off (P := P) hnd
  (List.mem_cons.mp q).elim (h.2.1 p hp) fun q => (List.mem_cons.mp q).elim (h.2.2.1 p hp) fun q => h.2.2.2 p hp (List.mem_singleton.mp q)
theorem three_sub {P : Params} {ch : ChG} : ∀ p ∈ [(ch.x, instObj 191 ch.dx), (ch.dx, chD P (.ref ch.st) (.int ch.c ch.ct) (.ref ch.pg) (.ref ch.sv) ch.t1 ch.t2 ch.t3 ch.t4), (ch.sv, listOf (svI ch.sps).toArray ch.sn)], p ∈ ch.l P := by
  intro p hp
  rcases List.mem_cons.mp hp with rfl | hp
  · exact .head _
  rcases List.mem_cons.mp hp with rfl | hp
  · exact .tail _ (.head _)
  rw [List.mem_singleton.mp hp]
  exact mem_sv P ch
theorem other_sub {P : Params} {ch : ChG} : ∀ p ∈ begR P ch, p ∈ ch.l P := fun p hp => beg_mem1 p (.tail _ (.tail _ (.tail _ hp)))
theorem rel_mem {P : Params} {ch : ChG} {n : Nat} {its : List Value} {S' : List SpG} (e : svI S' = its) (h : ∀ p ∈ spsL P S', p ∈ spsL P ch.sps) : ∀ p ∈ ChG.l P { ch with sn := n, sps := S' }, p ∈ thr P ch its n ++ begR P ch := by
  subst e
  exact List.forall_mem_append.mpr ⟨List.forall_mem_cons.mpr ⟨.head _, List.forall_mem_cons.mpr ⟨.tail _ (.head _), List.forall_mem_cons.mpr ⟨.tail _ (.tail _ (.tail _ (.head _))), List.forall_mem_cons.mpr ⟨.tail _ (.tail _ (.tail _ (.tail _ (.head _)))), List.forall_mem_cons.mpr ⟨.tail _ (.tail _ (.tail _ (.tail _ (.tail _ (.head _))))),
    List.forall_mem_cons.mpr ⟨.tail _ (.tail _ (.tail _ (.tail _ (.tail _ (.tail _ (.head _)))))), List.forall_mem_cons.mpr ⟨.tail _ (.tail _ (.head _)), List.forall_mem_nil _⟩⟩⟩⟩⟩⟩⟩, fun p hp => .tail _ (.tail _ (.tail _ (.tail _ (.tail _ (.tail _ (.tail _ (h p hp)))))))⟩
theorem take_sub {P : Params} {sps : List SpG} {k : Nat} : ∀ p ∈ spsL P (sps.take k), p ∈ spsL P sps := fun p hp => by
  obtain ⟨sp, h1, h2⟩ := List.mem_flatMap.mp hp
  exact List.mem_flatMap.mpr ⟨sp, List.mem_of_mem_take h1, h2⟩
theorem take_nd {ch : ChG} {n k : Nat} (h : ch.as.Nodup) : (ChG.as { ch with sn := n, sps := ch.sps.take k }).Nodup := by
  refine h.sublist (List.Sublist.append (List.Sublist.refl _) ?_)
  have e : spsA ch.sps = spsA (ch.sps.take k) ++ spsA (ch.sps.drop k) := by rw [← spsA_append, List.take_append_drop]
  rw [e]
  exact List.sublist_append_left _ _
theorem release2 {w : World} {mean : ExcName → Option Value} {mg mb : Str → Option Value} {b : Heap} (S : Sta w mean mg mb b) {dep un : Nat} {fr : Option (List Env)} {gs : Option (List Code)} (hroom : dep + 1 < recursionLimit) {s : Shared} (hb : b.StaysIn s.heap)
    {ch : ChG} (hs : Own b s.heap (ch.l w.params)) (ok : ch.Ok w) {d : Int} {dt : Nat} (hsz : ch.sps.length ≤ 1000) (h0 : 0 ≤ d) (h1 : d < ch.sps.length) {R : Result → Shared → Prop}
    (h : ∀ h' sn' tk, Step b (ch.l w.params) (ChG.l w.params { ch with sn := sn', sps := ch.sps.take d.toNat }) s.heap h' → ChG.Ok w { ch with sn := sn', sps := ch.sps.take d.toNat } → R (.ok (.ret .none)) { s with heap := h', toks := tk }) :
    codeAny (model PySem.Challenge.rw_nt0093_01.row.prog w) (⟨none, dep, fr, gs, un⟩ : Around) (.call (.ref 180) ⟨[.ref ch.x, .int d dt], []⟩) R s := by
  have hvl : (svI ch.sps).length = ch.sps.length := List.length_map _
  have AT := (beg_off (P := w.params) ok.nodup).1
  refine release_ok S hroom hb AT.2.1.symm AT.2.2.symm (own_sub hs three_sub) (by rw [hvl]; exact hsz) h0 (by rw [hvl]; exact h1) fun h' sn' tk T => ?_
  exact h h' sn' tk ((T.widen (own_sub hs other_sub) (rest_off ok.nodup)).recut perm_l (rel_mem (by rw [svI, svI, List.map_take]) take_sub)) ⟨ok.dict, ok.nm, ok.small, ok.vals, ok.fvals, ok.flen, take_nd ok.nodup, fun sp hsp => ok.sps sp (List.mem_of_mem_take hsp)⟩
end SP3
section SP4
theorem open_mem {P : Params} {ch : ChG} {n : Nat} {its : List Value} {sp : SpG} (e : svI ch.sps = its) : ∀ p ∈ ChG.l P { ch with sn := n, sps := ch.sps ++ [sp] }, p ∈ (thr P ch (its ++ [Value.ref sp.x]) n ++ SpG.l P sp) ++ begR P ch := by
  subst e
  have e : svI (ch.sps ++ [sp]) = svI ch.sps ++ [Value.ref sp.x] := svI_append _ _
  show ∀ p ∈ chTop P { ch with sn := n, sps := ch.sps ++ [sp] } (svI (ch.sps ++ [sp])) ++ spsL P (ch.sps ++ [sp]), _
  rw [e, spsL_append]
  have r : ∀ p ∈ begR P ch, p ∈ (thr P ch (svI ch.sps ++ [Value.ref sp.x]) n ++ SpG.l P sp) ++ begR P ch := fun p hp => List.mem_append_right _ hp
  refine List.forall_mem_append.mpr ⟨List.forall_mem_cons.mpr ⟨.head _, List.forall_mem_cons.mpr ⟨.tail _ (.head _), List.forall_mem_cons.mpr ⟨r _ (.head _), List.forall_mem_cons.mpr ⟨r _ (.tail _ (.head _)), List.forall_mem_cons.mpr ⟨r _ (.tail _ (.tail _ (.head _))),
    List.forall_mem_cons.mpr ⟨r _ (.tail _ (.tail _ (.tail _ (.head _)))), List.forall_mem_cons.mpr ⟨.tail _ (.tail _ (.head _)), List.forall_mem_nil _⟩⟩⟩⟩⟩⟩⟩, List.forall_mem_append.mpr ⟨fun p hp => r p (.tail _ (.tail _ (.tail _ (.tail _ hp)))), fun p hp => ?_⟩⟩
  have hp : p ∈ SpG.l P sp ++ [] := hp
  rw [List.append_nil] at hp
  exact List.mem_append_left _ (List.mem_append_right _ hp)
theorem open_nd {ch : ChG} {n x dx pg : Nat} {sp : SpG} (h : ch.as.Nodup) (e1 : sp.x = x) (e2 : sp.dx = dx) (e3 : sp.pg = pg) (n1 : x ∉ ch.as) (n2 : dx ∉ ch.as) (n3 : pg ∉ ch.as) (l1 : dx < x) (l2 : x < pg) : (ChG.as { ch with sn := n, sps := ch.sps ++ [sp] }).Nodup := by
  subst e1 e2 e3
  have e : ChG.as { ch with sn := n, sps := ch.sps ++ [sp] } = ch.as ++ [sp.x, sp.dx, sp.pg] := by
    unfold ChG.as
    simp only
    rw [spsA_append, List.append_assoc]
    rfl
  rw [e, List.nodup_append]
  refine ⟨h, List.nodup_cons.mpr ⟨fun q => ?_, List.nodup_cons.mpr ⟨fun q => Nat.ne_of_lt (Nat.lt_trans l1 l2) (List.mem_singleton.mp q), List.nodup_cons.mpr ⟨(fun q => nomatch q), List.nodup_nil⟩⟩⟩, fun a ha c hc e => ?_⟩
  · rcases List.mem_cons.mp q with q | q
    · exact Nat.ne_of_gt l1 q
    · exact Nat.ne_of_lt l2 (List.mem_singleton.mp q)
  · subst e
    rcases List.mem_cons.mp hc with q | hc
    · exact n1 (q ▸ ha)
    rcases List.mem_cons.mp hc with q | hc
    · exact n2 (q ▸ ha)
    · exact n3 (List.mem_singleton.mp hc ▸ ha)
theorem fresh_as {P : Params} {b h : Heap} {ch : ChG} (hs : Own b h (ch.l P)) : ∀ a, h.get? a = none → a ∉ ch.as := fun a ha hm => by
  rw [← ChG.l_as P] at hm
  obtain ⟨p, hp, e⟩ := List.mem_map.mp hm
  have := (hs p hp).1
  rw [e, ha] at this; cases this
theorem open2 {w : World} {mean : ExcName → Option Value} {mg mb : Str → Option Value} {b : Heap} (S : Sta w mean mg mb b) {dep un : Nat} {fr : Option (List Env)} {gs : Option (List Code)} (hroom : dep + 2 < recursionLimit) {s : Shared} (hb : b.StaysIn s.heap)
    {ch : ChG} (hs : Own b s.heap (ch.l w.params)) (ok : ch.Ok w) (hsz : ch.sps.length ≤ 1000) {R : Result → Shared → Prop}
    (h : ∀ h' (sp : SpG) rt tk, Step b (ch.l w.params) (ChG.l w.params { ch with sn := ch.sn + 1, sps := ch.sps ++ [sp] }) s.heap h' → sp.c = ch.c → sp.kvs = [] → ChG.Ok w { ch with sn := ch.sn + 1, sps := ch.sps ++ [sp] } → R (.ok (.ret (.int ch.sps.length rt))) { s with heap := h', toks := tk }) :
    codeAny (model PySem.Challenge.rw_nt0093_01.row.prog w) (⟨none, dep, fr, gs, un⟩ : Around) (.call (.ref 166) ⟨[.ref ch.x], []⟩) R s := by
  have hvl : (svI ch.sps).length = ch.sps.length := List.length_map _
  have AT := (beg_off (P := w.params) ok.nodup).1
  have fresh := fresh_as hs
  refine open_spec S hroom hb AT.1.symm AT.2.1.symm AT.2.2.symm (own_sub hs three_sub) (by rw [hvl]; exact hsz) fun h' x' dx' pg' t1' t2' po' rt tk T hd hnm nx ndx npg l1 l2 => ?_
  rw [hvl]
  refine h h' ⟨x', dx', pg', ch.c, ch.ct, t1', t2', po', []⟩ rt tk ((T.widen (own_sub hs other_sub) (rest_off ok.nodup)).recut perm_l (open_mem rfl)) rfl rfl ⟨ok.dict, ok.nm, ok.small, ok.vals, ok.fvals, ok.flen, open_nd ok.nodup rfl rfl rfl (fresh _ nx) (fresh _ ndx) (fresh _ npg) l1 l2, fun sp hsp => ?_⟩
  rcases List.mem_append.mp hsp with q | q
  · exact ok.sps sp q
  · rw [List.mem_singleton.mp q]
    exact ok_new hd rfl hnm
end SP4
section SP5
theorem cut2 {w : World} {mean : ExcName → Option Value} {mg mb : Str → Option Value} {b : Heap} (S : Sta w mean mg mb b) {dep un : Nat} {fr : Option (List Env)} {gs : Option (List Code)} (hroom : dep + 4 < recursionLimit) {s : Shared} (hb : b.StaysIn s.heap)
    {ch : ChG} {ps : List Pg} {pp : List (List Pg)} {t : Nat} (hs : Own b s.heap (ch.l w.params)) (I : Inv w ch ps pp t) (ht : t ≤ 16) {c : Int} {ct : Nat} (hc : 1 ≤ c ∧ c ≤ ch.c ∧ ch.c - c ≤ 3) {R : Result → Shared → Prop}
    (h : ∀ h' ch' tk, Step b (ch.l w.params) (ChG.l w.params ch') s.heap h' → Inv w ch' (ps.take c.toNat) pp (t + 1) → SameCh ch ch' → R (.ok (.ret .none)) { s with heap := h', toks := tk }) :
    codeAny (model PySem.Challenge.rw_nt0093_01.row.prog w) (⟨none, dep, fr, gs, un⟩ : Around) (.call (.ref 159) ⟨[.ref ch.x, .int c ct], []⟩) R s := by
  have hcl := I.c
  have hlen := I.len
  have hsm := I.small
  refine cut_spec S hroom hb hs I.ok (by omega) hc.2.1 (by omega) (fun q h1 h2 => (I.rd q (by omega) h2).1) ?_ (by omega) fun h' sps' po' kvs' tk T hd A hl hv => ?_
  · intro sp hsp
    obtain ⟨i, hi⟩ := List.getElem?_of_mem hsp
    obtain ⟨p, hpp⟩ : ∃ p, pp[i]? = some p := ⟨_, List.getElem?_eq_getElem (by have := get_lt hi; rw [← I.n]; exact this)⟩
    have := (I.sp i sp p hi hpp).small
    omega
  · exact h h' _ tk T (inv_cut (ct' := ct) I ht hc.1 hc.2.1 hc.2.2 hd A hl hv) ⟨rfl, rfl, rfl, rfl, rfl, rfl, rfl⟩
theorem rollback2 {w : World} {mean : ExcName → Option Value} {mg mb : Str → Option Value} {b : Heap} (S : Sta w mean mg mb b) {dep un : Nat} {fr : Option (List Env)} {gs : Option (List Code)} (hroom : dep + 4 < recursionLimit) {s : Shared} (hb : b.StaysIn s.heap)
    {ch : ChG} {ps : List Pg} {pp : List (List Pg)} {t : Nat} (hs : Own b s.heap (ch.l w.params)) (I : Inv w ch ps pp t) (ht : t ≤ 16) {d : Int} {dt : Nat} {p : List Pg} (h0 : 0 ≤ d) (hp : pp[d.toNat]? = some p) {R : Result → Shared → Prop}
    (h : ∀ h' ch' tk, Step b (ch.l w.params) (ChG.l w.params ch') s.heap h' → Inv w ch' p (pp.take (d.toNat + 1)) (t + 1) → SameCh ch ch' → R (.ok (.ret .none)) { s with heap := h', toks := tk }) :
    codeAny (model PySem.Challenge.rw_nt0093_01.row.prog w) (⟨none, dep, fr, gs, un⟩ : Around) (.call (.ref 188) ⟨[.ref ch.x, .int d dt], []⟩) R s := by
  have hcl := I.c
  have hlen := I.len
  have hsm := I.small
  have hn := I.n
  have hn4 := I.n4
  have hlt := get_lt hp
  obtain ⟨sp, hsp⟩ : ∃ sp, ch.sps[d.toNat]? = some sp := ⟨_, List.getElem?_eq_getElem (by omega)⟩
  have Sp := I.sp d.toNat sp p hsp hp
  have h1 := Sp.c
  have h2 := Sp.len
  have h3 := Sp.small
  refine rollback_spec S hroom hb hs I.ok h0 hsp (by omega) (by omega) (by omega) (by omega) (by omega) fun h' pg' po' kvs' o' sn' tk T hok hl hv => ?_
  exact h h' _ tk T (inv_rollback I ht hsp hp hok hl hv) ⟨rfl, rfl, rfl, rfl, rfl, rfl, rfl⟩
theorem deed_close {w : World} {b g h' : Heap} {L' : Addr} {mm : Str → Option Value} {s : Shared} {ch ch6 : ChG} {src n : Nat} {d m d5 m5 : Int} {td tm td5 tm5 : Nat} {frs frs' oth extra : List (Addr × Obj)} {t tk : Nat} {R : Result → Shared → Prop} {ps' : List Pg} {pp' : List (List Pg)} {D6 pa' pi' : Nat} {o6 : Obj}
    (h : DeedPost w b ((src, srcO d m td tm n) :: (ch.l w.params ++ frs)) s ch src n frs oth t R)
    (hg : ∀ a o, s.heap.get? a = some o → a ∉ ((src, srcO d m td tm n) :: (ch.l w.params ++ frs)).map (·.1) → g.get? a = some o) (hbg : b.StaysIn g) (F : Fr g L' h' mm)
    (N : News g L' h' ((D6, o6) :: (extra ++ dl w.params ch6 src (srcO d5 m5 td5 tm5 n) frs'))) (ho6 : o6 = listOf #[.ref pa', .ref pi'] 0) (hsf : SameFr frs frs') (I6 : Inv w ch6 ps' pp' (t + 1)) (hd5 : 0 ≤ d5) (hm5 : 0 ≤ m5 ∧ m5 < 2147483647) (sc6 : SameCh ch ch6) (hsrc6 : src ∉ ch6.as) (hap6 : ∀ q ∈ frs', q.1 ∉ ch6.as)
    (hP : PilesIn (oth ++ extra) pa' pi' ps' pp') (l6 : ∀ q ∈ dl w.params ch6 src (srcO d5 m5 td5 tm5 n) frs', @LT.lt Nat _ q.1 D6) (lx : ∀ p ∈ extra, ∀ q ∈ dl w.params ch6 src (srcO d5 m5 td5 tm5 n) frs', @LT.lt Nat _ q.1 p.1) :
    R (.ok (.ret (.ref D6))) { s with heap := h', toks := tk } := by
  subst ho6
  refine h _ _ d5 m5 td5 tm5 frs' ((D6, listOf #[.ref pa', .ref pi'] 0) :: extra) D6 pa' pi' 0 _ _ _ (step_of hg hbg F N ?_) hsf I6 hd5 hm5 sc6 hsrc6 hap6 (.head _) (hP.mono fun p hp => ?_) (deed_off (P := w.params) (so := srcO d5 m5 td5 tm5 n) ?_)
  · intro p hp
    rcases List.mem_append.mp hp with hp | hp
    · rcases List.mem_cons.mp hp with rfl | hp
      · exact .head _
      · exact .tail _ (List.mem_append_left _ hp)
    · refine .tail _ (List.mem_append_right _ ?_)
      rcases List.mem_cons.mp hp with rfl | hp
      · exact .head _
      · exact .tail _ (.tail _ (.tail _ hp))
  · exact (List.mem_append.mp hp).elim (List.mem_append_left _) fun q => List.mem_append_right _ (.tail _ q)
  · intro p hp q hq
    rcases List.mem_cons.mp hp with rfl | hp
    · exact l6 q hq
    · exact lx p hp q hq
end SP5
section SP6
theorem mem_dl' {P : Params} {g h : Heap} {L : Addr} {ch : ChG} {src : Nat} {so : Obj} {rest : List (Addr × Obj)} (h1 : h.get? src = some so ∧ src ≠ L ∧ g.get? src = none) (h2 : ∀ p ∈ ch.l P, h.get? p.1 = some p.2 ∧ p.1 ≠ L ∧ g.get? p.1 = none) (h3 : ∀ p ∈ rest, h.get? p.1 = some p.2 ∧ p.1 ≠ L ∧ g.get? p.1 = none) : News g L h (dl P ch src so rest) := by
  intro p hp
  rcases List.mem_cons.mp hp with rfl | hp
  · exact h1
  rcases List.mem_cons.mp hp with rfl | hp
  · exact h2 _ (.head _)
  rcases List.mem_cons.mp hp with rfl | hp
  · exact h2 _ (.tail _ (.head _))
  exact (List.mem_append.mp hp).elim (h2 p) (h3 p)
/-- _law_refused from a frame: the ledger stands, the outer frames change in slots -/
theorem refused_G {w : World} {mean : ExcName → Option Value} {mg mb : Str → Option Value} {g : Heap} (S : Sta w mean mg mb g) {dep un : Nat} {outer : List Env} {gs : Option (List Code)} {env : Env} {L : Addr} {m : Str → Option Value} {s : Shared} {Q : Value → Shared → Prop} {E : Value → Shared → Prop}
    (hroom : dep + 8 < recursionLimit) (hun : un + 200 < cLine) (hk : env.scope.kind = .function) (hfrm : env.frame = some L) {ch : ChG} {news frs : List (Addr × Obj)} {d : Int} {dt : Nat}
    (F : Fr g L s.heap m) (N : News g L s.heap (news ++ frs)) (hm : ∀ p ∈ ch.l w.params, p ∈ news) (hdis : ∀ p ∈ news, p.1 ∉ frs.map (·.1)) (hfr : FrList outer frs) (hsz : ch.sps.length ≤ 1000) (hd : d < 0 ∨ ch.sps.length ≤ d)
    (h : ∀ h' frs' tk, SameFr frs frs' → Fr g L h' m → News g L h' (news ++ frs') → Q (.bool true) { s with heap := h', toks := tk }) :
    wpAny (model PySem.Challenge.rw_nt0093_01.row.prog w) (Around.deeper ⟨none, dep, some outer, gs, un⟩ env) (call (.ref 223) [.ref ch.x, .int d dt]) Q E s := by
  obtain ⟨oL, es, ep, hL, hdd, hkk, hff⟩ := id F.ns
  have gL : g.get? L = none := kts_self F
  have hvl : (svI ch.sps).length = ch.sps.length := List.length_map _
  have hn : ∀ p ∈ [(ch.x, instObj 191 ch.dx), (ch.dx, chD w.params (.ref ch.st) (.int ch.c ch.ct) (.ref ch.pg) (.ref ch.sv) ch.t1 ch.t2 ch.t3 ch.t4), (ch.sv, listOf (svI ch.sps).toArray ch.sn)], p ∈ news := fun p hp => hm p (three_sub p hp)
  have neL : ∀ p ∈ news ++ frs, p.1 ≠ L := fun p hp => (N p hp).2.1
  have O3 : Own g s.heap [(ch.x, instObj 191 ch.dx), (ch.dx, chD w.params (.ref ch.st) (.int ch.c ch.ct) (.ref ch.pg) (.ref ch.sv) ch.t1 ch.t2 ch.t3 ch.t4), (ch.sv, listOf (svI ch.sps).toArray ch.sn)] := own_of_news N fun p hp => List.mem_append_left _ (hn p hp)
  have O4 : Own g s.heap ((L, oL) :: frs) := List.forall_mem_cons.mpr ⟨⟨hL, gL⟩, own_of_news N fun p hp => List.mem_append_right _ hp⟩
  have O : Own g s.heap ([(ch.x, instObj 191 ch.dx), (ch.dx, chD w.params (.ref ch.st) (.int ch.c ch.ct) (.ref ch.pg) (.ref ch.sv) ch.t1 ch.t2 ch.t3 ch.t4), (ch.sv, listOf (svI ch.sps).toArray ch.sn)] ++ (L, oL) :: frs) := List.forall_mem_append.mpr ⟨O3, O4⟩
  have off : ∀ q ∈ (L, oL) :: frs, ∀ p ∈ news, @Ne Nat q.1 p.1 := fun q hq p hp e => (List.mem_cons.mp hq).elim (fun z => neL p (List.mem_append_left _ hp) (by rw [← e, z])) fun z => hdis p hp (e ▸ List.mem_map_of_mem z)
  refine wpAny_call ?_
  refine refused_spec (outer := env :: outer) (frs := (L, oL) :: frs) S (by show dep + 1 + 6 < recursionLimit; omega) (by show un + 3 + 100 < cLine; omega) F.keep O (.cons (by rw [hk]; decide) hfrm ⟨es, ep, hdd⟩ hfr) (fun q hq => ⟨off q hq _ (hn _ (.head _)), off q hq _ (hn _ (.tail _ (.head _))), off q hq _ (hn _ (.tail _ (.tail _ (.head _))))⟩) (by rw [hvl]; exact hsz) (by rw [hvl]; exact hd) ?_
  intro h' fr2 tk hs T
  cases hs with
  | @cons _ q _ frs' e1 e2 hs' =>
    obtain ⟨q1, q2⟩ := q
    obtain ⟨sl, e2⟩ := e2
    have e1 : L = q1 := e1.symm
    subst e1
    have e2 : q2 = { oL with slots := sl } := e2
    have oq := T.own (L, q2) (.tail _ (.tail _ (.tail _ (.head _))))
    have F' : Fr g L h' m := by
      refine ⟨⟨q2, es, ep, oq.1, by rw [e2]; exact hdd, hkk, hff⟩, fun a o e => T.kept a o (F.keep a o e) (fun q => ?_), F.above⟩
      obtain ⟨p, hp, e3⟩ := List.mem_map.mp q
      have := (O p hp).2
      rw [e3, e] at this; cases this
    refine h h' frs' tk hs' F' (List.forall_mem_append.mpr ⟨fun p hp => ⟨?_, (N p (List.mem_append_left _ hp)).2⟩, fun p hp => ?_⟩)
    · have Np := N p (List.mem_append_left _ hp)
      by_cases q : p.1 ∈ ([(ch.x, instObj 191 ch.dx), (ch.dx, chD w.params (.ref ch.st) (.int ch.c ch.ct) (.ref ch.pg) (.ref ch.sv) ch.t1 ch.t2 ch.t3 ch.t4), (ch.sv, listOf (svI ch.sps).toArray ch.sn)] ++ (L, oL) :: frs).map (·.1)
      · obtain ⟨x, hx, e3⟩ := List.mem_map.mp q
        rcases List.mem_append.mp hx with hx | hx
        · have a1 := (O3 x hx).1
          rw [e3, Np.1] at a1
          rw [Option.some.inj a1, ← e3]
          exact (T.own x (List.mem_append_left (as := [_, _, _]) _ hx)).1
        · exact absurd e3 (off x hx p hp)
      · exact T.kept _ _ Np.1 q
    · have o := T.own p (.tail _ (.tail _ (.tail _ (.tail _ hp))))
      refine ⟨o.1, fun e => ?_, o.2⟩
      have : p.1 ∈ frs.map (·.1) := by rw [← hs'.fst]; exact List.mem_map_of_mem hp
      obtain ⟨x, hx, e3⟩ := List.mem_map.mp this
      exact neL x (List.mem_append_right _ hx) (e3.trans e)
theorem refused_K {w : World} {mean : ExcName → Option Value} {mg mb : Str → Option Value} {g : Heap} (S : Sta w mean mg mb g) {dep un : Nat} {outer : List Env} {gs : Option (List Code)} {name : Str} {scope : Scope} {L a : Addr} {cd : Value} {m : Str → Option Value} {s : Shared} {Q : Value → Shared → Prop} {E : Value → Shared → Prop}
    (hroom : dep + 8 < recursionLimit) (hun : un + 200 < cLine) (hk : scope.kind = .function) {ch : ChG} {src : Nat} {so : Obj} {frs : List (Addr × Obj)} {d : Int} {dt : Nat}
    (F : Fr g L s.heap m) (N : News g L s.heap (dl w.params ch src so frs)) (hnd : ch.as.Nodup) (hsrc : src ∉ ch.as) (hap : ∀ q ∈ frs, q.1 ∉ ch.as ∧ q.1 ≠ src) (hfr : FrList outer frs) (hsz : ch.sps.length ≤ 1000) (hd : d < 0 ∨ ch.sps.length ≤ d)
    (h : ∀ h' frs' tk, SameFr frs frs' → Fr g L h' m → News g L h' (dl w.params ch src so frs') → Q (.bool true) { s with heap := h', toks := tk }) :
    wpAny (model PySem.Challenge.rw_nt0093_01.row.prog w) (Around.deeper ⟨none, dep, some outer, gs, un⟩ (envOf name scope L a cd)) (call (.ref 223) [.ref ch.x, .int d dt]) Q E s := by
  refine refused_G (env := envOf name scope L a cd) (news := (src, so) :: (ch.x, instObj 191 ch.dx) :: (ch.dx, chD w.params (.ref ch.st) (.int ch.c ch.ct) (.ref ch.pg) (.ref ch.sv) ch.t1 ch.t2 ch.t3 ch.t4) :: ch.l w.params) S hroom hun hk rfl F N (fun p hp => .tail _ (.tail _ (.tail _ hp))) ?_ hfr hsz hd h
  have ha : ∀ p ∈ ch.l w.params, p.1 ∉ frs.map (·.1) := fun p hp q => by
    obtain ⟨x, hx, e⟩ := List.mem_map.mp q
    exact (hap x hx).1 (by rw [e, ← ChG.l_as w.params]; exact List.mem_map_of_mem hp)
  refine List.forall_mem_cons.mpr ⟨fun q => ?_, List.forall_mem_cons.mpr ⟨ha _ (.head _), List.forall_mem_cons.mpr ⟨ha _ (.tail _ (.head _)), ha⟩⟩⟩
  obtain ⟨x, hx, e⟩ := List.mem_map.mp q
  exact (hap x hx).2 e
end SP6
section SP7
theorem inv_mono {w : World} {ch : ChG} {ps : List Pg} {pp : List (List Pg)} {t : Nat} (I : Inv w ch ps pp t) : Inv w ch ps pp (t + 1) :=
  ⟨I.ok, I.c, I.len, I.keys, I.rd, I.n, I.n4, fun i sp p h1 h2 => let S := I.sp i sp p h1 h2; ⟨S.c, S.len, S.keys, S.val, by have := S.small; omega⟩, I.pair, by have := I.small; omega⟩
theorem frs_off {frs frs' : List (Addr × Obj)} {as : List Nat} {src : Nat} (h : SameFr frs frs') (hap : ∀ q ∈ frs, q.1 ∉ as ∧ q.1 ≠ src) : ∀ q ∈ frs', q.1 ∉ as ∧ q.1 ≠ src := fun q hq => by
  have : q.1 ∈ frs.map (·.1) := by rw [← h.fst]; exact List.mem_map_of_mem hq
  obtain ⟨x, hx, e⟩ := List.mem_map.mp this
  rw [← e]; exact hap x hx
end SP7
section SP8
theorem line2 {a b : Nat} (ha : a ≤ 1000) (hb : b ≤ 1000) : a + b ≤ sizeLine := by rw [sizeLine_eq]; omega
theorem All2.take {α β : Type} {R : α → β → Prop} {a : List α} {b : List β} (h : All2 R a b) : ∀ k : Nat, All2 R (a.take k) (b.take k) := by
  induction h with
  | nil => intro k; rw [List.take_nil, List.take_nil]; exact .nil
  | cons x _ ih =>
    intro k
    cases k with
    | zero => exact .nil
    | succ k => exact .cons x (ih k)
theorem len_base {prog : Program} {w : World} {A : Around} {E : Value → Shared → Prop} {s : Shared} {g : Heap} {L l : Addr} {m : Str → Option Value} {items : Array Value} {Q : Value → Shared → Prop} (F : Fr g L s.heap m) (hl : g.IsList l items)
    (hz : items.size ≤ 100) (h : Q (.int items.size (s.toks + 1)) { s with toks := s.toks + 1 + 1 }) : wpAny (model prog w) A (call (.builtin "len") [.ref l]) Q E s :=
  len_list (hl.at fun o e => F.keep _ _ e) (by omega) h
/-- what stands behind a piece of the body is a letter -/
theorem wp_join {prog : Program} {w : World} {A : Around} {t : Sem Flow} {Q : Flow → Shared → Prop} {s : Shared} (mid : Shared → Prop)
    (h : ∀ Q' : Flow → Shared → Prop, (∀ s', mid s' → Q' .next s') → (∀ v s', Q (.ret v) s' → Q' (.ret v) s') → wpAny (model prog w) A t Q' (fun _ _ => False) s) (k : ∀ s', mid s' → Q .next s') : wpAny (model prog w) A t Q (fun _ _ => False) s :=
  wpAny_mono (h (fun f s' => match f with | .next => mid s' | f => Q f s') (fun _ x => x) fun _ _ x => x) (fun f s' x => match f, x with | .next, x => k s' x | .ret _, x => x | .brk, x => x | .cont, x => x) fun _ _ x => x
theorem dl_step {G : Prop} {P : Params} {g h h' : Heap} {L : Addr} {m : Str → Option Value} {ch ch' : ChG} {src : Nat} {so : Obj} {rest : List (Addr × Obj)} (F : Fr g L h m) (N : News g L h (dl P ch src so rest)) (hsrc : src ∉ ch.as) (hrest : ∀ q ∈ rest, q.1 ≠ src ∧ q.1 ∉ ch.as)
    (T : Step g (ch.l P) (ch'.l P) h h') (k : Fr g L h' m → News g L h' (dl P ch' src so rest) → src ∉ ch'.as → (∀ q ∈ rest, q.1 ∉ ch'.as) → G) : G := by
  have X := step_dl (fo := []) F N hsrc (fun q hq => (hrest q hq).2) (by rw [List.append_nil]; exact T)
  exact k X.1 X.2.1 X.2.2.1 X.2.2.2.1
theorem ne_dl {P : Params} {ch : ChG} {src : Nat} {so : Obj} {rest : List (Addr × Obj)} : ∀ p ∈ ch.l P, p ∈ dl P ch src so rest := fun p hp => .tail _ (.tail _ (.tail _ (List.mem_append_left _ hp)))
section
variable {prog : Program} {w : World} {A : Around} {E : Value → Shared → Prop} {s : Shared} {g : Heap} {L a b : Addr} {m : Str → Option Value} {news : List (Addr × Obj)} {its its2 : List Value} {na nb : Nat} {Q : Value → Shared → Prop}
theorem add_K2 (F : Fr g L s.heap m) (N : News g L s.heap ((b, listOf its2.toArray nb) :: (a, listOf its.toArray na) :: news))
    (h : ∀ D h', Fr g L h' m → News g L h' ((D, listOf (its ++ its2).toArray 0) :: news) → (∀ p ∈ news, p.1 < D) → Q (.ref D) { s with heap := h' }) (hz : its.length + its2.length ≤ 1000) : wpAny (model prog w) A (binaryOp .Add (.ref a) (.ref b)) Q E s :=
  add_K F N ⟨_, (N _ (.tail _ (.head _))).1, rfl, _, rfl⟩ ⟨_, (N _ (.head _)).1, rfl, _, rfl⟩ (fun D h' F' N' l => h D h' F' (news_sub N' (List.forall_mem_cons.mpr ⟨.head _, fun p hp => .tail _ (.tail _ (.tail _ hp))⟩)) fun p hp => l p (.tail _ (.tail _ hp))) (line2 (by rw [List.size_toArray]; exact Nat.le_trans (Nat.le_add_right _ _) hz) (by rw [List.size_toArray]; exact Nat.le_trans (Nat.le_add_left _ _) hz))
theorem add_K1 (F : Fr g L s.heap m) (N : News g L s.heap ((b, listOf its2.toArray nb) :: news)) (ha : g.IsList a its.toArray)
    (h : ∀ D h', Fr g L h' m → News g L h' ((D, listOf (its ++ its2).toArray 0) :: news) → (∀ p ∈ news, p.1 < D) → Q (.ref D) { s with heap := h' }) (hz : its.length + its2.length ≤ 1000) : wpAny (model prog w) A (binaryOp .Add (.ref a) (.ref b)) Q E s :=
  add_K F N (ha.at fun o e => F.keep _ _ e) ⟨_, (N _ (.head _)).1, rfl, _, rfl⟩ (fun D h' F' N' l => h D h' F' (news_sub N' (List.forall_mem_cons.mpr ⟨.head _, fun p hp => .tail _ (.tail _ hp)⟩)) fun p hp => l p (.tail _ hp)) (line2 (by rw [List.size_toArray]; exact Nat.le_trans (Nat.le_add_right _ _) hz) (by rw [List.size_toArray]; exact Nat.le_trans (Nat.le_add_left _ _) hz))
end
theorem zA {vs : List Value} {x : Value} {k : Nat} (h : vs.length ≤ 100) : (vs.take k).length + [x].length ≤ 1000 := Nat.le_trans (Nat.succ_le_succ (Nat.le_trans (List.length_take_le' _ _) h)) (by decide)
theorem zB {vs : List Value} {x : Value} {k j : Nat} (h : vs.length ≤ 100) : (vs.take k ++ [x]).length + (vs.drop j).length ≤ 1000 := by
  rw [List.length_append]
  exact Nat.le_trans (Nat.add_le_add (Nat.succ_le_succ (Nat.le_trans (List.length_take_le' _ _) h)) (Nat.le_trans (by rw [List.length_drop]; exact Nat.sub_le _ _) h)) (by decide)
theorem zC {vs : List Value} {x : Value} (h : vs.length ≤ 100) : vs.length + [x].length ≤ 1000 := Nat.le_trans (Nat.succ_le_succ h) (by decide)
section
variable {prog : Program} {w : World} {A : Around} {E : Value → Shared → Prop} {s : Shared} {g : Heap} {L l : Addr} {m : Str → Option Value} {news : List (Addr × Obj)} {vs : List Value} {value slice : PySem.Expr} {c : Int} {t : Tok} {Q : Value → Shared → Prop}
theorem slice_to (F : Fr g L s.heap m) (N : News g L s.heap news) (hl : g.IsList l vs.toArray) (hz : vs.length ≤ 100) (h0 : 0 ≤ c)
    (h : ∀ D h', Fr g L h' m → News g L h' ((D, listOf (vs.take c.toNat).toArray 0) :: news) → (∀ p ∈ news, p.1 < D) → Q (.ref D) { s with heap := h' })
    (hs : subscripted slice false (.ref l) (.ref s.heap.objs.size) = operate [.ref s.heap.objs.size, .ref l] (getItem (.ref l) (.ref s.heap.objs.size)) := by with_unfolding_all rfl) (ht : ∀ r, letTemporaryGo value (.ref l) r = pure () := by kmk_pure) :
    wpAny (model prog w) A (subscriptTail value slice (.ref l) (.ref s.heap.objs.size)) Q E { s with heap := s.heap.push { cls := .type "slice", data := .fields #[.none, .int c t, .none] } } := by
  refine kmk_slice_lit (lo := none) (hi := some c) F N (hl.at fun o e => F.keep _ _ e) (by kmk_part) (by kmk_part) ?_ h hs ht (by rw [List.size_toArray, sizeLine_eq]; omega)
  obtain ⟨k, rfl⟩ := Int.eq_ofNat_of_zero_le h0
  rw [slicePick_upto']; rfl
theorem slice_from (F : Fr g L s.heap m) (N : News g L s.heap news) (hl : g.IsList l vs.toArray) (hz : vs.length ≤ 100) (h0 : 0 ≤ c)
    (h : ∀ D h', Fr g L h' m → News g L h' ((D, listOf (vs.drop c.toNat).toArray 0) :: news) → (∀ p ∈ news, p.1 < D) → Q (.ref D) { s with heap := h' })
    (hs : subscripted slice false (.ref l) (.ref s.heap.objs.size) = operate [.ref s.heap.objs.size, .ref l] (getItem (.ref l) (.ref s.heap.objs.size)) := by with_unfolding_all rfl) (ht : ∀ r, letTemporaryGo value (.ref l) r = pure () := by kmk_pure) :
    wpAny (model prog w) A (subscriptTail value slice (.ref l) (.ref s.heap.objs.size)) Q E { s with heap := s.heap.push { cls := .type "slice", data := .fields #[.int c t, .none, .none] } } := by
  refine kmk_slice_lit (lo := some c) (hi := none) F N (hl.at fun o e => F.keep _ _ e) (by kmk_part) (by kmk_part) ?_ h hs ht (by rw [List.size_toArray, sizeLine_eq]; omega)
  obtain ⟨k, rfl⟩ := Int.eq_ofNat_of_zero_le h0
  rw [slicePick_from']; rfl
end
theorem pgs_put {vs : List Value} {ps : List Pg} {bs : Pg} {tb : Nat} {r : Int} (h : PgsAre vs ps) (h0 : 0 ≤ r) (h1 : r < ps.length) : PgsAre ((vs.take (1 + r - 1).toNat ++ [Value.bytes bs tb]) ++ vs.drop (1 + r).toNat) (ps.set (1 + r - 1).toNat bs) := by
  rw [show (1 + r).toNat = (1 + r - 1).toNat + 1 from by omega]
  exact pgs_set h (by omega)
noncomputable abbrev PileOf (oth : List (Addr × Obj)) (pas : List Addr) (pp : List (List Pg)) : Prop := All2 (fun a p => ∃ ws m, (a, listOf (List.toArray ws) m) ∈ oth ∧ PgsAre ws p) pas pp
theorem PileOf.mono {oth extra : List (Addr × Obj)} {pas : List Addr} {pp : List (List Pg)} (h : PileOf oth pas pp) : PileOf (oth ++ extra) pas pp := h.imp fun _ _ ⟨ws, m, x, y⟩ => ⟨ws, m, List.mem_append_left _ x, y⟩
section
variable {oth : List (Addr × Obj)} {pa pi D n pin : Nat} {vs : List Value} {ps ps' : List Pg} {pas : List Addr} {pp : List (List Pg)}
/-- the pages anew, the pile as it was -/
theorem piles_new (hv : PgsAre vs ps') (hpi : (pi, listOf (List.toArray (pas.map Value.ref)) pin) ∈ oth) (hp : PileOf oth pas pp) : PilesIn (oth ++ [(D, listOf vs.toArray 0)]) D pi ps' pp :=
  ⟨vs, 0, pas, pin, List.mem_append_right _ (.head _), hv, List.mem_append_left _ hpi, hp.mono⟩
theorem piles_push (hpa : (pa, listOf (List.toArray vs) n) ∈ oth) (hv : PgsAre vs ps) (hp : PileOf oth pas pp) : PilesIn (oth ++ [(D, listOf (List.toArray (pas.map Value.ref ++ [Value.ref pa])) 0)]) pa D ps (pp ++ [ps]) :=
  ⟨vs, n, pas ++ [pa], 0, List.mem_append_left _ hpa, hv, by rw [List.map_append]; exact List.mem_append_right _ (.head _), hp.mono.snoc ⟨vs, n, List.mem_append_left _ hpa, hv⟩⟩
theorem piles_take {k : Nat} (hpa : (pa, listOf (List.toArray vs) n) ∈ oth) (hv : PgsAre vs ps) (hp : PileOf oth pas pp) : PilesIn (oth ++ [(D, listOf (List.toArray ((pas.map Value.ref).take k)) 0)]) pa D ps (pp.take k) :=
  ⟨vs, n, pas.take k, 0, List.mem_append_left _ hpa, hv, by rw [List.map_take]; exact List.mem_append_right _ (.head _), PileOf.mono (hp.take _)⟩
end
theorem put_pre {G : Prop} {w : World} {ch : ChG} {ps : List Pg} {pp : List (List Pg)} {t : Nat} {q : Int} (I : Inv w ch ps pp t) (ht : t ≤ 16) (h1 : 1 ≤ q) (h2 : q ≤ ps.length)
    (k : ∀ bs vt, rdV ch q = .bytes bs vt → ((valueAt ch.kvs q = none ∧ ch.first[(q - 1).toNat]? = some (.bytes bs vt)) ∨ valueAt ch.kvs q = some (.bytes bs vt)) → q ≤ ch.c → q < 2 ^ 60 → (∀ sp ∈ ch.sps, sp.kvs.length ≤ 900) → ch.kvs.length ≤ 900 → G) : G := by
  have hq : q ≤ ch.c := by rw [I.c]; exact h2
  obtain ⟨rdq, u, pgv, hrv1, hrv2⟩ := I.rd q h1 hq
  obtain ⟨bs0, vt0, hv1, hv2⟩ := rd_of I.ok rdq
  have h7 := I.len.2
  refine k bs0 vt0 hv1 hv2 hq (by omega) (fun sp hsp => ?_) (by have := I.small; omega)
  obtain ⟨i, hi⟩ := List.getElem?_of_mem hsp
  obtain ⟨p, hpp⟩ : ∃ p, pp[i]? = some p := ⟨_, List.getElem?_eq_getElem (by have := get_lt hi; rw [← I.n]; exact this)⟩
  have := (I.sp i sp p hi hpp).small
  omega
theorem deed_close1 {w : World} {b g h' : Heap} {L' : Addr} {mm : Str → Option Value} {s : Shared} {ch ch6 : ChG} {src n : Nat} {d m d5 m5 : Int} {td tm td5 tm5 : Nat} {frs frs' oth : List (Addr × Obj)} {t tk : Nat} {R : Result → Shared → Prop} {ps' : List Pg} {pp' : List (List Pg)} {D6 D5 pa' pi' : Nat} {o5 : Obj}
    (h : DeedPost w b ((src, srcO d m td tm n) :: (ch.l w.params ++ frs)) s ch src n frs oth t R)
    (hg : ∀ a o, s.heap.get? a = some o → a ∉ ((src, srcO d m td tm n) :: (ch.l w.params ++ frs)).map (·.1) → g.get? a = some o) (hbg : b.StaysIn g) (F : Fr g L' h' mm)
    (N : News g L' h' ((D6, listOf #[.ref pa', .ref pi'] 0) :: (D5, o5) :: dl w.params ch6 src (srcO d5 m5 td5 tm5 n) frs')) (hsf : SameFr frs frs') (I6 : Inv w ch6 ps' pp' (t + 1)) (hd5 : 0 ≤ d5) (hm5 : 0 ≤ m5 ∧ m5 < 2147483647) (sc6 : SameCh ch ch6) (hsrc6 : src ∉ ch6.as) (hap6 : ∀ q ∈ frs', q.1 ∉ ch6.as)
    (hP : PilesIn (oth ++ [(D5, o5)]) pa' pi' ps' pp') (l5 : ∀ q ∈ dl w.params ch6 src (srcO d5 m5 td5 tm5 n) frs', @LT.lt Nat _ q.1 D5) (l6 : @LT.lt Nat _ D5 D6) :
    R (.ok (.ret (.ref D6))) { s with heap := h', toks := tk } :=
  deed_close (s := s) (extra := [(D5, o5)]) h hg hbg F N rfl hsf I6 hd5 hm5 sc6 hsrc6 hap6 hP (fun q hq => Nat.lt_trans (l5 q hq) l6) fun p hp q hq => by rw [List.mem_singleton.mp hp]; exact l5 q hq
theorem deed_n1 {P : Params} {ch : ChG} {src : Nat} {so : Obj} {rest : List (Addr × Obj)} : ∀ p ∈ dl P ch src so rest, p ∈ (src, so) :: (ch.l P ++ rest) :=
  List.forall_mem_cons.mpr ⟨.head _, List.forall_mem_cons.mpr ⟨.tail _ (List.mem_append_left _ (.head _)), List.forall_mem_cons.mpr ⟨.tail _ (List.mem_append_left _ (.tail _ (.head _))), fun _ hp => .tail _ hp⟩⟩⟩
theorem deed_oth {P : Params} {g h : Heap} {ch : ChG} {src : Nat} {so : Obj} {oth frs : List (Addr × Obj)} (hg : ∀ a o, h.get? a = some o → a ∉ ((src, so) :: (ch.l P ++ frs)).map (·.1) → g.get? a = some o) (hoth : ∀ p ∈ oth, h.get? p.1 = some p.2 ∧ p.1 ≠ src ∧ p.1 ∉ ch.as ∧ p.1 ∉ frs.map (·.1)) : ∀ p ∈ oth, g.get? p.1 = some p.2 := fun p hp => by
  obtain ⟨o1, o2, o3, o4⟩ := hoth p hp
  refine hg _ _ o1 (fun q => ?_)
  rw [List.map_cons, List.map_append, ChG.l_as] at q
  rcases List.mem_cons.mp q with q | q
  · exact o2 q
  · exact (List.mem_append.mp q).elim o3 o4
theorem same_rfl {ch : ChG} {c : Int} {ct pg sv sn : Nat} {po : Obj} {kvs : List (Int × Value)} {sps : List SpG} : SameCh ch { ch with c := c, ct := ct, pg := pg, sv := sv, sn := sn, po := po, kvs := kvs, sps := sps } := ⟨rfl, rfl, rfl, rfl, rfl, rfl, rfl⟩
theorem put_K {w : World} {mean : ExcName → Option Value} {mg mb : Str → Option Value} {g : Heap} {L : Addr} {mm : Str → Option Value} {dep un : Nat} {fr : Option (List Env)} {gs : Option (List Code)} {s : Shared} {Q : Value → Shared → Prop} {E : Value → Shared → Prop} {ch : ChG} {src : Nat} {so : Obj} {rest : List (Addr × Obj)} {ps : List Pg} {pp : List (List Pg)} {t : Nat}
    (S : Sta w mean mg mb g) (hroom : dep + 5 < recursionLimit) (F : Fr g L s.heap mm) (N : News g L s.heap (dl w.params ch src so rest)) (hsrc : src ∉ ch.as) (hrest : ∀ q ∈ rest, q.1 ≠ src ∧ q.1 ∉ ch.as) (I : Inv w ch ps pp t) (ht : t ≤ 16) {page : Int} {pt ot : Nat} {ob : Pg} (h1 : 1 ≤ page) (h2 : page ≤ ps.length)
    (k : ∀ h' ch' tk, Fr g L h' mm → News g L h' (dl w.params ch' src so rest) → Inv w ch' (ps.set (page - 1).toNat ob) (pp) (t + 1) → SameCh ch ch' → src ∉ ch'.as → (∀ q ∈ rest, q.1 ∉ ch'.as) → Q .none { s with heap := h', toks := tk }) :
    wpAny (model PySem.Challenge.rw_nt0093_01.row.prog w) (⟨none, dep, fr, gs, un⟩ : Around) (call (.ref 145) [.ref ch.x, .int page pt, .bytes ob ot]) Q E s := by
  refine wpAny_call ?_
  refine put_pre I ht h1 h2 fun bs vt hv1 hv2 hc hp2 hsm hsm2 => ?_
  refine put_spec S (room_le hroom (by decide)) F.keep (own_of_news N ne_dl) I.ok h1 hp2 hv2 hsm hsm2 ?_
  intro h' sps' po' t' tk T hd A
  exact dl_step F N hsrc hrest T fun F' N' s' r' => k h' _ tk F' N' (inv_put I ht h1 hc hv1 hd A) same_rfl s' r'
theorem ext_K {w : World} {mean : ExcName → Option Value} {mg mb : Str → Option Value} {g : Heap} {L : Addr} {mm : Str → Option Value} {dep un : Nat} {fr : Option (List Env)} {gs : Option (List Code)} {s : Shared} {Q : Value → Shared → Prop} {E : Value → Shared → Prop} {ch : ChG} {src : Nat} {so : Obj} {rest : List (Addr × Obj)} {ps : List Pg} {pp : List (List Pg)} {t : Nat}
    (S : Sta w mean mg mb g) (hroom : dep + 5 < recursionLimit) (F : Fr g L s.heap mm) (N : News g L s.heap (dl w.params ch src so rest)) (hsrc : src ∉ ch.as) (hrest : ∀ q ∈ rest, q.1 ≠ src ∧ q.1 ∉ ch.as) (I : Inv w ch ps pp t) (ht : t ≤ 16) {pst : Nat} (h7 : ps.length < 7)
    (k : ∀ h' ch' ct tk, Fr g L h' mm → News g L h' (dl w.params ch' src so rest) → Inv w ch' (ps ++ [#[0,0,0,0,0,0,0,0]]) (pp) (t + 1) → SameCh ch ch' → src ∉ ch'.as → (∀ q ∈ rest, q.1 ∉ ch'.as) → Q (.int (ps.length + 1) ct) { s with heap := h', toks := tk }) :
    wpAny (model PySem.Challenge.rw_nt0093_01.row.prog w) (⟨none, dep, fr, gs, un⟩ : Around) (call (.ref 152) [.ref ch.x, .int 8 pst]) Q E s := by
  refine wpAny_call ?_
  have hc := I.c
  refine extend2 S (room_0 hroom) F.keep (own_of_news N ne_dl) I.ok (by omega) ?_
  intro h' po' ct' bt tk T hd
  rw [hc]
  exact dl_step F N hsrc hrest T fun F' N' s' r' => k h' _ ct' tk F' N' (inv_extend (ct' := ct') I ht h7 hd) same_rfl s' r'
theorem cut_K {w : World} {mean : ExcName → Option Value} {mg mb : Str → Option Value} {g : Heap} {L : Addr} {mm : Str → Option Value} {dep un : Nat} {fr : Option (List Env)} {gs : Option (List Code)} {s : Shared} {Q : Value → Shared → Prop} {E : Value → Shared → Prop} {ch : ChG} {src : Nat} {so : Obj} {rest : List (Addr × Obj)} {ps : List Pg} {pp : List (List Pg)} {t : Nat}
    (S : Sta w mean mg mb g) (hroom : dep + 5 < recursionLimit) (F : Fr g L s.heap mm) (N : News g L s.heap (dl w.params ch src so rest)) (hsrc : src ∉ ch.as) (hrest : ∀ q ∈ rest, q.1 ≠ src ∧ q.1 ∉ ch.as) (I : Inv w ch ps pp t) (ht : t ≤ 16) {c : Int} {ct : Nat} (hc : 1 ≤ c ∧ c ≤ ps.length ∧ ps.length - c ≤ 3)
    (k : ∀ h' ch' tk, Fr g L h' mm → News g L h' (dl w.params ch' src so rest) → Inv w ch' (ps.take c.toNat) (pp) (t + 1) → SameCh ch ch' → src ∉ ch'.as → (∀ q ∈ rest, q.1 ∉ ch'.as) → Q .none { s with heap := h', toks := tk }) :
    wpAny (model PySem.Challenge.rw_nt0093_01.row.prog w) (⟨none, dep, fr, gs, un⟩ : Around) (call (.ref 159) [.ref ch.x, .int c ct]) Q E s := by
  refine wpAny_call ?_
  rw [← I.c] at hc
  refine cut2 S (room_le hroom (by decide)) F.keep (own_of_news N ne_dl) I ht hc ?_
  intro h' ch' tk T I' sc
  exact dl_step F N hsrc hrest T fun F' N' s' r' => k h' ch' tk F' N' I' sc s' r'
theorem opn_K {w : World} {mean : ExcName → Option Value} {mg mb : Str → Option Value} {g : Heap} {L : Addr} {mm : Str → Option Value} {dep un : Nat} {fr : Option (List Env)} {gs : Option (List Code)} {s : Shared} {Q : Value → Shared → Prop} {E : Value → Shared → Prop} {ch : ChG} {src : Nat} {so : Obj} {rest : List (Addr × Obj)} {ps : List Pg} {pp : List (List Pg)} {t : Nat}
    (S : Sta w mean mg mb g) (hroom : dep + 5 < recursionLimit) (F : Fr g L s.heap mm) (N : News g L s.heap (dl w.params ch src so rest)) (hsrc : src ∉ ch.as) (hrest : ∀ q ∈ rest, q.1 ≠ src ∧ q.1 ∉ ch.as) (I : Inv w ch ps pp t) (ht : t ≤ 16) (h4 : pp.length < 4)
    (k : ∀ h' ch' rt tk, Fr g L h' mm → News g L h' (dl w.params ch' src so rest) → Inv w ch' (ps) (pp ++ [ps]) (t + 1) → SameCh ch ch' → src ∉ ch'.as → (∀ q ∈ rest, q.1 ∉ ch'.as) → Q (.int pp.length rt) { s with heap := h', toks := tk }) :
    wpAny (model PySem.Challenge.rw_nt0093_01.row.prog w) (⟨none, dep, fr, gs, un⟩ : Around) (call (.ref 166) [.ref ch.x]) Q E s := by
  refine wpAny_call ?_
  have hn := I.n
  refine open2 S (room_le hroom (by decide)) F.keep (own_of_news N ne_dl) I.ok (by omega) ?_
  intro h' sp rt tk T hc hk ok'
  rw [hn]
  exact dl_step F N hsrc hrest T fun F' N' s' r' => k h' _ rt tk F' N' (inv_open I h4 hc hk ok') same_rfl s' r'
theorem rel_K {w : World} {mean : ExcName → Option Value} {mg mb : Str → Option Value} {g : Heap} {L : Addr} {mm : Str → Option Value} {dep un : Nat} {fr : Option (List Env)} {gs : Option (List Code)} {s : Shared} {Q : Value → Shared → Prop} {E : Value → Shared → Prop} {ch : ChG} {src : Nat} {so : Obj} {rest : List (Addr × Obj)} {ps : List Pg} {pp : List (List Pg)} {t : Nat}
    (S : Sta w mean mg mb g) (hroom : dep + 5 < recursionLimit) (F : Fr g L s.heap mm) (N : News g L s.heap (dl w.params ch src so rest)) (hsrc : src ∉ ch.as) (hrest : ∀ q ∈ rest, q.1 ≠ src ∧ q.1 ∉ ch.as) (I : Inv w ch ps pp t) (ht : t ≤ 16) {d : Int} {dt : Nat} (h0 : 0 ≤ d) (h1 : d < pp.length)
    (k : ∀ h' ch' tk, Fr g L h' mm → News g L h' (dl w.params ch' src so rest) → Inv w ch' (ps) (pp.take d.toNat) (t + 1) → SameCh ch ch' → src ∉ ch'.as → (∀ q ∈ rest, q.1 ∉ ch'.as) → ch'.sps.length ≤ d → Q .none { s with heap := h', toks := tk }) :
    wpAny (model PySem.Challenge.rw_nt0093_01.row.prog w) (⟨none, dep, fr, gs, un⟩ : Around) (call (.ref 180) [.ref ch.x, .int d dt]) Q E s := by
  refine wpAny_call ?_
  have hn := I.n
  have h4 := I.n4
  refine release2 S (room_le hroom (by decide)) F.keep (own_of_news N ne_dl) I.ok (by omega) h0 (by omega) ?_
  intro h' sn' tk T ok'
  exact dl_step F N hsrc hrest T fun F' N' s' r' => k h' _ tk F' N' (inv_take I d.toNat ok') same_rfl s' r' (by show (((ch.sps.take d.toNat).length : Nat) : Int) ≤ d; rw [List.length_take]; omega)
theorem rb_K {w : World} {mean : ExcName → Option Value} {mg mb : Str → Option Value} {g : Heap} {L : Addr} {mm : Str → Option Value} {dep un : Nat} {fr : Option (List Env)} {gs : Option (List Code)} {s : Shared} {Q : Value → Shared → Prop} {E : Value → Shared → Prop} {ch : ChG} {src : Nat} {so : Obj} {rest : List (Addr × Obj)} {ps : List Pg} {pp : List (List Pg)} {t : Nat}
    (S : Sta w mean mg mb g) (hroom : dep + 5 < recursionLimit) (F : Fr g L s.heap mm) (N : News g L s.heap (dl w.params ch src so rest)) (hsrc : src ∉ ch.as) (hrest : ∀ q ∈ rest, q.1 ≠ src ∧ q.1 ∉ ch.as) (I : Inv w ch ps pp t) (ht : t ≤ 16) {d : Int} {dt : Nat} {p : List Pg} (h0 : 0 ≤ d) (hp : pp[d.toNat]? = some p)
    (k : ∀ h' ch' tk, Fr g L h' mm → News g L h' (dl w.params ch' src so rest) → Inv w ch' (p) (pp.take (d.toNat + 1)) (t + 1) → SameCh ch ch' → src ∉ ch'.as → (∀ q ∈ rest, q.1 ∉ ch'.as) → ch'.sps.length ≤ d + 1 → Q .none { s with heap := h', toks := tk }) :
    wpAny (model PySem.Challenge.rw_nt0093_01.row.prog w) (⟨none, dep, fr, gs, un⟩ : Around) (call (.ref 188) [.ref ch.x, .int d dt]) Q E s := by
  refine wpAny_call ?_
  refine rollback2 S (room_le hroom (by decide)) F.keep (own_of_news N ne_dl) I ht h0 hp ?_
  intro h' ch' tk T I' sc
  exact dl_step F N hsrc hrest T fun F' N' s' r' => k h' ch' tk F' N' I' sc s' r' (by have := I'.n; rw [List.length_take] at this; omega)
theorem inv_sz {w : World} {ch : ChG} {ps : List Pg} {pp : List (List Pg)} {t : Nat} (I : Inv w ch ps pp t) : ch.sps.length ≤ 1000 := by
  rw [I.n]; exact Nat.le_trans I.n4 (by decide)
theorem fr_fm_back {g h : Heap} {L : Addr} {m : Str → Option Value} {ks : List (Str × Value)} (a : Agree m ks) (F : Fr g L h (fm ks m)) : Fr g L h m := by
  rw [fm_agree a] at F; exact F
theorem allLt_dl {P : Params} {ch : ChG} {src : Nat} {so : Obj} {rest : List (Addr × Obj)} {d : Nat} (l : AllLt d (dl P ch src so rest)) : ∀ q ∈ dl P ch src so rest, @LT.lt Nat _ q.1 d := allLt_mem l
theorem pile_nil {oth : List (Addr × Obj)} {pp : List (List Pg)} (h : PileOf oth [] pp) : pp.length = 0 := by
  rw [← h.len]; rfl
theorem pile_pos {oth : List (Addr × Obj)} {pas : List Addr} {pp : List (List Pg)} (h : PileOf oth pas pp) (hn : pas ≠ []) : 0 < pp.length := by
  rw [← h.len]; exact List.length_pos_iff.mpr hn
theorem pile_at {G : Prop} {oth : List (Addr × Obj)} {pas : List Addr} {pp : List (List Pg)} {r : Int} (h : PileOf oth pas pp) (h0 : 0 ≤ r) (h1 : r < pp.length) (k : ∀ p a ws mn, pp[r.toNat]? = some p → (pas.map Value.ref)[r.toNat]? = some (.ref a) → (a, listOf (List.toArray ws) mn) ∈ oth → PgsAre ws p → G) : G := by
  have hr : r.toNat < pp.length := by omega
  obtain ⟨p, hp⟩ : ∃ p, pp[r.toNat]? = some p := ⟨_, List.getElem?_eq_getElem hr⟩
  obtain ⟨a, ha, ws, mn, hw, hpw⟩ := h.getR hp
  exact k p a ws mn hp (by rw [List.getElem?_map, ha]; rfl) hw hpw
theorem piles_back {oth : List (Addr × Obj)} {a D n : Nat} {ws : List Value} {p : List Pg} {pas : List Addr} {pp : List (List Pg)} {r : Int} (ha : (a, listOf (List.toArray ws) n) ∈ oth) (hv : PgsAre ws p) (hp : PileOf oth pas pp) (h0 : 0 ≤ r) : PilesIn (oth ++ [(D, listOf (List.toArray ((pas.map Value.ref).take (r + 1).toNat)) 0)]) a D p (pp.take (r.toNat + 1)) := by
  rw [show (r + 1).toNat = r.toNat + 1 from by omega]
  exact piles_take ha hv hp
end SP8
section SP1
theorem rules_P1_1 : True := by
  k_with_none
  (k_with "call ref" => ((with_reducible show wpAny _ _ (call (Value.ref 209) [_, _]) _ _ _); k_dflt (refine take_K (by assumption) (by assumption) (by assumption) (by (first | assumption | exact room_le hroom (by decide) | exact room_1 hroom (by decide) | exact room_0 hroom | ((try simp only [Around.deeper, Around.in1]); first | exact room_le hroom (by decide) | exact room_1 hroom (by decide) | exact room_0 hroom | omega))) (by k_updF) (by assumption) (by assumption) (by first | decide | omega) (by first | decide | omega) ?_; intro h' r tr d' td' m' tm' tk F' N' hr0 hr1 hd' hm'; (try dsimp only at N')); revert h' r tr d' td' m' tm' tk F' N' hr0 hr1 hd' hm'; intro _ _ _ _ _ _ _ _ _ _ _ _ _ _))
  (k_with "call ref" => ((with_reducible show wpAny _ _ (call (Value.ref 216) [_]) _ _ _); k_dflt (refine page_K (by assumption) (by assumption) (by assumption) (by (first | assumption | exact room_le hroom (by decide) | exact room_1 hroom (by decide) | exact room_0 hroom | ((try simp only [Around.deeper, Around.in1]); first | exact room_le hroom (by decide) | exact room_1 hroom (by decide) | exact room_0 hroom | omega))) (by k_updF) (by assumption) (by assumption) ?_; intro h' bs tb d' td' m' tm' tk F' N' hbs hd' hm'; (try dsimp only at N')); revert h' bs tb d' td' m' tm' tk F' N' hbs hd' hm'; intro _ _ _ _ _ _ _ _ _ _ _ _ _))
  (k_with "call type:bytes" => ((with_reducible show wpAny _ _ (call (Value.type "bytes") [_]) _ _ _); first | (refine bytes_of_8 ?_; intro t' tk') | (refine bytes_of_bytes ?_; intro t' tk'); revert t' tk'; intro _ _))
  (k_with "call builtin:len" => ((with_reducible show wpAny _ _ (call (Value.builtin "len") [Value.ref _]) _ _ _); k_dflt (refine len_base (by k_asm) (by assumption) (by omega) ?_)))
  (k_with "binaryOp Add ref ref" => (k_here; (with_reducible show wpAny _ _ (binaryOp _ (Value.ref _) (Value.ref _)) _ _ _); k_dflt (first | (refine add_K2 (by k_asm) (by k_asm) ?_ (by first | exact zA (by assumption) | exact zB (by assumption))) | (refine add_K1 (by k_asm) (by k_asm) (by assumption) ?_ (by exact zC (by assumption)))); intro D' h' F' N' l1; revert D' h' F' N' l1; intro _ _ _ _ _))
  (k_with "subscriptTail Name Slice ref ref" => (k_here; (with_reducible show wpAny _ _ (subscriptTail _ (PySem.Expr.Slice _ _ none _) (Value.ref _) (Value.ref _)) _ _ _); k_dflt (first | (refine slice_to (by k_asm) (by k_asm) (by assumption) (by assumption) (by first | assumption | omega | (split <;> omega)) ?_) | (refine slice_from (by k_asm) (by k_asm) (by assumption) (by assumption) (by first | assumption | omega) ?_)); intro D' h' F' N' l1; revert D' h' F' N' l1; intro _ _ _ _ _))
  trivial
theorem deed_spec {w : World} {mean : ExcName → Option Value} {mg mb : Str → Option Value} {b : Heap} (S : Sta w mean mg mb b) {dep un : Nat} {outer : List Env} {gs : Option (List Code)} (hroom : dep + 8 < recursionLimit) (hun : un + 200 < cLine) {s : Shared} (hb : b.StaysIn s.heap)
    {src : Nat} {n : Nat} {d m : Int} {td tm : Nat} {ch : ChG} {ps : List Pg} {pp : List (List Pg)} {t : Nat} {frs oth : List (Addr × Obj)} {pa pi : Nat}
    (hs : Own b s.heap ((src, srcO d m td tm n) :: (ch.l w.params ++ frs))) (I : Inv w ch ps pp t) (ht : t ≤ 16) (hd : 0 ≤ d) (hm : 0 ≤ m ∧ m < 2147483647)
    (hfr : FrList outer frs) (hap : ∀ q ∈ frs, q.1 ≠ src ∧ q.1 ∉ ch.as) (hsrc : src ∉ ch.as)
    (hoth : ∀ p ∈ oth, s.heap.get? p.1 = some p.2 ∧ p.1 ≠ src ∧ p.1 ∉ ch.as ∧ p.1 ∉ frs.map (·.1)) (hp : PilesIn oth pa pi ps pp) {R : Result → Shared → Prop} (h : DeedPost w b ((src, srcO d m td tm n) :: (ch.l w.params ++ frs)) s ch src n frs oth t R) :
    codeAny (model PySem.Challenge.rw_nt0093_01.row.prog w) (⟨none, dep, some outer, gs, un⟩ : Around) (.call (.ref 230) ⟨[.ref src, .ref ch.x, .ref pa, .ref pi], []⟩) R s := by
  obtain ⟨vs, pn, pas, pin, hpa, hvs, hpi, hpas⟩ := hp
  have hvl : vs.toArray.size = ps.length := by rw [List.size_toArray]; exact hvs.len
  have hpl : (pas.map Value.ref).toArray.size = pp.length := by rw [List.size_toArray, List.length_map]; exact hpas.len
  have hlen := I.len
  have hn4 := I.n4
  have hv7 : vs.length ≤ 100 := by rw [hvs.len]; exact Nat.le_trans hlen.2 (by decide)
  have hp7 : (pas.map Value.ref).length ≤ 100 := by rw [List.length_map, hpas.len]; exact Nat.le_trans hn4 (by decide)
  refine' call_footQ (K := head.heap_39 w.params) S hb hs ?k1 S.X ?k2 (by (first | assumption | exact room_le hroom (by decide) | exact room_1 hroom (by decide) | exact room_0 hroom | ((try simp only [Around.deeper, Around.in1]); first | exact room_le hroom (by decide) | exact room_1 hroom (by decide) | exact room_0 hroom | omega))) ?k3 ?k4 ?_ ?c1 ?c2 ?c3 ?c4
  case k1 => k_is
  case k2 => k_is
  case k3 => first | exact BindsTo.of_eq rfl | exact binds_K (S.X.keeps hb) rfl (by k_is) rfl rfl rfl
  case k4 => exact locs rfl
  case c1 => exact rfl
  case c2 => exact rfl
  case c3 => exact rfl
  case c4 => decide
  intro Q9 g L' h₁ hQ hg hL F N S'
  have hbg := stays_of S hb hs hg
  have X := S'.X
  have T := S'.T
  dsimp only
  have hfoot := deed_oth hg hoth
  have hl1 : g.IsList pa vs.toArray := ⟨_, hfoot _ hpa, rfl, _, rfl⟩
  have hl2 : g.IsList pi (pas.map Value.ref).toArray := ⟨_, hfoot _ hpi, rfl, _, rfl⟩
  have hx := dl_ne (P := w.params) (rest := frs) hsrc (fun q hq => (hap q hq).1)
  have hx1 := hx.1
  have hx2 := hx.2.1
  have hx3 := hx.2.2
  have N1 := news_sub N deed_n1
  clear N hfoot hx hs hb hoth
  repeat' (first | ((fail_if_success (with_reducible show wpAny _ _ (exec (PySem.Stmt.If (PySem.Expr.BoolOp _ _ _) _ _ _) _) _ _ _)); first | (k_unfold; (try dsimp only)) | walk1 | (dsimp only; walk1)))
  · skip
    try (with_reducible refine hQ _ _ ?_); try dsimp only
    rename Fr _ _ _ _ => F2
    rename News _ _ _ _ => N2
    refine' put_K (rest := frs) S' ?room F2 N2 hsrc hap I ht ?p1 ?p2 ?_
    case room => (first | assumption | exact room_le hroom (by decide) | exact room_1 hroom (by decide) | exact room_0 hroom | ((try simp only [Around.deeper, Around.in1]); first | exact room_le hroom (by decide) | exact room_1 hroom (by decide) | exact room_0 hroom | omega))
    case p1 => omega
    case p2 => omega
    intro h6 ch6 tk6 F6 N6 I6 sc6 hsrc6 hap6
    clear F2 N2
    dsimp only
    k_steps
    try (with_reducible refine hQ _ _ ?_); try dsimp only
    rename Fr _ _ _ _ => F2
    rename News _ _ _ _ => N2
    rename ∀ p : Addr × Obj, _ → p.1 < _ => l5
    rename _ ∧ _ => l6
    exact deed_close1 h hg hbg F2 N2 SameFr.refl I6 (by assumption) (by assumption) sc6 hsrc6 hap6 (piles_new (pgs_put hvs (by assumption) (by omega)) hpi hpas) l5 l6.1
  · rename_i h1 r tr d1 td1 m1 tm1 tk1 hr0 hr1 hd1 hm1 h2 F1 N1' tk2 hr3
    obtain ⟨mm, F3, ag⟩ : ∃ mm, Fr g L' h2 mm ∧ Agree mm [(Str.ofString "source", .ref src), (Str.ofString "changes", .ref ch.x), (Str.ofString "pages", .ref pa), (Str.ofString "pile", .ref pi), (Str.ofString "way", .int r tr)] := ⟨_, F1, rfl, rfl, rfl, rfl, rfl, trivial⟩
    have N3 : News g L' h2 (dl w.params ch src (srcO d1 m1 td1 tm1 n) frs) := N1'
    clear F1 N1'
    refine wp_join (fun s' => ∃ h' tk, s' = { s with heap := h', toks := tk } ∧ Fr g L' h' mm ∧ News g L' h' (dl w.params ch src (srcO d1 m1 td1 tm1 n) frs)) (fun Q8 hmid hret => ?_) (fun s' hx => ?_)
    · have hQ : ∀ v s', R (.ok (.ret v)) s' → Q8 (.ret v) s' := fun v s' x => hret v s' (hQ (.ret v) s' x)
      have F4 := fr_fm F3 ag
      dsimp only [fm] at F4
      clear F3
      k_steps
      · refine' ext_K (rest := frs) S' ?room F4 N3 hsrc hap I ht ?p1 ?_
        case room => (first | assumption | exact room_le hroom (by decide) | exact room_1 hroom (by decide) | exact room_0 hroom | ((try simp only [Around.deeper, Around.in1]); first | exact room_le hroom (by decide) | exact room_1 hroom (by decide) | exact room_0 hroom | omega))
        case p1 => omega
        intro h6 ch6 ct6 tk6 F6 N6 I6 sc6 hsrc6 hap6
        clear F4 N3
        dsimp only
        k_steps
        · skip
          try (with_reducible refine hQ _ _ ?_); try dsimp only
          rename Fr _ _ _ _ => F2
          rename News _ _ _ _ => N2
          rename ∀ p : Addr × Obj, _ → p.1 < _ => l5
          rename _ ∧ _ => l6
          exact deed_close1 h hg hbg F2 N2 SameFr.refl I6 hd1 hm1 sc6 hsrc6 hap6 (piles_new (pgs_append hvs (.cons ⟨_, rfl⟩ .nil)) hpi hpas) l5 l6.1
      all_goals exact hmid _ ⟨_, _, rfl, fr_fm_back ag F4, N3⟩
    · obtain ⟨h3, tk3, rfl, F4, N4⟩ := hx
      clear F3 N3
      have F5 := fr_fm F4 ag
      dsimp only [fm] at F5
      clear F4
      dsimp only
      repeat' (first | ((fail_if_success (with_reducible show wpAny _ _ (exec (PySem.Stmt.If (PySem.Expr.BoolOp _ _ _) _ _ _) _) _ _ _)); first | (k_unfold; (try dsimp only)) | walk1 | (dsimp only; walk1)))
      · skip
        try (with_reducible refine hQ _ _ ?_); try dsimp only
        rename Fr _ _ _ _ => F2
        rename News _ _ _ _ => N2
        refine' cut_K (rest := frs) S' ?room F2 N2 hsrc hap I ht ?p1 ?_
        case room => (first | assumption | exact room_le hroom (by decide) | exact room_1 hroom (by decide) | exact room_0 hroom | ((try simp only [Around.deeper, Around.in1]); first | exact room_le hroom (by decide) | exact room_1 hroom (by decide) | exact room_0 hroom | omega))
        case p1 => (refine ⟨?_, ?_, ?_⟩ <;> split <;> omega)
        intro h6 ch6 tk6 F6 N6 I6 sc6 hsrc6 hap6
        clear F2 N2
        dsimp only
        k_steps
        try (with_reducible refine hQ _ _ ?_); try dsimp only
        rename Fr _ _ _ _ => F2
        rename News _ _ _ _ => N2
        rename ∀ p : Addr × Obj, _ → p.1 < _ => l5
        rename _ ∧ _ => l6
        exact deed_close1 h hg hbg F2 N2 SameFr.refl I6 (by assumption) (by assumption) sc6 hsrc6 hap6 (piles_new (pgs_take hvs _) hpi hpas) l5 l6.1
      · refine wp_join (fun s' => ∃ h' tk, s' = { s with heap := h', toks := tk } ∧ Fr g L' h' mm ∧ News g L' h' (dl w.params ch src (srcO d1 m1 td1 tm1 n) frs)) (fun Q8 hmid hret => ?_) (fun s' hx => ?_)
        · have hQ : ∀ v s', R (.ok (.ret v)) s' → Q8 (.ret v) s' := fun v s' x => hret v s' (hQ (.ret v) s' x)
          k_steps
          · refine' opn_K (rest := frs) S' ?room F5 N4 hsrc hap I ht ?p1 ?_
            case room => (first | assumption | exact room_le hroom (by decide) | exact room_1 hroom (by decide) | exact room_0 hroom | ((try simp only [Around.deeper, Around.in1]); first | exact room_le hroom (by decide) | exact room_1 hroom (by decide) | exact room_0 hroom | omega))
            case p1 => omega
            intro h6 ch6 rt6 tk6 F6 N6 I6 sc6 hsrc6 hap6
            clear F5 N4
            dsimp only
            k_steps
            · skip
              try (with_reducible refine hQ _ _ ?_); try dsimp only
              rename Fr _ _ _ _ => F2
              rename News _ _ _ _ => N2
              rename ∀ p : Addr × Obj, _ → p.1 < _ => l5
              rename _ ∧ _ => l6
              exact deed_close1 h hg hbg F2 N2 SameFr.refl I6 hd1 hm1 sc6 hsrc6 hap6 (piles_push hpa hvs hpas) l5 l6.1
          all_goals exact hmid _ ⟨_, _, rfl, fr_fm_back ag F5, N4⟩
        · obtain ⟨h7, tk7, rfl, F7, N7⟩ := hx
          clear F5 N4
          have F8 := fr_fm F7 ag
          dsimp only [fm] at F8
          clear F7
          dsimp only
          repeat' (first | ((fail_if_success (with_reducible show wpAny _ _ (compareOp _ (Value.ref _) (Value.ref _)) _ _ _)); first | (k_unfold; (try dsimp only)) | walk1 | (dsimp only; walk1)))
          try (with_reducible refine hQ _ _ ?_); try dsimp only
          rename Fr _ _ _ _ => F2
          rename News _ _ _ _ => N2
          refine eq_empty (xs := pas.map Value.ref) (hl2.at fun o e => F2.keep _ _ e) ⟨_, (N2 _ (.head _)).1, rfl, _, rfl⟩ (by show un + 3 < cLine; omega) ?_
          have N10 := news_sub N2 (fun p hp => List.Mem.tail _ hp)
          clear N2
          have hap' : ∀ q ∈ frs, q.1 ∉ ch.as ∧ q.1 ≠ src := fun q hq => ⟨(hap q hq).2, (hap q hq).1⟩
          by_cases hnil : pas = []
          · subst hnil
            have hp0 := pile_nil hpas
            have hs0 : ch.sps.length = 0 := I.n.trans hp0
            rw [decide_eq_true (show ([] : List Addr).map Value.ref = [] from rfl)]
            dsimp only
            k_steps
            try (with_reducible refine hQ _ _ ?_); try dsimp only
            rename Fr _ _ _ _ => F2
            rename News _ _ _ _ => N2
            refine' refused_K S' hroom hun rfl F2 N2 I.ok.nodup hsrc hap' hfr (inv_sz I) (.inr (by rw [hs0]; exact Int.le_refl _)) ?_
            intro h8 frs8 tk8 hs8 F8 N8
            clear F2 N2
            dsimp only
            k_steps
            try (with_reducible refine hQ _ _ ?_); try dsimp only
            rename Fr _ _ _ _ => F2
            rename News _ _ _ _ => N2
            refine' refused_K S' hroom hun rfl F2 N2 I.ok.nodup hsrc (frs_off hs8 hap') (hfr.same hs8) (inv_sz I) (.inl (by decide)) ?_
            intro h9 frs9 tk9 hs9 F9 N9
            clear F2 N2
            dsimp only
            k_steps
            try (with_reducible refine hQ _ _ ?_); try dsimp only
            rename Fr _ _ _ _ => F2
            rename News _ _ _ _ => N2
            rename _ ∧ _ => l6
            exact deed_close (s := s) (extra := []) h hg hbg F2 N2 rfl (hs8.trans hs9) (inv_mono I) hd1 hm1 ⟨rfl, rfl, rfl, rfl, rfl, rfl, rfl⟩ hsrc (fun q hq => (frs_off (hs8.trans hs9) hap' q hq).1) (PilesIn.mono ⟨vs, pn, [], pin, hpa, hvs, hpi, hpas⟩ fun p hp => List.mem_append_left _ hp) (allLt_dl l6) (fun p hp => nomatch hp)
          · have hpos := pile_pos hpas hnil
            rw [decide_eq_false (fun z => hnil (List.map_eq_nil_iff.mp z))]
            dsimp only
            k_steps
            · skip
              try (with_reducible refine hQ _ _ ?_); try dsimp only
              rename Fr _ _ _ _ => F2
              rename News _ _ _ _ => N2
              refine' rel_K (rest := frs) S' ?room F2 N2 hsrc hap I ht (by assumption) ?p1 ?_
              case room => (first | assumption | exact room_le hroom (by decide) | exact room_1 hroom (by decide) | exact room_0 hroom | ((try simp only [Around.deeper, Around.in1]); first | exact room_le hroom (by decide) | exact room_1 hroom (by decide) | exact room_0 hroom | omega))
              case p1 => omega
              intro h6 ch6 tk6 F6 N6 I6 sc6 hsrc6 hap6 hn6
              clear F2 N2
              dsimp only
              rw [← sc6.x] at F6
              k_steps
              try (with_reducible refine hQ _ _ ?_); try dsimp only
              rename Fr _ _ _ _ => F2
              rename News _ _ _ _ => N2
              refine' refused_K S' hroom hun rfl F2 N2 I6.ok.nodup hsrc6 (fun q hq => ⟨hap6 q hq, (hap q hq).1⟩) hfr (inv_sz I6) (.inr hn6) ?_
              intro h8 frs8 tk8 hs8 F8 N8
              clear F2 N2
              dsimp only
              k_steps
              try (with_reducible refine hQ _ _ ?_); try dsimp only
              rename Fr _ _ _ _ => F2
              rename News _ _ _ _ => N2
              rename ∀ p : Addr × Obj, _ → p.1 < _ => l5
              rename _ ∧ _ => l6
              exact deed_close1 h hg hbg F2 N2 hs8 I6 (by assumption) (by assumption) sc6 hsrc6 (fun q hq => (frs_off hs8 (fun q hq => ⟨hap6 q hq, (hap q hq).1⟩) q hq).1) (piles_take hpa hvs hpas) l5 l6.1
            · skip
              try (with_reducible refine hQ _ _ ?_); try dsimp only
              rename Fr _ _ _ _ => F2
              rename News _ _ _ _ => N2
              rename_i r9 tr9 d9 td9 m9 tm9 _ hr6 hr7 hd9 hm9 _ _ hway
              refine pile_at (r := r9) hpas hr6 (by omega) fun p9 a9 ws9 mn9 hp9 hit9 hws9 hpw9 => ?_
              refine' rb_K (rest := frs) S' ?room F2 N2 hsrc hap I ht (by assumption) hp9 ?_
              case room => (first | assumption | exact room_le hroom (by decide) | exact room_1 hroom (by decide) | exact room_0 hroom | ((try simp only [Around.deeper, Around.in1]); first | exact room_le hroom (by decide) | exact room_1 hroom (by decide) | exact room_0 hroom | omega))
              intro h6 ch6 tk6 F6 N6 I6 sc6 hsrc6 hap6 hn6
              clear F2 N2
              dsimp only
              rw [← sc6.x] at F6
              k_steps
              try (with_reducible refine hQ _ _ ?_); try dsimp only
              rename Fr _ _ _ _ => F2
              rename News _ _ _ _ => N2
              refine' refused_K S' hroom hun rfl F2 N2 I6.ok.nodup hsrc6 (fun q hq => ⟨hap6 q hq, (hap q hq).1⟩) hfr (inv_sz I6) (.inr hn6) ?_
              intro h8 frs8 tk8 hs8 F8 N8
              clear F2 N2
              dsimp only
              repeat' (first | ((fail_if_success (with_reducible show wpAny _ _ (subscriptTail _ _ (Value.ref _) (Value.int _ _)) _ _ _)); first | (k_unfold; (try dsimp only)) | walk1 | (dsimp only; walk1)))
              try (with_reducible refine hQ _ _ ?_); try dsimp only
              rename Fr _ _ _ _ => F2
              rename News _ _ _ _ => N2
              refine list_item (hl2.at fun o e => F2.keep _ _ e) (by assumption) (by omega) hit9 ?_
              try dsimp only
              k_steps
              try (with_reducible refine hQ _ _ ?_); try dsimp only
              rename Fr _ _ _ _ => F2
              rename News _ _ _ _ => N2
              rename ∀ p : Addr × Obj, _ → p.1 < _ => l5
              rename _ ∧ _ => l6
              exact deed_close1 h hg hbg F2 N2 hs8 I6 (by assumption) (by assumption) sc6 hsrc6 (fun q hq => (frs_off hs8 (fun q hq => ⟨hap6 q hq, (hap q hq).1⟩) q hq).1) (piles_back hws9 hpw9 hpas (by assumption)) l5 l6.1
end SP1
section SQ1
theorem one_mul {v : Value} {c : Int} : (List.replicate c.toNat [v]).flatten = List.replicate c.toNat v := by
  generalize c.toNat = k
  induction k with
  | zero => rfl
  | succ k ih => rw [List.replicate_succ, List.flatten_cons, ih, List.replicate_succ]; rfl
theorem zR {vs : List Value} {v : Value} {k : Nat} (h : vs.length ≤ 100) (hk : k ≤ 100) : vs.length + (List.replicate k v).length ≤ 1000 := by
  rw [List.length_replicate]; exact Nat.le_trans (Nat.add_le_add h hk) (by decide)
theorem zS {vs : List Value} {v : Value} {k : Nat} (h : vs.length ≤ 100) (hk : k ≤ 100) : (vs ++ List.replicate k v).length ≤ 1000 := by
  rw [List.length_append]; exact zR h hk
theorem slice_toN {prog : Program} {w : World} {A : Around} {E : Value → Shared → Prop} {s : Shared} {g : Heap} {L l : Addr} {m : Str → Option Value} {news : List (Addr × Obj)} {vs : List Value} {value slice : PySem.Expr} {c : Int} {t : Tok} {n : Nat} {Q : Value → Shared → Prop} (F : Fr g L s.heap m) (N : News g L s.heap ((l, listOf vs.toArray n) :: news)) (hz : vs.length ≤ 1000) (h0 : 0 ≤ c)
    (h : ∀ D h', Fr g L h' m → News g L h' ((D, listOf (vs.take c.toNat).toArray 0) :: news) → (∀ p ∈ news, p.1 < D) → Q (.ref D) { s with heap := h' })
    (hs : subscripted slice false (.ref l) (.ref s.heap.objs.size) = operate [.ref s.heap.objs.size, .ref l] (getItem (.ref l) (.ref s.heap.objs.size)) := by with_unfolding_all rfl) (ht : ∀ r, letTemporaryGo value (.ref l) r = pure () := by kmk_pure) :
    wpAny (model prog w) A (subscriptTail value slice (.ref l) (.ref s.heap.objs.size)) Q E { s with heap := s.heap.push { cls := .type "slice", data := .fields #[.none, .int c t, .none] } } := by
  refine kmk_slice_lit (lo := none) (hi := some c) F N ⟨_, (N _ (.head _)).1, rfl, _, rfl⟩ (by kmk_part) (by kmk_part) ?_ (fun D h' F' N' l => h D h' F' (news_sub N' (List.forall_mem_cons.mpr ⟨.head _, fun p hp => .tail _ (.tail _ hp)⟩)) fun p hp => l p (.tail _ hp)) hs ht (by rw [List.size_toArray, sizeLine_eq]; omega)
  obtain ⟨k, rfl⟩ := Int.eq_ofNat_of_zero_le h0
  rw [slicePick_upto']; rfl
theorem rules_Q1_1 : True := by
  k_with_none
  (k_with "binaryOp Mult ref int" => (k_here; (with_reducible show wpAny _ _ (binaryOp _ (Value.ref _) (Value.int _ _)) _ _ _); k_dflt (refine KMa.mul (by k_asm) (by k_asm) (by is_list) (by omega) (by omega) (by (simp only [List.length_cons, List.length_nil]; omega)) (by exact one_mul) ?_); intro D' h' F' N' l1; revert D' h' F' N' l1; intro _ _ _ _ _))
  (k_with "getItem ref int" => (refine wpAny_getItem_of (knd := PySem.intKind _ _) (intKind_is _ _ _ _) (kda_dict (by k_asm) (by k_mem) (by with_reducible assumption)).mapOf (by with_reducible assumption) ?_))
  (k_with "binaryOp Add ref ref" => (k_here; (with_reducible show wpAny _ _ (binaryOp _ (Value.ref _) (Value.ref _)) _ _ _); k_dflt (refine add_K1 (by k_asm) (by k_asm) (by assumption) ?_ (by exact zR (by assumption) (by assumption))); intro D' h' F' N' l1; revert D' h' F' N' l1; intro _ _ _ _ _))
  (k_with "subscriptTail Name Slice ref ref" => (k_here; (with_reducible show wpAny _ _ (subscriptTail _ (PySem.Expr.Slice _ _ none _) (Value.ref _) (Value.ref _)) _ _ _); k_dflt (refine slice_toN (by k_asm) (by k_asm) (by exact zS (by assumption) (by assumption)) (by assumption) ?_); intro D' h' F' N' l1; revert D' h' F' N' l1; intro _ _ _ _ _))
  trivial
theorem pgs_of : ∀ {ys : List Value} {ps : List Pg}, ys.length = ps.length → (∀ (i : Nat) p, ps[i]? = some p → ∃ t, ys[i]? = some (.bytes p t)) → PgsAre ys ps
  | [], [], _, _ => .nil
  | [], _ :: _, h, _ => nomatch h
  | _ :: _, [], h, _ => nomatch h
  | y :: ys, p :: ps, h, k => by
    obtain ⟨t, e⟩ := k 0 p rfl
    refine .cons ⟨t, Option.some.inj e⟩ (pgs_of (by simpa using h) fun i q e => ?_)
    obtain ⟨t, e⟩ := k (i + 1) q (by simpa using e)
    exact ⟨t, by simpa using e⟩
theorem set_any {prog : Program} {w : World} {A : Around} {E : Value → Shared → Prop} {s : Shared} {h₀ : Heap} {L D : Addr} {m : Str → Option Value} {news : List (Addr × Obj)} {vs : List Value} {n : Nat} {k : Int} {t : Tok} {v : Value} {Q : Unit → Shared → Prop} (F : Fr h₀ L s.heap m) (N : News h₀ L s.heap ((D, listOf vs.toArray n) :: news)) (hne : ∀ p ∈ news, p.1 ≠ D) (h0 : 0 ≤ k) (h1 : k < vs.length) (hfit : k < 2 ^ 63)
    (h : ∀ h', Fr h₀ L h' m → News h₀ L h' ((D, listOf (vs.set k.toNat v).toArray n) :: news) → Q () { s with heap := h' }) :
    wpAny (model prog w) A (setItem (.ref D) (.int k t) v) Q E s := by
  have z := N _ (.head _)
  refine ki_setAt z.1 h0 hfit (by simpa using h1) (h _ (F.change (Heap.SameBut.update ..) z.2.1 z.2.2) (ki_turn (pre := []) _ N (fun _ q => nomatch q) hne ?_ ?_))
  · apply Array.toList_inj.mp
    simp
  · simp
theorem valueAt_mem {kvs : List (Int × Value)} (hn : (kvs.map (·.1)).Nodup) {k : Int} {u : Value} (h : (k, u) ∈ kvs) : valueAt kvs k = some u := by
  induction kvs with
  | nil => cases h
  | cons p r ih =>
    unfold valueAt at ih ⊢
    rw [List.map_cons, List.nodup_cons] at hn
    rw [List.find?_cons]
    rcases List.mem_cons.mp h with e | h
    · rw [← e]; simp
    · have : p.1 ≠ k := fun e => hn.1 (by rw [e]; exact List.mem_map_of_mem (f := (·.1)) h)
      rw [decide_eq_false this]
      exact ih hn.2 h
structure Laid (c : Int) (kvs : List (Int × Value)) (base : List Value) (i : Nat) (ys : List Value) : Prop where
  len : ys.length = c.toNat
  val : ∀ q, 1 ≤ q → q ≤ c → ys[(q - 1).toNat]? = if q ∈ (kvs.take i).map (·.1) then valueAt kvs q else base[(q - 1).toNat]?
theorem laid_step {c k : Int} {kvs : List (Int × Value)} {base ys : List Value} {i : Nat} {u : Value} (h : Laid c kvs base i ys) (hk : kvs[i]? = some (k, u)) (hu : valueAt kvs k = some u) (h1 : 1 ≤ k) (h2 : k ≤ c) : Laid c kvs base (i + 1) (ys.set (k - 1).toNat u) := by
  refine ⟨by rw [List.length_set]; exact h.len, fun q hq1 hq2 => ?_⟩
  obtain ⟨_, _, e3⟩ := take_drop_at hk
  rw [e3, List.map_append, List.map_cons, List.map_nil]
  by_cases hq : q = k
  · have hl := h.len
    rw [hq, List.getElem?_set_self (by omega), if_pos (List.mem_append_right _ (.head _)), hu]
  · rw [List.getElem?_set_ne (by omega), h.val q hq1 hq2]
    by_cases hm : q ∈ (kvs.take i).map (·.1)
    · rw [if_pos hm, if_pos (List.mem_append_left _ hm)]
    · rw [if_neg hm, if_neg (fun z => (List.mem_append.mp z).elim hm fun z => hq (List.mem_singleton.mp z))]
theorem laid_zero {c : Int} {kvs : List (Int × Value)} {base : List Value} (h : base.length = c.toNat) : Laid c kvs base 0 base := ⟨h, fun q _ _ => by rw [if_neg]; exact fun z => nomatch z⟩
theorem laid_len {vs : List Value} {k : Nat} {v : Value} : ((vs ++ List.replicate k v).take k).length = k := by
  rw [List.length_take, List.length_append, List.length_replicate]; exact Nat.min_eq_left (Nat.le_add_left _ _)
theorem laid_end {w : World} {ch : ChG} {ps : List Pg} {pp : List (List Pg)} {t : Nat} {ys : List Value} {v : Value} (I : Inv w ch ps pp t) (h : Laid ch.c ch.kvs ((ch.first ++ List.replicate ch.c.toNat v).take ch.c.toNat) ch.kvs.length ys) : PgsAre ys ps := by
  have hc := I.c
  refine pgs_of (by rw [h.len, hc]; rfl) fun i p hp => ?_
  have hi := get_lt hp
  have e9 : ((i : Int) + 1 - 1).toNat = i := by rw [Int.add_sub_cancel]; rfl
  have q1 : 1 ≤ (i : Int) + 1 := by omega
  have q2 : (i : Int) + 1 ≤ ch.c := by omega
  obtain ⟨r, u, pg, e1, e2⟩ := I.rd ((i : Int) + 1) q1 q2
  have e3 := h.val ((i : Int) + 1) q1 q2
  have r := r.there
  unfold rdV at e1
  rw [e9] at e1 e2 e3 r
  rw [Option.some.inj (e2.symm.trans hp)] at e1
  rw [List.take_length] at e3
  refine ⟨u, ?_⟩
  rw [e3]
  cases hx : valueAt ch.kvs ((i : Int) + 1) with
  | some v =>
    rw [hx] at e1
    rw [if_pos (mem_keys.mpr (by rw [hx]; exact fun z => nomatch z))]
    exact congrArg some e1
  | none =>
    rw [hx] at e1
    have hl := r.resolve_left (fun z => z hx)
    rw [if_neg (fun z => mem_keys.mp z hx), List.getElem?_take_of_lt (by omega), List.getElem?_append_left hl]
    have e1 : (ch.first[i]?).getD .none = _ := e1
    cases hy : ch.first[i]? with
    | none => rw [hy] at e1; cases e1
    | some z => rw [hy] at e1; exact congrArg some e1
theorem laid_key {w : World} {ch : ChG} {ps : List Pg} {pp : List (List Pg)} {t i : Nat} {k : Int} {u : Value} (I : Inv w ch ps pp t) (hk : ch.kvs[i]? = some (k, u)) : valueAt ch.kvs k = some u ∧ 1 ≤ k ∧ k ≤ ch.c := by
  have hku : valueAt ch.kvs k = some u := by
    obtain ⟨_, _, _, _, _, _, hnd⟩ := I.ok.dict
    exact valueAt_mem hnd (List.mem_of_getElem? hk)
  exact ⟨hku, I.keys k (by rw [hku]; exact fun z => nomatch z)⟩
theorem laid_spec {w : World} {mean : ExcName → Option Value} {mg mb : Str → Option Value} {b : Heap} (S : Sta w mean mg mb b) {dep un : Nat} {fr : Option (List Env)} {gs : Option (List Code)} (hroom : dep + 4 < recursionLimit) {s : Shared} (hb : b.StaysIn s.heap)
    {ch : ChG} {ps : List Pg} {pp : List (List Pg)} {t : Nat} (hs : Own b s.heap (ch.l w.params)) (I : Inv w ch ps pp t) {fa fn : Nat}
    (hfa : s.heap.get? fa = some (listOf ch.first.toArray fn)) (hfa2 : fa ∉ ch.as) (hsz : ch.first.length ≤ 100) {R : Result → Shared → Prop}
    (h : ∀ h' (D n tk : Nat) (vs : List Value), s.heap.StaysIn h' → h'.get? D = some (listOf vs.toArray n) → s.heap.get? D = none → PgsAre vs ps → R (.ok (.ret (.ref D))) { s with heap := h', toks := tk }) :
    codeAny (model PySem.Challenge.rw_nt0093_01.row.prog w) (⟨none, dep, fr, gs, un⟩ : Around) (.call (.ref 242) ⟨[.ref ch.x, .ref fa], []⟩) R s := by
  have hc100 : ch.c.toNat ≤ 100 := by
    have := I.c
    have := I.len
    omega
  have hc0 : 0 ≤ ch.c := by rw [I.c]; exact Int.natCast_nonneg _
  have hc7 : ch.c ≤ 7 := by rw [I.c]; exact Int.ofNat_le.mpr I.len.2
  have okd := I.ok.dict
  have oknm := I.ok.nm
  refine' call_footQ (K := head.heap_39 w.params) S hb hs ?k1 S.X ?k2 (by (first | assumption | exact room_le hroom (by decide) | exact room_1 hroom (by decide) | exact room_0 hroom | ((try simp only [Around.deeper, Around.in1]); first | exact room_le hroom (by decide) | exact room_1 hroom (by decide) | exact room_0 hroom | omega))) ?k3 ?k4 ?_ ?c1 ?c2 ?c3 ?c4
  case k1 => k_is
  case k2 => k_is
  case k3 => first | exact BindsTo.of_eq rfl | exact binds_K (S.X.keeps hb) rfl (by k_is) rfl rfl rfl
  case k4 => exact locs rfl
  case c1 => exact rfl
  case c2 => exact rfl
  case c3 => exact rfl
  case c4 => decide
  intro Q9 g L' h₁ hQ hg hL F N S'
  have hbg := stays_of S hb hs hg
  have X := S'.X
  have T := S'.T
  dsimp only
  have hfg : g.get? fa = some (listOf ch.first.toArray fn) := hg _ _ hfa (by rw [ChG.l_as]; exact hfa2)
  have hl1 : g.IsList fa ch.first.toArray := ⟨_, hfg, rfl, _, rfl⟩
  have N1 : News g L' h₁ ((ch.x, instObj 191 ch.dx) :: (ch.dx, chD w.params (.ref ch.st) (.int ch.c ch.ct) (.ref ch.pg) (.ref ch.sv) ch.t1 ch.t2 ch.t3 ch.t4) :: (ch.pg, ch.po) :: popR w.params ch) := N
  clear N hfg
  repeat' (first | ((fail_if_success (with_reducible show wpAny _ _ (pyIter _) _ _ _)); first | (k_unfold; (try dsimp only)) | walk1 | (dsimp only; walk1)))
  try (with_reducible refine hQ _ _ ?_); try dsimp only
  rename Fr _ _ _ _ => F2
  rename News _ _ _ _ => N2
  rename ∀ p : Addr × Obj, _ → p.1 < _ => l5
  rename_i D3 _ h9
  obtain ⟨R9, hR9⟩ : ∃ R9, R9 = popR w.params ch := ⟨_, rfl⟩
  have N2 := news_sub N2 (List.forall_mem_cons.mpr ⟨.head _, fun p hp => .tail _ (.tail _ hp)⟩)
  have l5 := fun p hp => l5 p (.tail _ hp)
  rw [← hR9] at N2 l5
  refine keys_loop (od := ch.po) (kvs := ch.kvs) (fun ys => (D3, listOf (List.toArray ys) 0) :: (ch.x, instObj 191 ch.dx) :: (ch.dx, chD w.params (.ref ch.st) (.int ch.c ch.ct) (.ref ch.pg) (.ref ch.sv) ch.t1 ch.t2 ch.t3 ch.t4) :: (ch.pg, ch.po) :: R9) (fun _ => [(Str.ofString "changes", .ref ch.x), (Str.ofString "pages", .ref D3)]) (Laid ch.c ch.kvs _) _ rfl okd oknm F2 N2 (laid_zero laid_len) ?ag (fun _ _ _ => .tail _ (.tail _ (.tail _ (.head _)))) ?_ ?_
  case ag => exact ⟨rfl, rfl, trivial⟩
  · intro J9 io i k u kt ys hk hy hI m h4 tk4 Qt F4 N4 hkk
    have K := laid_key I hk
    have hku := K.1
    have hk1 := K.2.1
    have hk2 := K.2.2
    have hys := hy.len
    clear F2 N2 h hQ hl1
    dsimp only [fm] at F4 N4
    repeat' (first | ((fail_if_success (with_reducible show wpAny _ _ (setItem _ _ _) _ _ _)); first | (k_unfold; (try dsimp only)) | walk1 | (dsimp only; walk1)))
    try (with_reducible refine hQ _ _ ?_); try dsimp only
    rename Fr _ _ _ _ => F2
    rename News _ _ _ _ => N2
    have hoff : ∀ p ∈ (J9, io) :: (ch.x, instObj 191 ch.dx) :: (ch.dx, chD w.params (.ref ch.st) (.int ch.c ch.ct) (.ref ch.pg) (.ref ch.sv) ch.t1 ch.t2 ch.t3 ch.t4) :: (ch.pg, ch.po) :: R9, p.1 ≠ D3 := List.forall_mem_cons.mpr ⟨(hI _ (.head _)).symm, fun p hp => Nat.ne_of_lt (l5 p hp)⟩
    refine set_any F2 (news_sub N2 (List.forall_mem_cons.mpr ⟨.tail _ (.head _), List.forall_mem_cons.mpr ⟨.head _, fun p hp => .tail _ (.tail _ hp)⟩⟩)) hoff (by omega) (by omega) (by omega) ?_
    intro h6 F6 N7
    clear F2 N2
    dsimp only
    k_steps
    exact hkk _ _ (ys.set (k - 1).toNat u) _ F6 ⟨rfl, rfl, trivial⟩ (news_sub N7 (List.forall_mem_cons.mpr ⟨.tail _ (.head _), List.forall_mem_cons.mpr ⟨.head _, fun p hp => .tail _ (.tail _ hp)⟩⟩)) (laid_step hy hk hku hk1 hk2) (List.forall_mem_cons.mpr ⟨(hI (D3, listOf (List.toArray ys) 0) (.head _) : @Ne Nat D3 J9), fun p hp => hI p (.tail _ hp)⟩)
  · intro ys m h4 tk4 hy F4 N4
    clear F2 N2 hl1
    dsimp only [fm] at F4 N4 ⊢
    k_steps
    try (with_reducible refine hQ _ _ ?_); try dsimp only
    rename Fr _ _ _ _ => F2
    rename News _ _ _ _ => N2
    rw [hR9] at N2 l5
    have T5 := step_of hg hbg F2 N2 (foot' := ch.l w.params) (fun p hp => .tail _ hp)
    have T6 := step_of hg hbg F2 N2 (foot := ch.l w.params) (foot' := [(D3, listOf (List.toArray ys) 0)]) (fun p hp => by rw [List.mem_singleton.mp hp]; exact .head _)
    refine h _ D3 0 _ ys (T5.same hs) (N2 _ (.head _)).1 (T6.fresh (.head _) (fun q => ?_)) (laid_end I hy)
    obtain ⟨p, hp, e⟩ := List.mem_map.mp q
    exact Nat.ne_of_lt (l5 p hp) e
end SQ1
section SQ2
theorem norules_Q2 : True := by
  k_with_none
  trivial
theorem fresh_news {g h h' : Heap} {L D : Addr} {m m' : Str → Option Value} {o : Obj} {news : List (Addr × Obj)} (F : Fr g L h m) (F' : Fr g L h' m') (N : News g L h news) (N' : News g L h' news) (hD : h'.get? D = some o) (hn : h.get? D = none) : News g L h' ((D, o) :: news) ∧ ∀ p ∈ news, p.1 ≠ D := by
  refine ⟨fun p hp => ?_, fun p hp e => ?_⟩
  · rcases List.mem_cons.mp hp with rfl | hp
    · refine ⟨hD, fun e => ?_, ?_⟩
      · obtain ⟨oL, _, _, hL, _⟩ := F.ns
        have e : D = L := e
        rw [← e, hn] at hL; cases hL
      · cases q : g.get? D with
        | none => rfl
        | some x => have := F.keep _ _ q; rw [hn] at this; cases this
    · exact N' p hp
  · have := (N p hp).1
    rw [e, hn] at this; cases this
theorem lread_K {w : World} {mean : ExcName → Option Value} {mg mb : Str → Option Value} {b : Heap} (S : Sta w mean mg mb b) {dep un : Nat} {fr : Option (List Env)} {gs : Option (List Code)} {L : Addr} {mm : Str → Option Value} {news : List (Addr × Obj)} {s : Shared} {Q : Value → Shared → Prop} {E : Value → Shared → Prop} (F : Fr b L s.heap mm) (N : News b L s.heap news) (hroom : dep + 6 < recursionLimit)
    {ch : ChG} {ps : List Pg} {pp : List (List Pg)} {t : Nat} (hsub : ∀ p ∈ ch.l w.params, p ∈ news) (I : Inv w ch ps pp t)
    (h : ∀ h' (D n tk : Nat) vs, Fr b L h' mm → News b L h' ((D, listOf (List.toArray vs) n) :: news) → (∀ p ∈ news, p.1 ≠ D) → PgsAre vs ps → Q (.ref D) { s with heap := h', toks := tk }) :
    wpAny (model PySem.Challenge.rw_nt0093_01.row.prog w) (⟨none, dep, fr, gs, un⟩ : Around) (call (.ref 235) [.ref ch.x]) Q E s := by
  have hc := I.c
  have hl := I.len
  refine wpAny_call (lread_spec S hroom F.keep (own_of_news N hsub) I.ok (by omega) (fun q h1 h2 => (I.rd q h1 h2).1) ?_)
  intro h' D n tk K hD hn
  have F' := F.keeps K
  have N' := news_keeps N K
  obtain ⟨N'', hne⟩ := fresh_news F F' N N' hD hn
  refine h h' D n tk _ F' N'' hne (pgs_of (by simp; omega) fun i p hp => ?_)
  have hi := get_lt hp
  obtain ⟨_, u, pg, e1, e2⟩ := I.rd ((i : Int) + 1) (by omega) (by omega)
  rw [show ((i : Int) + 1 - 1).toNat = i from by omega, hp] at e2
  rw [← Option.some.inj e2] at e1
  refine ⟨u, ?_⟩
  rw [List.getElem?_map, List.getElem?_range (by omega)]
  exact congrArg some e1
theorem laid_K {w : World} {mean : ExcName → Option Value} {mg mb : Str → Option Value} {b : Heap} (S : Sta w mean mg mb b) {dep un : Nat} {fr : Option (List Env)} {gs : Option (List Code)} {L : Addr} {mm : Str → Option Value} {news : List (Addr × Obj)} {s : Shared} {Q : Value → Shared → Prop} {E : Value → Shared → Prop} (F : Fr b L s.heap mm) (N : News b L s.heap news) (hroom : dep + 6 < recursionLimit)
    {ch : ChG} {ps : List Pg} {pp : List (List Pg)} {t : Nat} (hsub : ∀ p ∈ ch.l w.params, p ∈ news) (I : Inv w ch ps pp t) {fa fn : Nat} (hfa : (fa, listOf ch.first.toArray fn) ∈ news) (hfa2 : fa ∉ ch.as) (hsz : ch.first.length ≤ 100)
    (h : ∀ h' (D n tk : Nat) vs, Fr b L h' mm → News b L h' ((D, listOf (List.toArray vs) n) :: news) → (∀ p ∈ news, p.1 ≠ D) → PgsAre vs ps → Q (.ref D) { s with heap := h', toks := tk }) :
    wpAny (model PySem.Challenge.rw_nt0093_01.row.prog w) (⟨none, dep, fr, gs, un⟩ : Around) (call (.ref 242) [.ref ch.x, .ref fa]) Q E s := by
  refine wpAny_call (laid_spec S (by omega) F.keep (own_of_news N hsub) I (N _ hfa).1 hfa2 hsz ?_)
  intro h' D n tk vs K hD hn hv
  have F' := F.keeps K
  have N' := news_keeps N K
  obtain ⟨N'', hne⟩ := fresh_news F F' N N' hD hn
  exact h h' D n tk vs F' N'' hne hv
theorem deed_K {w : World} {mean : ExcName → Option Value} {mg mb : Str → Option Value} {g : Heap} (S : Sta w mean mg mb g) {dep un : Nat} {gs : Option (List Code)} {env : Env} {L : Addr} {mm : Str → Option Value} {s : Shared} {Q : Value → Shared → Prop} {E : Value → Shared → Prop}
    (hroom : dep + 9 < recursionLimit) (hun : un + 300 < cLine) (hk : env.scope.kind = .function) (hfrm : env.frame = some L) {ch : ChG} {ps : List Pg} {pp : List (List Pg)} {t : Nat} {src n : Nat} {d m : Int} {td tm : Nat} {oth rest : List (Addr × Obj)} {pa pi : Nat}
    (F : Fr g L s.heap mm) (N : News g L s.heap (dl w.params ch src (srcO d m td tm n) rest)) (hsb : ∀ p ∈ oth, p ∈ rest) (I : Inv w ch ps pp t) (ht : t ≤ 16) (hd : 0 ≤ d) (hm : 0 ≤ m ∧ m < 2147483647) (hsrc : src ∉ ch.as) (hoth : ∀ p ∈ rest, p.1 ≠ src ∧ p.1 ∉ ch.as) (hp : PilesIn oth pa pi ps pp)
    (h : ∀ h' ch' d' m' td' tm' oth2 (r pa' pi' rn tk : Nat) ps' pp', Fr g L h' mm → News g L h' (dl w.params ch' src (srcO d' m' td' tm' n) (oth2 ++ rest)) → Inv w ch' ps' pp' (t + 1) → 0 ≤ d' → (0 ≤ m' ∧ m' < 2147483647) → SameCh ch ch' → src ∉ ch'.as → (∀ p ∈ oth2 ++ rest, p.1 ≠ src ∧ p.1 ∉ ch'.as) → (∀ p ∈ oth2, ∀ q ∈ rest, p.1 ≠ q.1) → (r, listOf #[.ref pa', .ref pi'] rn) ∈ oth2 → PilesIn (oth2 ++ oth) pa' pi' ps' pp' → Q (.ref r) { s with heap := h', toks := tk }) :
    wpAny (model PySem.Challenge.rw_nt0093_01.row.prog w) (Around.deeper ⟨none, dep, some [], gs, un⟩ env) (call (.ref 230) [.ref src, .ref ch.x, .ref pa, .ref pi]) Q E s := by
  obtain ⟨oL, es, ep, hL, hdd, hkk, hff⟩ := id F.ns
  have gL : g.get? L = none := kts_self F
  have neL : ∀ p ∈ dl w.params ch src (srcO d m td tm n) rest, p.1 ≠ L := fun p hp => (N p hp).2.1
  have hm2 : ∀ p ∈ ch.l w.params, p ∈ dl w.params ch src (srcO d m td tm n) rest := fun p hp => .tail _ (.tail _ (.tail _ (List.mem_append_left _ hp)))
  have hmo : ∀ p ∈ rest, p ∈ dl w.params ch src (srcO d m td tm n) rest := fun p hp => .tail _ (.tail _ (.tail _ (List.mem_append_right _ hp)))
  have asL : L ∉ ch.as := fun q => by
    rw [← ChG.l_as w.params] at q
    obtain ⟨p, hp, e⟩ := List.mem_map.mp q
    exact neL p (hm2 p hp) e
  have srcL : src ≠ L := neL _ (.head _)
  have O : Own g s.heap ((src, srcO d m td tm n) :: (ch.l w.params ++ [(L, oL)])) := by
    intro p hp
    rcases List.mem_cons.mp hp with rfl | hp
    · exact ⟨(N _ (.head _)).1, (N _ (.head _)).2.2⟩
    rcases List.mem_append.mp hp with hp | hp
    · exact ⟨(N _ (hm2 p hp)).1, (N _ (hm2 p hp)).2.2⟩
    · rw [List.mem_singleton.mp hp]; exact ⟨hL, gL⟩
  have hfoot : ∀ a, a ∈ ((src, srcO d m td tm n) :: (ch.l w.params ++ [(L, oL)])).map (·.1) → a = src ∨ a ∈ ch.as ∨ a = L := fun a q => by
    rw [List.map_cons, List.map_append, ChG.l_as] at q
    rcases List.mem_cons.mp q with q | q
    · exact .inl q
    · exact .inr ((List.mem_append.mp q).imp id fun q => List.mem_singleton.mp q)
  refine wpAny_call ?_
  refine deed_spec (outer := [env]) (frs := [(L, oL)]) (oth := oth) S (by show dep + 1 + 8 < recursionLimit; omega) (by show un + 3 + 200 < cLine; omega) F.keep O I ht hd hm (.cons (by rw [hk]; decide) hfrm ⟨es, ep, hdd⟩ .nil) (fun q hq => by rw [List.mem_singleton.mp hq]; exact ⟨Ne.symm srcL, asL⟩) hsrc (fun p hp => ⟨(N p (hmo p (hsb p hp))).1, (hoth p (hsb p hp)).1, (hoth p (hsb p hp)).2, fun q => neL p (hmo p (hsb p hp)) (List.mem_singleton.mp q)⟩) hp ?_
  intro h' ch' d' m' td' tm' frs' oth2 r pa' pi' rn tk ps' pp' T hsf I' hd' hm' sc hsrc' hap' hr hP hoff
  cases hsf with
  | @cons _ q _ frs2 e1 e2 hs' =>
    cases hs'
    obtain ⟨q1, q2⟩ := q
    obtain ⟨sl, e2⟩ := e2
    have e1 : L = q1 := e1.symm
    subst e1
    have e2 : q2 = { oL with slots := sl } := e2
    have oq := T.own (L, q2) (List.mem_append_right _ (.tail _ (List.mem_append_right _ (.head _))))
    have F' : Fr g L h' mm := by
      refine ⟨⟨q2, es, ep, oq.1, by rw [e2]; exact hdd, hkk, hff⟩, fun a o e => T.kept a o (F.keep a o e) (fun q => ?_), F.above⟩
      obtain ⟨p, hp, e3⟩ := List.mem_map.mp q
      have := (O p hp).2
      rw [e3, e] at this; cases this
    have asL' : L ∉ ch'.as := hap' _ (.head _)
    have offas : ∀ p ∈ rest, p.1 ∉ ch'.as := fun p hp hq => by
      rw [← ChG.l_as w.params] at hq
      obtain ⟨x, hx, e⟩ := List.mem_map.mp hq
      rcases T.new x (List.mem_append_right _ (.tail _ (List.mem_append_left _ hx))) with z | z
      · rw [e] at z
        rcases hfoot _ z with z | z | z
        · exact (hoth p hp).1 z
        · exact (hoth p hp).2 z
        · exact neL p (hmo p hp) z
      · rw [e, (N p (hmo p hp)).1] at z; cases z
    refine h h' ch' d' m' td' tm' oth2 r pa' pi' rn tk ps' pp' F' (mem_dl' ?_ ?_ ?_) I' hd' hm' sc hsrc' ?_ ?_ hr (hP.mono fun p hp => List.mem_append.mpr (List.mem_append.mp hp).symm)
    · have o := T.own (src, srcO d' m' td' tm' n) (List.mem_append_right _ (.head _))
      exact ⟨o.1, srcL, o.2⟩
    · intro p hp
      have o := T.own p (List.mem_append_right _ (.tail _ (List.mem_append_left _ hp)))
      exact ⟨o.1, fun e => asL' (by rw [← e, ← ChG.l_as w.params]; exact List.mem_map_of_mem hp), o.2⟩
    · intro p hp
      rcases List.mem_append.mp hp with hp | hp
      · have o := T.own p (List.mem_append_left _ hp)
        exact ⟨o.1, fun e => (hoff p hp).2.2 (by rw [e]; exact .head _), o.2⟩
      · refine ⟨T.kept _ _ (N p (hmo p hp)).1 (fun q => ?_), (N p (hmo p hp)).2⟩
        rcases hfoot _ q with z | z | z
        · exact (hoth p hp).1 z
        · exact (hoth p hp).2 z
        · exact neL p (hmo p hp) z
    · intro p hp
      rcases List.mem_append.mp hp with hp | hp
      · exact ⟨(hoff p hp).1, (hoff p hp).2.1⟩
      · exact ⟨(hoth p hp).1, offas p hp⟩
    · intro p hp q hq e
      rcases T.new p (List.mem_append_left _ hp) with z | z
      · rcases hfoot _ z with z | z | z
        · exact (hoth q hq).1 (e ▸ z)
        · exact (hoth q hq).2 (e ▸ z)
        · exact neL q (hmo q hq) (e ▸ z)
      · rw [e, (N q (hmo q hq)).1] at z; cases z
end SQ2
section SR0
noncomputable def BytesL (ys : List Value) : Prop := ∃ ps, PgsAre ys ps
theorem bytesL_snoc {ys : List Value} {bs : Pg} {t : Nat} (h : BytesL ys) : BytesL (ys ++ [.bytes bs t]) := by
  obtain ⟨ps, h⟩ := h
  exact ⟨ps ++ [bs], pgs_append h (.cons ⟨t, rfl⟩ .nil)⟩
theorem pgs_mem {vs : List Value} {ps : List Pg} (h : PgsAre vs ps) : ∀ v ∈ vs, ∃ bs t, v = .bytes bs t := by
  induction h with
  | nil => intro v hv; cases hv
  | cons x _ ih =>
    intro v hv
    rcases List.mem_cons.mp hv with rfl | hv
    · obtain ⟨t, e⟩ := x; exact ⟨_, t, e⟩
    · exact ih v hv
theorem ndc {a : Nat} {l : List Nat} (h : ∀ b ∈ l, a ≠ b) (k : l.Nodup) : (a :: l).Nodup := List.nodup_cons.mpr ⟨fun q => h a q rfl, k⟩
theorem fc {α : Type} {p : α → Prop} {a : α} {l : List α} (h : p a) (k : ∀ x ∈ l, p x) : ∀ x ∈ a :: l, p x := List.forall_mem_cons.mpr ⟨h, k⟩
theorem fn {α : Type} {p : α → Prop} : ∀ x ∈ ([] : List α), p x := List.forall_mem_nil _
theorem start_nodup {x dx pg sv st sd sl : Nat} (s1 : sd < st) (s2 : st < sl) (l7 : @LT.lt Nat _ sl dx) (s4 : dx < x) (s5 : x < pg) (s6 : pg < sv) : [x, dx, pg, st, sd, sl, sv].Nodup := by
  have a1 := Nat.lt_trans l7 s4
  have a2 := Nat.lt_trans a1 s5
  have a3 := Nat.lt_trans a2 s6
  have a4 := Nat.lt_trans s4 s5
  have a5 := Nat.lt_trans a4 s6
  have a6 := Nat.lt_trans s5 s6
  have b1 := Nat.lt_trans s2 l7
  have b2 := Nat.lt_trans b1 s4
  have b3 := Nat.lt_trans b2 s5
  have b4 := Nat.lt_trans b3 s6
  have c0 := Nat.lt_trans s1 s2
  have c1 := Nat.lt_trans s1 b1
  have c2 := Nat.lt_trans s1 b2
  have c3 := Nat.lt_trans s1 b3
  have c4 := Nat.lt_trans s1 b4
  exact ndc (fc (Nat.ne_of_gt s4) (fc (Nat.ne_of_lt s5) (fc (Nat.ne_of_gt b2) (fc (Nat.ne_of_gt c2) (fc (Nat.ne_of_gt a1) (fc (Nat.ne_of_lt a6) fn))))))
    (ndc (fc (Nat.ne_of_lt a4) (fc (Nat.ne_of_gt b1) (fc (Nat.ne_of_gt c1) (fc (Nat.ne_of_gt l7) (fc (Nat.ne_of_lt a5) fn)))))
    (ndc (fc (Nat.ne_of_gt b3) (fc (Nat.ne_of_gt c3) (fc (Nat.ne_of_gt a2) (fc (Nat.ne_of_lt s6) fn))))
    (ndc (fc (Nat.ne_of_gt s1) (fc (Nat.ne_of_lt s2) (fc (Nat.ne_of_lt b4) fn)))
    (ndc (fc (Nat.ne_of_lt c0) (fc (Nat.ne_of_lt c4) fn)) (ndc (fc (Nat.ne_of_lt a3) fn) (ndc fn List.nodup_nil))))))
theorem start_ok {w : World} {x dx pg sv st sd sl ct t1 t2 t3 t4 sn tp ln : Nat} {po : Obj} {ys : List Value} {ps : List Pg} (hps : PgsAre ys ps) (hl : ys.length ≤ 1000) (hpo : po.IsDictOf (intKind PySem.Challenge.rw_nt0093_01.row.prog w) []) (hpg : (pg == sysModules) = false)
    (hn : [x, dx, pg, st, sd, sl, sv].Nodup) : ChG.Ok w ⟨x, dx, pg, sv, st, sd, sl, 0, ct, t1, t2, t3, t4, po, [], sn, tp, ln, ys, []⟩ :=
  ⟨hpo, hpg, Nat.zero_le _, fun k v h => by simp [valueAt] at h, fun v hv => pgs_mem hps v hv, hl, hn, fun sp hsp => nomatch hsp⟩
theorem start_sub {P : Params} {x dx pg sv st sd sl ct t1 t2 t3 t4 sn tp ln : Nat} {po so oc ol : Obj} {ys : List Value} {src fl cl : Addr} :
    ∀ p ∈ (cl, oc) :: dl P ⟨x, dx, pg, sv, st, sd, sl, 0, ct, t1, t2, t3, t4, po, [], sn, tp, ln, ys, []⟩ src so [(fl, ol)],
      p ∈ [(sv, listOf #[] sn), (pg, po), (x, instObj 191 dx), (dx, chD P (.ref st) (.int 0 ct) (.ref pg) (.ref sv) t1 t2 t3 t4), (sl, listOf ys.toArray ln), (st, instObj 91 sd), (sd, plD P (.ref sl) tp), (cl, oc), (src, so), (fl, ol)] :=
  List.forall_mem_cons.mpr ⟨.tail _ (.tail _ (.tail _ (.tail _ (.tail _ (.tail _ (.tail _ (.head _))))))), List.forall_mem_cons.mpr ⟨.tail _ (.tail _ (.tail _ (.tail _ (.tail _ (.tail _ (.tail _ (.tail _ (.head _)))))))), List.forall_mem_cons.mpr ⟨.tail _ (.tail _ (.head _)), List.forall_mem_cons.mpr ⟨.tail _ (.tail _ (.tail _ (.head _))),
    List.forall_mem_cons.mpr ⟨.tail _ (.tail _ (.head _)), List.forall_mem_cons.mpr ⟨.tail _ (.tail _ (.tail _ (.head _))), List.forall_mem_cons.mpr ⟨.tail _ (.head _), List.forall_mem_cons.mpr ⟨.tail _ (.tail _ (.tail _ (.tail _ (.tail _ (.head _))))), List.forall_mem_cons.mpr ⟨.tail _ (.tail _ (.tail _ (.tail _ (.tail _ (.tail _ (.head _)))))),
    List.forall_mem_cons.mpr ⟨.tail _ (.tail _ (.tail _ (.tail _ (.head _)))), List.forall_mem_cons.mpr ⟨.head _, List.forall_mem_cons.mpr ⟨.tail _ (.tail _ (.tail _ (.tail _ (.tail _ (.tail _ (.tail _ (.tail _ (.tail _ (.head _))))))))), List.forall_mem_nil _⟩⟩⟩⟩⟩⟩⟩⟩⟩⟩⟩⟩
theorem inv_begin {w : World} {ch : ChG} {sps' : List SpG} {pg' : Nat} {po' : Obj} {ct c : Int} {ct' : Nat} {ps : List Pg} {k : Nat} (hf : PgsAre ch.first ps) (hlen : 1 ≤ ps.length ∧ ps.length ≤ 7) (hc : c = ps.length) (hB : All2 (BegOne w c) ch.sps sps') (hk : ch.sps.length = k) (hk4 : k ≤ 4)
    (ok : ChG.Ok w { ch with c := c, ct := ct', pg := pg', po := po', kvs := [], sps := sps' }) : Inv w { ch with c := c, ct := ct', pg := pg', po := po', kvs := [], sps := sps' } ps (List.replicate k ps) 0 := by
  have hrep : ∀ (i : Nat) p, (List.replicate k ps)[i]? = some p → p = ps := fun i p h => by
    have := List.mem_of_getElem? h
    exact (List.mem_replicate.mp this).2
  have hv : ∀ q, valueAt ([] : List (Int × Value)) q = none := fun q => by simp [valueAt]
  refine ⟨ok, hc, hlen, fun q h => absurd (hv q) h, fun q h1 h2 => ?_, by rw [List.length_replicate, ← hB.len]; exact hk, by rw [List.length_replicate]; exact hk4, fun i sp p h1 h2 => ?_, fun i j a pa b pb hij ha hpa hb hpb => ?_, Nat.zero_le _⟩
  · have h2 : q ≤ c := h2
    have hq : (q - 1).toNat < ps.length := by omega
    have hq2 : (q - 1).toNat < ch.first.length := by rw [hf.len]; exact hq
    obtain ⟨p, hp⟩ : ∃ p, ps[(q - 1).toNat]? = some p := ⟨_, List.getElem?_eq_getElem hq⟩
    obtain ⟨v, hv1, t, hv2⟩ := hf.getR hp
    refine ⟨⟨h1, by omega, .inr hq2⟩, t, p, ?_, hp⟩
    show (match valueAt ([] : List (Int × Value)) q with | some v => v | none => (ch.first[(q - 1).toNat]?).getD .none) = _
    rw [hv, hv1, hv2]; rfl
  · obtain ⟨a, _, B⟩ := hB.getR h1
    have e := hrep i p h2
    subst e
    refine ⟨by rw [B.c]; exact hc, hlen, fun q h => absurd (by rw [B.kvs]; exact hv q) h, fun q h1 h2 => .inr ⟨by rw [B.kvs]; exact hv q, by rw [B.c] at h2; omega, rfl⟩, by rw [B.kvs]; exact Nat.zero_le _⟩
  · obtain ⟨_, _, Ba⟩ := hB.getR ha
    obtain ⟨_, _, Bb⟩ := hB.getR hb
    have ea := hrep i pa hpa
    have eb := hrep j pb hpb
    subst ea
    intro q h1 h2 h3
    refine ⟨by rw [Bb.c]; rw [Ba.c] at h2; exact h2, by rw [Bb.kvs]; exact hv q, by rw [eb]⟩
theorem start_off {a x dx pg sv st sd sl : Nat} (h : @LT.lt Nat _ a sd) (s1 : sd < st) (s2 : st < sl) (l7 : @LT.lt Nat _ sl dx) (s4 : dx < x) (s5 : x < pg) (s6 : pg < sv) : a ∉ [x, dx, pg, st, sd, sl, sv] := by
  have h2 := Nat.lt_trans h s1
  have h3 := Nat.lt_trans h2 s2
  have h4 := Nat.lt_trans h3 l7
  have h5 := Nat.lt_trans h4 s4
  have h6 := Nat.lt_trans h5 s5
  exact fun q => (show ∀ b ∈ [x, dx, pg, st, sd, sl, sv], a < b from fc h5 (fc h4 (fc h6 (fc h2 (fc h (fc h3 (fc (Nat.lt_trans h6 s6) fn))))))) a q |> Nat.lt_irrefl a
end SR0
section SR1
theorem dl_in {P : Params} {ch : ChG} {src : Nat} {so : Obj} {l rest : List (Addr × Obj)} : ∀ p ∈ dl P ch src so (l ++ rest), p ∈ l ++ dl P ch src so rest :=
  mem_dl (List.mem_append_right _ (.head _)) (fun p hp => List.mem_append_right _ (ne_dl p hp)) fun p hp => (List.mem_append.mp hp).elim (List.mem_append_left _) fun q => List.mem_append_right _ (.tail _ (.tail _ (.tail _ (List.mem_append_right _ q))))
theorem dl_out {P : Params} {ch : ChG} {src : Nat} {so : Obj} {l rest : List (Addr × Obj)} : ∀ p ∈ l ++ dl P ch src so rest, p ∈ dl P ch src so (l ++ rest) :=
  List.forall_mem_append.mpr ⟨fun p hp => .tail _ (.tail _ (.tail _ (List.mem_append_right _ (List.mem_append_left _ hp)))), mem_dl (.head _) ne_dl fun p hp => .tail _ (.tail _ (.tail _ (List.mem_append_right _ (List.mem_append_right _ hp))))⟩
theorem SameCh.trans {a b c : ChG} (h : SameCh a b) (k : SameCh b c) : SameCh a c := ⟨k.x.trans h.x, k.st.trans h.st, k.sd.trans h.sd, k.sl.trans h.sl, k.tp.trans h.tp, k.ln.trans h.ln, k.first.trans h.first⟩
/-- PageChanges before the first begin, with i savepoints -/
structure StartI (w : World) (ch0 ch : ChG) (i : Nat) : Prop where
  ok : ch.Ok w
  same : SameCh ch0 ch
  c : ch.c = 0
  kvs : ch.kvs = []
  n : ch.sps.length = i
theorem off_dl {P : Params} {ch : ChG} {src : Nat} {so : Obj} {rest : List (Addr × Obj)} {a : Addr} (h1 : src ≠ a) (h2 : a ∉ ch.as) (h3 : ∀ p ∈ rest, p.1 ≠ a) : ∀ p ∈ dl P ch src so rest, p.1 ≠ a := by
  have hl : ∀ p ∈ ch.l P, p.1 ≠ a := fun p hp e => h2 (by rw [← ChG.l_as P, ← e]; exact List.mem_map_of_mem hp)
  intro p hp
  rcases List.mem_cons.mp hp with rfl | hp
  · exact h1
  rcases List.mem_cons.mp hp with rfl | hp
  · exact hl _ (.head _)
  rcases List.mem_cons.mp hp with rfl | hp
  · exact hl _ (.tail _ (.head _))
  exact (List.mem_append.mp hp).elim (hl p) (h3 p)
end SR1
section SR3
theorem end_nd {ch : ChG} {pg sv : Nat} (h : ch.as.Nodup) (f1 : pg ∉ ch.as) (f2 : sv ∉ ch.as) (l : pg < sv) : [ch.x, ch.dx, pg, ch.st, ch.sd, ch.sl, sv].Nodup := by
  have sub : [ch.x, ch.dx, ch.st, ch.sd, ch.sl].Sublist ch.as := .cons_cons _ (.cons_cons _ (.cons _ (.cons_cons _ (.cons_cons _ (.cons_cons _ (List.nil_sublist _))))))
  refine (List.perm_middle (l₁ := [ch.x, ch.dx]) (l₂ := [ch.st, ch.sd, ch.sl, sv]) (a := pg)).nodup_iff.mpr (List.nodup_cons.mpr ⟨fun q => ?_, (List.perm_middle (l₁ := [ch.x, ch.dx, ch.st, ch.sd, ch.sl]) (l₂ := []) (a := sv)).nodup_iff.mpr (List.nodup_cons.mpr ⟨fun q => f2 (sub.subset q), h.sublist sub⟩)⟩)
  rcases List.mem_append.mp (show pg ∈ [ch.x, ch.dx, ch.st, ch.sd, ch.sl] ++ [sv] from q) with q | q
  · exact f1 (sub.subset q)
  · exact Nat.ne_of_lt l (List.mem_singleton.mp q)
theorem end_mem {P : Params} {ch : ChG} {pg sv sn : Nat} {po : Obj} : ∀ p ∈ ChG.l P { ch with pg := pg, sv := sv, po := po, kvs := [], sn := sn, sps := [] }, p ∈ [(ch.x, instObj 191 ch.dx), (ch.dx, chD P (.ref ch.st) (.int ch.c ch.ct) (.ref pg) (.ref sv) ch.t1 ch.t2 ch.t3 ch.t4), (pg, po), (sv, listOf #[] sn)] ++ (ch.pg, ch.po) :: popR P ch :=
  List.forall_mem_cons.mpr ⟨.head _, List.forall_mem_cons.mpr ⟨.tail _ (.head _), List.forall_mem_cons.mpr ⟨.tail _ (.tail _ (.head _)), List.forall_mem_cons.mpr ⟨.tail _ (.tail _ (.tail _ (.tail _ (.tail _ (.head _))))), List.forall_mem_cons.mpr ⟨.tail _ (.tail _ (.tail _ (.tail _ (.tail _ (.tail _ (.head _)))))),
    List.forall_mem_cons.mpr ⟨.tail _ (.tail _ (.tail _ (.tail _ (.tail _ (.tail _ (.tail _ (.head _))))))), List.forall_mem_cons.mpr ⟨.tail _ (.tail _ (.tail _ (.head _))), List.forall_mem_nil _⟩⟩⟩⟩⟩⟩⟩
theorem end2 {w : World} {mean : ExcName → Option Value} {mg mb : Str → Option Value} {b : Heap} (S : Sta w mean mg mb b) {dep un : Nat} {fr : Option (List Env)} {gs : Option (List Code)} (hroom : dep < recursionLimit) {s : Shared} (hb : b.StaysIn s.heap)
    {ch : ChG} (hs : Own b s.heap (ch.l w.params)) (ok : ch.Ok w) {R : Result → Shared → Prop}
    (h : ∀ h' ch' tk, Step b (ch.l w.params) (ChG.l w.params ch') s.heap h' → ch'.Ok w → SameCh ch ch' → ch'.sps = [] → R (.ok (.ret .none)) { s with heap := h', toks := tk }) :
    codeAny (model PySem.Challenge.rw_nt0093_01.row.prog w) (⟨none, dep, fr, gs, un⟩ : Around) (.call (.ref 124) ⟨[.ref ch.x], []⟩) R s := by
  have AT := l_off (P := w.params) ok.nodup
  refine end_spec S hroom hb AT.1.1.symm (own_sub hs fun p hp => List.mem_append_left (as := [_, _]) ((ch.pg, ch.po) :: popR w.params ch) hp) fun h' pg sv po sn tk T hd hpg n1 n2 l1 => ?_
  have fresh := fresh_as hs
  exact h h' { ch with pg := pg, sv := sv, po := po, kvs := [], sn := sn, sps := [] } tk ((T.widen (own_sub hs (fun p hp => .tail _ (.tail _ hp))) (List.forall_mem_cons.mpr ⟨fun q => (List.mem_cons.mp q).elim AT.1.2.1.symm fun q => AT.1.2.2.symm (List.mem_singleton.mp q), fun p hp q => (List.mem_cons.mp q).elim (AT.2.1 p hp) fun q => AT.2.2.1 p hp (List.mem_singleton.mp q)⟩)).recut (fun a => Iff.rfl) end_mem)
    ⟨hd, hpg, Nat.zero_le _, fun k v h => (nomatch h), ok.fvals, ok.flen, end_nd (ch := ch) ok.nodup (fresh _ n1) (fresh _ n2) l1, fun sp hsp => nomatch hsp⟩ ⟨rfl, rfl, rfl, rfl, rfl, rfl, rfl⟩ rfl
end SR3
section SR4
theorem begin_K {w : World} {mean : ExcName → Option Value} {mg mb : Str → Option Value} {g : Heap} {L : Addr} {mm : Str → Option Value} {dep un : Nat} {fr : Option (List Env)} {gs : Option (List Code)} {s : Shared} {Q : Value → Shared → Prop} {E : Value → Shared → Prop}
    {ch : ChG} {src : Nat} {so : Obj} {rest : List (Addr × Obj)} {ps : List Pg} {k : Nat} {c : Int} {ct : Nat} (F : Fr g L s.heap mm) (N : News g L s.heap (dl w.params ch src so rest)) (S : Sta w mean mg mb g) (hroom : dep + 2 < recursionLimit) (hsrc : src ∉ ch.as) (hrest : ∀ q ∈ rest, q.1 ∉ ch.as) (ok : ch.Ok w)
    (hf : PgsAre ch.first ps) (hlen : 1 ≤ ps.length ∧ ps.length ≤ 7) (hc : c = ps.length) (hk : ch.sps.length = k) (hk4 : k ≤ 4)
    (h : ∀ h' ch' tk, Fr g L h' mm → News g L h' (dl w.params ch' src so rest) → Inv w ch' ps (List.replicate k ps) 0 → SameCh ch ch' → src ∉ ch'.as → (∀ q ∈ rest, q.1 ∉ ch'.as) → Q .none { s with heap := h', toks := tk }) :
    wpAny (model PySem.Challenge.rw_nt0093_01.row.prog w) (⟨none, dep, fr, gs, un⟩ : Around) (call (.ref 117) [.ref ch.x, .int c ct]) Q E s := by
  refine wpAny_call (begin_spec S hroom F.keep (own_of_news N (fun p hp => .tail _ (.tail _ (.tail _ (List.mem_append_left _ hp))))) ok ?_)
  intro h' pg' po' sps' tk T hB ok'
  have I := inv_begin (ct := c) hf hlen hc hB hk hk4 ok'
  obtain ⟨F', N', h1, h2, _⟩ := step_dl (fo := []) F N hsrc hrest (by rw [List.append_nil]; exact T)
  exact h h' _ tk F' N' I ⟨rfl, rfl, rfl, rfl, rfl, rfl, rfl⟩ h1 h2
theorem end_K {w : World} {mean : ExcName → Option Value} {mg mb : Str → Option Value} {g : Heap} {L : Addr} {mm : Str → Option Value} {dep un : Nat} {fr : Option (List Env)} {gs : Option (List Code)} {s : Shared} {Q : Value → Shared → Prop} {E : Value → Shared → Prop}
    {ch : ChG} {src : Nat} {so : Obj} {rest : List (Addr × Obj)} (F : Fr g L s.heap mm) (N : News g L s.heap (dl w.params ch src so rest)) (S : Sta w mean mg mb g) (hroom : dep < recursionLimit) (hsrc : src ∉ ch.as) (hrest : ∀ q ∈ rest, q.1 ∉ ch.as) (ok : ch.Ok w)
    (h : ∀ h' ch' tk, Fr g L h' mm → News g L h' (dl w.params ch' src so rest) → ch'.Ok w → SameCh ch ch' → ch'.sps = [] → src ∉ ch'.as → (∀ q ∈ rest, q.1 ∉ ch'.as) → Q .none { s with heap := h', toks := tk }) :
    wpAny (model PySem.Challenge.rw_nt0093_01.row.prog w) (⟨none, dep, fr, gs, un⟩ : Around) (call (.ref 124) [.ref ch.x]) Q E s := by
  refine wpAny_call (end2 S hroom F.keep (own_of_news N (fun p hp => .tail _ (.tail _ (.tail _ (List.mem_append_left _ hp))))) ok ?_)
  intro h' ch' tk T ok' sc hs
  obtain ⟨F', N', h1, h2, _⟩ := step_dl (fo := []) F N hsrc hrest (by rw [List.append_nil]; exact T)
  exact h h' ch' tk F' N' ok' sc hs h1 h2
theorem replicate_pgs {ps : List Pg} {oth : List (Addr × Obj)} {fl : Addr} {vs : List Value} {n k : Nat} (hm : (fl, listOf (List.toArray vs) n) ∈ oth) (hv : PgsAre vs ps) : All2 (fun a p => ∃ ws m, (a, listOf (List.toArray ws) m) ∈ oth ∧ PgsAre ws p) (List.replicate k fl) (List.replicate k ps) := by
  induction k with
  | zero => exact .nil
  | succ k ih => exact .cons ⟨vs, n, hm, hv⟩ ih
end SR4
section SR5
/-- _law_refused from the law's own frame: all of the ledger stands behind it -/
theorem refused_L {w : World} {mean : ExcName → Option Value} {mg mb : Str → Option Value} {g : Heap} (S : Sta w mean mg mb g) {dep un : Nat} {gs : Option (List Code)} {env : Env} {L : Addr} {m : Str → Option Value} {s : Shared} {Q : Value → Shared → Prop} {E : Value → Shared → Prop}
    (hroom : dep + 8 < recursionLimit) (hun : un + 200 < cLine) (hk : env.scope.kind = .function) (hfrm : env.frame = some L) {ch : ChG} {news : List (Addr × Obj)} {d : Int} {dt : Nat}
    (F : Fr g L s.heap m) (N : News g L s.heap news) (hm : ∀ p ∈ ch.l w.params, p ∈ news) (hsz : ch.sps.length ≤ 1000) (hd : d < 0 ∨ ch.sps.length ≤ d)
    (h : ∀ h' tk, Fr g L h' m → News g L h' news → Q (.bool true) { s with heap := h', toks := tk }) :
    wpAny (model PySem.Challenge.rw_nt0093_01.row.prog w) (Around.deeper ⟨none, dep, some [], gs, un⟩ env) (call (.ref 223) [.ref ch.x, .int d dt]) Q E s := by
  refine refused_G (news := news) (frs := []) S hroom hun hk hfrm F (by rw [List.append_nil]; exact N) hm (fun _ _ q => nomatch q) .nil hsz hd fun h' frs' tk hs F' N' => ?_
  cases hs
  rw [List.append_nil] at N'
  exact h h' tk F' N'
end SR5
section SR6
theorem wp_letters {prog : Program} {w : World} {A : Around} {t : Sem Flow} {Q : Flow → Shared → Prop} {E : Value → Shared → Prop} {s : Shared}
    (h : ∀ Q' : Flow → Shared → Prop, (∀ v s', Q (.ret v) s' → Q' (.ret v) s') → wpAny (model prog w) A t Q' (fun _ _ => False) s) : wpAny (model prog w) A t Q E s :=
  wpAny_mono (h Q fun _ _ x => x) (fun _ _ x => x) fun _ _ x => x.elim
noncomputable abbrev C0 (cl : Addr) (oc : Obj) (src : Nat) (i : Nat) (ys : List Value) (news : List (Addr × Obj)) : Prop := ∃ d m td tm, news = [(cl, oc), (src, srcO d m td tm 0)] ∧ 0 ≤ d ∧ (0 ≤ m ∧ m < 2147483647) ∧ ys.length = i ∧ BytesL ys
theorem C0.elim {G : Prop} {cl : Addr} {oc : Obj} {src : Nat} {i : Nat} {ys : List Value} {news : List (Addr × Obj)} (h : C0 cl oc src i ys news) (k : ∀ d m td tm, news = [(cl, oc), (src, srcO d m td tm 0)] → 0 ≤ d → (0 ≤ m ∧ m < 2147483647) → ys.length = i → BytesL ys → G) : G := by
  obtain ⟨d, m, td, tm, h1, h2, h3, h4, h5⟩ := h
  exact k d m td tm h1 h2 h3 h4 h5
theorem start_all {G : Prop} {w : World} {g h : Heap} {L : Addr} {x dx pg sv st sd sl ct t1 t2 t3 t4 sn tp ln : Nat} {po so oc ol : Obj} {ys : List Value} {ps : List Pg} {src fl cl : Nat}
    (hps : PgsAre ys ps) (hl : ys.length ≤ 1000) (hpo : po.IsDictOf (intKind PySem.Challenge.rw_nt0093_01.row.prog w) []) (hpg : (pg == sysModules) = false) (s1 : sd < st) (s2 : st < sl) (s3 : ∀ p ∈ ((cl, oc) : Addr × Obj) :: (src, so) :: [(fl, ol)], @LT.lt Nat _ p.1 sd) (s4 : dx < x) (s5 : x < pg) (s6 : pg < sv) (l7 : @LT.lt Nat _ sl dx)
    (N : News g L h [(sv, listOf #[] sn), (pg, po), (x, instObj 191 dx), (dx, chD w.params (.ref st) (.int 0 ct) (.ref pg) (.ref sv) t1 t2 t3 t4), (sl, listOf ys.toArray ln), (st, instObj 91 sd), (sd, plD w.params (.ref sl) tp), (cl, oc), (src, so), (fl, ol)])
    (k : ∀ ch0 : ChG, ch0.x = x → ch0.st = st → ch0.first = ys → StartI w ch0 ch0 0 → src ∉ ch0.as → fl ∉ ch0.as → cl ∉ ch0.as → News g L h ((cl, oc) :: dl w.params ch0 src so [(fl, ol)]) → G) : G := by
  have hnd := start_nodup s1 s2 l7 s4 s5 s6
  have ok := start_ok (w := w) (ct := ct) (t1 := t1) (t2 := t2) (t3 := t3) (t4 := t4) (sn := sn) (tp := tp) (ln := ln) hps hl hpo hpg hnd
  refine k ⟨x, dx, pg, sv, st, sd, sl, 0, ct, t1, t2, t3, t4, po, [], sn, tp, ln, ys, []⟩ rfl rfl rfl ⟨ok, ⟨rfl, rfl, rfl, rfl, rfl, rfl, rfl⟩, rfl, rfl, rfl⟩ ?_ ?_ ?_ (news_sub N (start_sub (P := w.params) (ct := ct)))
  · exact start_off (s3 _ (.tail _ (.head _))) s1 s2 l7 s4 s5 s6
  · exact start_off (s3 _ (.tail _ (.tail _ (.head _)))) s1 s2 l7 s4 s5 s6
  · exact start_off (s3 _ (.head _)) s1 s2 l7 s4 s5 s6
theorem dl_call {G : Prop} {P : Params} {g h h' : Heap} {L : Addr} {m : Str → Option Value} {ch ch' : ChG} {src : Nat} {so : Obj} {front rest : List (Addr × Obj)} (F : Fr g L h m) (N : News g L h (front ++ dl P ch src so rest)) (hsrc : src ∉ ch.as) (hf : ∀ q ∈ front, q.1 ∉ ch.as) (hr : ∀ q ∈ rest, q.1 ∉ ch.as)
    (T : Step g (ch.l P) (ch'.l P) h h') (k : Fr g L h' m → News g L h' (front ++ dl P ch' src so rest) → src ∉ ch'.as → (∀ q ∈ front, q.1 ∉ ch'.as) → (∀ q ∈ rest, q.1 ∉ ch'.as) → G) : G := by
  have X := step_dl (fo := []) (rest := front ++ rest) F (news_sub N dl_in) hsrc (fun q hq => (List.mem_append.mp hq).elim (hf q) (hr q)) (by rw [List.append_nil]; exact T)
  exact k X.1 (news_sub X.2.1 dl_out) X.2.2.1 (fun q hq => X.2.2.2.1 q (List.mem_append_left _ hq)) fun q hq => X.2.2.2.1 q (List.mem_append_right _ hq)
theorem off_as {P : Params} {ch : ChG} {src : Nat} {so : Obj} {rest : List (Addr × Obj)} {I : Addr} (h : ∀ p ∈ dl P ch src so rest, p.1 ≠ I) : I ∉ ch.as := fun q => by
  rw [← ChG.l_as P] at q
  obtain ⟨p, hp, e⟩ := List.mem_map.mp q
  exact h p (ne_dl p hp) e
theorem opn0_K {w : World} {mean : ExcName → Option Value} {mg mb : Str → Option Value} {g : Heap} {L : Addr} {mm : Str → Option Value} {dep un : Nat} {fr : Option (List Env)} {gs : Option (List Code)} {s : Shared} {Q : Value → Shared → Prop} {E : Value → Shared → Prop} {ch0 ch : ChG} {src : Nat} {so : Obj} {front rest : List (Addr × Obj)} {i : Nat}
    (S : Sta w mean mg mb g) (hroom : dep + 5 < recursionLimit) (F : Fr g L s.heap mm) (N : News g L s.heap (front ++ dl w.params ch src so rest)) (hsrc : src ∉ ch.as) (hf : ∀ q ∈ front, q.1 ∉ ch.as) (hr : ∀ q ∈ rest, q.1 ∉ ch.as) (St : StartI w ch0 ch i) (hi : i ≤ 1000)
    (k : ∀ h' ch' rt tk, Fr g L h' mm → News g L h' (front ++ dl w.params ch' src so rest) → src ∉ ch'.as → (∀ q ∈ front, q.1 ∉ ch'.as) → (∀ q ∈ rest, q.1 ∉ ch'.as) → StartI w ch0 ch' (i + 1) → ch'.x = ch.x → Q (.int i rt) { s with heap := h', toks := tk }) :
    wpAny (model PySem.Challenge.rw_nt0093_01.row.prog w) (⟨none, dep, fr, gs, un⟩ : Around) (call (.ref 166) [.ref ch.x]) Q E s := by
  refine wpAny_call ?_
  have hn := St.n
  refine open2 S (room_le hroom (by decide)) F.keep (own_of_news N fun p hp => List.mem_append_right _ (ne_dl p hp)) St.ok (by rw [hn]; exact hi) ?_
  intro h' sp rt tk T hc hk ok'
  rw [hn]
  exact dl_call F N hsrc hf hr T fun F' N' s' f' r' => k h' _ rt tk F' N' s' f' r' ⟨ok', ⟨St.same.x, St.same.st, St.same.sd, St.same.sl, St.same.tp, St.same.ln, St.same.first⟩, St.c, St.kvs, by rw [List.length_append, hn]; rfl⟩ rfl
/-- the first loop: i savepoints opened, i copies on the pile -/
structure J1S (w : World) (ch0 : ChG) (src pi cl fl : Nat) (i : Nat) (z : ChG × Nat) : Prop where
  St : StartI w ch0 z.1 i
  s : src ∉ z.1.as
  p : pi ∉ z.1.as
  c : cl ∉ z.1.as
  f : fl ∉ z.1.as
noncomputable abbrev L1 (P : Params) (src : Nat) (so : Obj) (cl : Addr) (oc : Obj) (fl : Addr) (ol : Obj) (pi : Addr) (z : ChG × Nat) : List (Addr × Obj) := (pi, listOf (List.toArray (List.replicate z.1.sps.length (Value.ref fl))) z.2) :: (cl, oc) :: dl P z.1 src so [(fl, ol)]
theorem rep_push {k : Nat} {v : Value} : (List.replicate k v).toArray.push v = (List.replicate (k + 1) v).toArray := by
  rw [List.push_toArray, List.replicate_succ']
theorem j1_end {w : World} {g h : Heap} {L : Addr} {ch0 ch ch' : ChG} {src pi cl fl I : Nat} {so oc ol io : Obj} {i pn : Nat} (hn : ch.sps.length = i) (St : StartI w ch0 ch' (i + 1)) (s9 : src ∉ ch'.as) (f9 : ∀ q ∈ [((I, io) : Addr × Obj), (pi, listOf (List.toArray (List.replicate ch.sps.length (Value.ref fl))) pn), (cl, oc)], q.1 ∉ ch'.as) (r9 : ∀ q ∈ [((fl, ol) : Addr × Obj)], q.1 ∉ ch'.as)
    (hI : ∀ p ∈ L1 w.params src so cl oc fl ol pi (ch, pn), p.1 ≠ I) (N : News g L h ((pi, listOf ((List.toArray (List.replicate ch.sps.length (Value.ref fl))).push (Value.ref fl)) (pn + 1)) :: (I, io) :: (cl, oc) :: dl w.params ch' src so [(fl, ol)])) :
    News g L h ((I, io) :: L1 w.params src so cl oc fl ol pi (ch', pn + 1)) ∧ J1S w ch0 src pi cl fl (i + 1) (ch', pn + 1) ∧ ∀ p ∈ L1 w.params src so cl oc fl ol pi (ch', pn + 1), p.1 ≠ I := by
  have e : (List.toArray (List.replicate ch.sps.length (Value.ref fl))).push (Value.ref fl) = List.toArray (List.replicate ch'.sps.length (Value.ref fl)) := by rw [rep_push, hn, St.n]
  rw [e] at N
  have hI1 : ∀ q ∈ L1 w.params src so cl oc fl ol pi (ch, pn), @Ne Nat q.1 I := hI
  refine ⟨news_sub N (List.forall_mem_cons.mpr ⟨.tail _ (.head _), List.forall_mem_cons.mpr ⟨.head _, fun p hp => .tail _ (.tail _ hp)⟩⟩), ⟨St, s9, f9 _ (.tail _ (.head _)), f9 _ (.tail _ (.tail _ (.head _))), r9 _ (.head _)⟩, List.forall_mem_cons.mpr ⟨(hI (pi, listOf (List.toArray (List.replicate ch.sps.length (Value.ref fl))) pn) (.head _) : @Ne Nat pi I), List.forall_mem_cons.mpr ⟨hI _ (.tail _ (.head _)), off_dl (hI (src, so) (.tail _ (.tail _ (.head _)))) (f9 _ (.head _)) fun q hq => ?_⟩⟩⟩
  rw [List.mem_singleton.mp hq]
  exact hI (fl, ol) (.tail _ (.tail _ (.tail _ (.tail _ (.tail _ (List.mem_append_right _ (.head _)))))))
/-- the second loop -/
structure LS where
  ch : ChG
  d : Int
  mm : Int
  td : Nat
  tm : Nat
  oth : List (Addr × Obj)
  pa : Nat
  pi : Nat
  ps : List Pg
  pp : List (List Pg)
noncomputable abbrev L2 (P : Params) (src : Nat) (cl : Addr) (oc : Obj) (z : LS) : List (Addr × Obj) := (cl, oc) :: dl P z.ch src (srcO z.d z.mm z.td z.tm 0) z.oth
structure J2S (w : World) (ch0 : ChG) (src : Nat) (cl : Addr) (oc : Obj) (fl : Addr) (ol : Obj) (i : Nat) (z : LS) : Prop where
  cm : (cl, oc) ∈ z.oth
  fm : (fl, ol) ∈ z.oth
  inv : Inv w z.ch z.ps z.pp i
  d0 : 0 ≤ z.d
  m0 : 0 ≤ z.mm ∧ z.mm < 2147483647
  same : SameCh ch0 z.ch
  s : src ∉ z.ch.as
  off : ∀ p ∈ z.oth, p.1 ≠ src ∧ p.1 ∉ z.ch.as
  piles : PilesIn z.oth z.pa z.pi z.ps z.pp
theorem piles_pages {G : Prop} {oth : List (Addr × Obj)} {pa pi : Nat} {ps : List Pg} {pp : List (List Pg)} (h : PilesIn oth pa pi ps pp) (k : ∀ vs n, (pa, listOf (List.toArray vs) n) ∈ oth → PgsAre vs ps → G) : G := by
  obtain ⟨vs, n, _, _, h1, h2, _⟩ := h
  exact k vs n h1 h2
theorem j2_end {w : World} {g h : Heap} {L : Addr} {ch0 ch3 ch4 : ChG} {src : Nat} {oc ol io : Obj} {cl fl I : Addr} {i : Nat} {d8 m8 : Int} {td8 tm8 : Nat} {oth oth2 : List (Addr × Obj)} {pa4 pi4 : Nat} {qs4 : List Pg} {pp4 : List (List Pg)} {z : LS} (hz : J2S w ch0 src cl oc fl ol i z) (hI : ∀ p ∈ L2 w.params src cl oc z, p.1 ≠ I) (e1 : z.ch = ch3) (e2 : z.oth = oth)
    (N : News g L h ((I, io) :: (cl, oc) :: (dl w.params ch4 src (srcO d8 m8 td8 tm8 0) (oth2 ++ (I, io) :: oth)))) (I4 : Inv w ch4 qs4 pp4 (i + 1)) (hd8 : 0 ≤ d8) (hm8 : 0 ≤ m8 ∧ m8 < 2147483647) (sc4 : SameCh ch3 ch4) (hs4 : src ∉ ch4.as)
    (ro5 : ∀ p ∈ oth2 ++ (I, io) :: oth, p.1 ≠ src ∧ p.1 ∉ ch4.as) (hap5 : ∀ p ∈ oth2, ∀ q ∈ (I, io) :: oth, p.1 ≠ q.1) (hP4 : PilesIn (oth2 ++ oth) pa4 pi4 qs4 pp4) :
    News g L h ((I, io) :: L2 w.params src cl oc ⟨ch4, d8, m8, td8, tm8, oth2 ++ oth, pa4, pi4, qs4, pp4⟩) ∧ J2S w ch0 src cl oc fl ol (i + 1) ⟨ch4, d8, m8, td8, tm8, oth2 ++ oth, pa4, pi4, qs4, pp4⟩ ∧ ∀ p ∈ L2 w.params src cl oc ⟨ch4, d8, m8, td8, tm8, oth2 ++ oth, pa4, pi4, qs4, pp4⟩, p.1 ≠ I := by
  subst e1 e2
  have up : ∀ p ∈ oth2 ++ z.oth, p ∈ oth2 ++ (I, io) :: z.oth := fun p hp => List.mem_append.mpr ((List.mem_append.mp hp).imp id fun q => .tail _ q)
  refine ⟨news_sub N (List.forall_mem_cons.mpr ⟨.head _, List.forall_mem_cons.mpr ⟨.tail _ (.head _), fun p hp => .tail _ (.tail _ (mem_dl (.head _) ne_dl (fun q hq => .tail _ (.tail _ (.tail _ (List.mem_append_right _ (up q hq))))) p hp))⟩⟩),
    ⟨List.mem_append_right _ hz.cm, List.mem_append_right _ hz.fm, I4, hd8, hm8, SameCh.trans hz.same sc4, hs4, fun p hp => ro5 p (up p hp), hP4⟩,
    List.forall_mem_cons.mpr ⟨hI _ (.head _), off_dl (hI (src, _) (.tail _ (.head _))) (ro5 (I, io) (List.mem_append_right _ (.head _))).2 fun q hq => ?_⟩⟩
  rcases List.mem_append.mp hq with hq | hq
  · exact hap5 q hq _ (.head _)
  · exact hI q (.tail _ (.tail _ (.tail _ (.tail _ (List.mem_append_right _ hq)))))
end SR6
section SQ3
theorem rules_Q3_1 : True := by
  k_with_none
  (k_with "call ref" => ((with_reducible show wpAny _ _ (call (Value.ref 209) [_, _]) _ _ _); k_dflt (refine take_K (by assumption) (by assumption) (by assumption) (by (first | assumption | exact room_le hroom (by decide) | exact room_1 hroom (by decide) | exact room_0 hroom | ((try simp only [Around.deeper, Around.in1]); first | exact room_le hroom (by decide) | exact room_1 hroom (by decide) | exact room_0 hroom | omega))) (by k_updF) (by assumption) (by assumption) (by first | decide | omega) (by first | decide | omega) ?_; intro h' r tr d' td' m' tm' tk F' N' hr0 hr1 hd' hm'; (try dsimp only at N')); revert h' r tr d' td' m' tm' tk F' N' hr0 hr1 hd' hm'; intro _ _ _ _ _ _ _ _ _ _ _ _ _ _))
  (k_with "call ref" => ((with_reducible show wpAny _ _ (call (Value.ref 216) [_]) _ _ _); k_dflt (refine page_K (by assumption) (by assumption) (by assumption) (by (first | assumption | exact room_le hroom (by decide) | exact room_1 hroom (by decide) | exact room_0 hroom | ((try simp only [Around.deeper, Around.in1]); first | exact room_le hroom (by decide) | exact room_1 hroom (by decide) | exact room_0 hroom | omega))) (by k_updF) (by assumption) (by assumption) ?_; intro h' bs tb d' td' m' tm' tk F' N' hbs hd' hm'; (try dsimp only at N')); revert h' bs tb d' td' m' tm' tk F' N' hbs hd' hm'; intro _ _ _ _ _ _ _ _ _ _ _ _ _))
  (k_with "call type:range" => ((with_unfolding_all refine range1_rows (by k_asm) (by k_asm) ?_; intro _ _ _ _ _ _ _ _ _)))
  trivial
open LCg
theorem law_try : PySem.Challenge.rw_nt0093_01.Holds := head (by
  k_go0
  rename World => w
  rename Top _ _ _ _ _ _ => T
  rename Heap.IsList _ _ _ => hL
  rename IntsAre _ _ => hI
  rename Fr _ _ _ _ => F
  rename News _ _ _ _ => N
  rename _ = #[] => hgens
  rename Frag.In _ _ => KX
  rename ¬ _ < _ => hlen
  rename PyData.layable0 _ = true => hlay
  rename Shared => s₁
  rename Heap => h₁
  have S : Sta w _ _ _ s₁.heap := ⟨KX, T⟩
  obtain ⟨dep, hdep, eA⟩ : ∃ dep, dep + 20 < recursionLimit ∧ callerA = ⟨none, dep, some [], some [], 4⟩ := ⟨_, by decide +kernel, rfl⟩
  have hun : 4 + 300 < cLine := by decide +kernel
  rw [eA]
  rename Below _ _ _ _ => K0
  clear K0
  dsimp only at F
  have hroom := hdep
  refine wp_letters fun Q9 hQ => ?_
  repeat' (first | ((fail_if_success (with_reducible show wpAny _ _ (call _ _) _ _ _)); first | (k_unfold; (try dsimp only)) | walk1 | (dsimp only; walk1)))
  refine wpAny_call ?_
  refine' pool_spec S ?rA ?kA hL hI ?lenA ?bitsA ?_
  case rA => (first | assumption | exact room_le hroom (by decide) | exact room_1 hroom (by decide) | exact room_0 hroom | ((try simp only [Around.deeper, Around.in1]); first | exact room_le hroom (by decide) | exact room_1 hroom (by decide) | exact room_0 hroom | omega))
  case kA => exact F.keep
  case lenA => omega
  case bitsA => exact fun _ hk => PyData.bits_item_of_ints hlay hk
  intro h2 src d0 td0 m0 tm0 tk2 T2 hd0 hm0 hm0'
  have hm0 : 0 ≤ m0 ∧ m0 < 2147483647 := ⟨hm0, hm0'⟩
  have FO := after_fr F N (by intro p hp; cases hp) T2
  have NO := after_news (rest := [(_, _)]) F N (by intro p hp; cases hp) (fun p hp => hp) (by intro p hp q; cases q) T2
  have hcs : @Ne Nat (s₁.heap.objs.size + 1) src := fun e => by
    have a1 := (N _ (.head _)).1
    have a2 := T2.fresh (.head _) (fun q => nomatch q)
    simp only at a1 a2
    rw [e, a2] at a1
    cases a1
  clear F N T2
  dsimp only [List.cons_append, List.nil_append] at NO ⊢
  repeat' (first | ((fail_if_success (with_reducible show wpAny _ _ (exec (PySem.Stmt.Assign _ (PySem.Expr.ListComp _ _ _ _) _) _) _ _ _)); first | (k_unfold; (try dsimp only)) | walk1 | (dsimp only; walk1)))
  try (with_reducible refine hQ _ _ ?_); try dsimp only
  rename Fr _ _ _ _ => F2
  rename News _ _ _ _ => N2
  rename_i h3 oc hoc
  have N3 := news_sub N2 (l' := (_, oc) :: [(src, srcO d0 m0 td0 tm0 0)]) (by intro p hp; exact List.mem_append.mpr (List.mem_append.mp (show p ∈ [(_, oc)] ++ [(src, srcO d0 m0 td0 tm0 0)] from hp)).symm)
  clear N2
  refine LCg.Assign_ListComp_U (F₀ := F2) (by rfl) (by with_unfolding_all rfl) (by with_unfolding_all rfl) (by decide) (by rfl) (by decide) (by rfl) (by rfl) (by rfl) ?_
  repeat' (first | ((fail_if_success (with_reducible show CompSrc _ _ _ _ _ _ _ _ _ _ _ _ _ _)); first | (k_unfold; (try dsimp only)) | walk1 | (dsimp only; walk1)))
  try (with_reducible refine hQ _ _ ?_); try dsimp only
  rename Fr _ _ _ _ => F2
  rename News _ _ _ _ => N2
  rename IsRange _ _ _ _ _ _ _ _ => hr2
  rename_i r1 tr1 d1 td1 m1 tm1 _ FX NX hr0 hr1 hd1 hm1 _ _ _ _ _ _
  clear FX NX
  refine CompSrc.range (n := (1 + r1).toNat) rfl F2 N2 hr2 (small_one (by omega) (by omega) (by omega) (by omega)) (by rw [rangeSize_one]; split <;> omega) (by rw [sizeLine_eq]; omega) fun g' => ?_
  refine comp_inv (C0 (s₁.heap.objs.size + 1) oc src) ?_ ?_ _ _ _ _ (Nat.zero_add _) ⟨d1, m1, td1, tm1, rfl, hd1, hm1, rfl, [], .nil⟩
  · intro i ys news hi hJ v I oI C oC D mv h4 tk4 E' hv hNs hmv F4 N4 O4 ne4
    refine C0.elim hJ fun d2 m2 td2 tm2 e hd2 hm2 hyl hps => ?_
    subst e
    obtain ⟨vt, rfl⟩ := hv
    clear F2 N2 hr2 hJ
    have o1 := O4.1.1
    have o2 := O4.1.2.1
    have o3 := O4.1.2.2
    have o4 := O4.2.1.1
    have o5 := O4.2.1.2.1
    have o6 := O4.2.1.2.2
    k_steps
    all_goals first | exact bytesL_snoc hps | (rw [List.length_append, hyl]; rfl)
  · intro ys news hJ fl h4 tk4 F4 N4 O4
    refine C0.elim hJ fun d2 m2 td2 tm2 e hd2 hm2 hyl hps => ?_
    subst e
    clear F2 N2 hr2 hd1 hm1 hd0 hm0 hJ
    obtain ⟨mm, F5⟩ : ∃ mm : Str → Option Value, Fr s₁.heap s₁.heap.objs.size h4 (fun z => if z = Str.ofString "first" then some (.ref fl) else mm z) := ⟨_, F4⟩
    have N5 : News s₁.heap s₁.heap.objs.size h4 [(s₁.heap.objs.size + 1, oc), (src, srcO d2 m2 td2 tm2 0), (fl, listOf (List.toArray ys) ys.length)] := news_sub N4 (List.forall_mem_cons.mpr ⟨.tail _ (.head _), List.forall_mem_cons.mpr ⟨.tail _ (.tail _ (.head _)), List.forall_mem_cons.mpr ⟨.head _, List.forall_mem_nil _⟩⟩⟩)
    have hO1 : @Ne Nat (s₁.heap.objs.size + 1) fl := O4.1
    have hO2 : @Ne Nat src fl := O4.2.1
    clear F4 N4 O4 N3
    have hyl2 : ys.length ≤ sizeLine := by rw [sizeLine_eq]; omega
    dsimp only
    k_steps
    try (with_reducible refine hQ _ _ ?_); try dsimp only
    rename Fr _ _ _ _ => F2
    rename News _ _ _ _ => N2
    refine' mk_store F2 N2 S ?rB (.tail _ (.tail _ (.head _))) hyl2 ?_
    case rB => (first | assumption | exact room_le hroom (by decide) | exact room_1 hroom (by decide) | exact room_0 hroom | ((try simp only [Around.deeper, Around.in1]); first | exact room_le hroom (by decide) | exact room_1 hroom (by decide) | exact room_0 hroom | omega))
    intro st sd sl tp ln h5 tk5 F6 N6 s1 s2 s3
    clear F2 N2
    dsimp only
    k_steps
    try (with_reducible refine hQ _ _ ?_); try dsimp only
    rename Fr _ _ _ _ => F2
    rename News _ _ _ _ => N2
    refine' mk_ch F2 N2 S ?rC ?_
    case rC => (first | assumption | exact room_le hroom (by decide) | exact room_1 hroom (by decide) | exact room_0 hroom | ((try simp only [Around.deeper, Around.in1]); first | exact room_le hroom (by decide) | exact room_1 hroom (by decide) | exact room_0 hroom | omega))
    intro x dx pg sv ct t1 t2 t3 t4 po sn h6 tk6 F7 N7 hpo hpg s4 s5 s6 s7
    clear F2 N2
    dsimp only
    obtain ⟨ps, hps⟩ := hps
    have hpl := hps.len
    refine start_all (w := w) hps (by omega) hpo hpg s1 s2 s3 s4 s5 s6 (s7 _ (.head _)) N7 fun ch0 x0 st0 f0 St0 hsrc0 hfl0 hcl0 N8 => ?_
    clear N7 s1 s2 s3 s4 s5 s6 s7
    rw [← x0]
    have hxs := dl_ne (P := w.params) (rest := [(fl, listOf (List.toArray ys) ys.length)]) hsrc0 (fun q hq => by rw [List.mem_singleton.mp hq]; exact Ne.symm hO2)
    have hx1 := hxs.1
    have hx2 := hxs.2.1
    have hx3 := hxs.2.2
    clear hxs
    repeat' (first | ((fail_if_success (with_reducible show wpAny _ _ (pyIter _) _ _ _)); first | (k_unfold; (try dsimp only)) | walk1 | (dsimp only; walk1)))
    try (with_reducible refine hQ _ _ ?_); try dsimp only
    rename Fr _ _ _ _ => F2
    rename News _ _ _ _ => N2
    rename IsRange _ _ _ _ _ _ _ _ => hr2
    rename_i pi _ lpi _ FX1 NX1 _ r5 tr5 d5 td5 m5 tm5 _ FX2 NX2 hr5 hr6 hd5 hm5 _ _ _ _ _ _
    clear FX1 NX1 FX2 NX2
    have lp5 : AllLt pi (ch0.l w.params ++ [(fl, listOf (List.toArray ys) ys.length)]) := lpi.2.2.2.2
    have hpi0 : pi ∉ ch0.as := fun q => by
      rw [← ChG.l_as w.params] at q
      obtain ⟨p, hp, e⟩ := List.mem_map.mp q
      exact Nat.lt_irrefl _ (e ▸ allLt_mem lp5 p (List.mem_append_left _ hp))
    have lpf : @LT.lt Nat _ fl pi := allLt_mem lp5 (fl, _) (List.mem_append_right _ (.head _))
    have hpi1 : @Ne Nat (s₁.heap.objs.size + 1) pi := Nat.ne_of_lt lpi.1
    have hpi2 : @Ne Nat src pi := Nat.ne_of_lt lpi.2.1
    clear lp5 lpi hx1 hx2 hx3
    refine range_loop (L1 w.params src (srcO d5 m5 td5 tm5 0) (s₁.heap.objs.size + 1) oc fl (listOf (List.toArray ys) ys.length) pi) (fun z => [(Str.ofString "changes", .ref z.1.x), (Str.ofString "pile", .ref pi), (Str.ofString "first", .ref fl), (Str.ofString "store", .ref st)]) (J1S w ch0 src pi (s₁.heap.objs.size + 1) fl) (ch0, 0) rfl hr2 (by omega) (by omega) F2 ?N1 ⟨St0, hsrc0, hpi0, hcl0, hfl0⟩ ?ag1 ?_ ?_
    case N1 =>
      show News _ _ _ ((pi, listOf (List.toArray (List.replicate ch0.sps.length (Value.ref fl))) 0) :: _)
      rw [St0.n]; exact N2
    case ag1 => exact ⟨rfl, rfl, rfl, rfl, trivial⟩
    · intro I io i vt z hi hz hI m h8 tk8 Qt F8 N8 hk
      clear F2 N2 hr2 hQ hpi0 hsrc0 hfl0 hcl0 St0
      obtain ⟨ch, pn⟩ := z
      dsimp only [fm] at F8 N8 hk hz hI
      k_steps
      refine' opn0_K (front := [(I, io), (pi, _), (s₁.heap.objs.size + 1, oc)]) (rest := [(fl, _)]) S ?rD F8 N8 hz.s ?f ?r hz.St (by omega) ?_
      case rD => (first | assumption | exact room_le hroom (by decide) | exact room_1 hroom (by decide) | exact room_0 hroom | ((try simp only [Around.deeper, Around.in1]); first | exact room_le hroom (by decide) | exact room_1 hroom (by decide) | exact room_0 hroom | omega))
      case f => exact List.forall_mem_cons.mpr ⟨off_as (fun p hp => hI p (.tail _ (.tail _ hp))), List.forall_mem_cons.mpr ⟨hz.p, List.forall_mem_cons.mpr ⟨hz.c, List.forall_mem_nil _⟩⟩⟩
      case r => exact fun q hq => by rw [List.mem_singleton.mp hq]; exact hz.f
      intro h9 ch9 rt9 tk9 F9 N9 s9 f9 r9 St9 ex9
      clear F8 N8
      dsimp only
      rw [← ex9] at F9
      k_steps
      · skip
        try (with_reducible refine hQ _ _ ?_); try dsimp only
        rename Fr _ _ _ _ => F2
        rename News _ _ _ _ => N2
        have N13 := news_sub N2 (l' := (pi, _) :: (I, io) :: (s₁.heap.objs.size + 1, oc) :: dl w.params ch9 src (srcO d5 m5 td5 tm5 0) [(fl, listOf (List.toArray ys) ys.length)]) (List.forall_mem_cons.mpr ⟨.tail _ (.head _), List.forall_mem_cons.mpr ⟨.head _, fun p hp => .tail _ (.tail _ hp)⟩⟩)
        have hpof : ∀ p ∈ (I, io) :: (s₁.heap.objs.size + 1, oc) :: dl w.params ch9 src (srcO d5 m5 td5 tm5 0) [(fl, listOf (List.toArray ys) ys.length)], p.1 ≠ pi := List.forall_mem_cons.mpr ⟨(hI _ (.head _)).symm, List.forall_mem_cons.mpr ⟨hpi1, off_dl hpi2 (f9 _ (.tail _ (.head _))) fun q hq => by rw [List.mem_singleton.mp hq]; exact Nat.ne_of_lt lpf⟩⟩
        clear N2
        refine append_K F2 N13 (.head hpof) ?_ (by rw [sizeLine_eq, List.size_toArray, List.length_replicate, hz.St.n]; omega)
        intro h10 F11 N14
        clear N13 F2
        dsimp only
        k_steps
        have X := j1_end hz.St.n St9 s9 f9 r9 hI N14
        exact hk _ _ (ch9, pn + 1) _ F11 ⟨rfl, rfl, rfl, rfl, trivial⟩ X.1 X.2.1 X.2.2
    · intro z m h8 tk8 hz F8 N8
      clear F2 N2 hr2 hpi0 hsrc0 hfl0 hcl0
      obtain ⟨ch, pn⟩ := z
      dsimp only [fm] at F8 N8 hz ⊢
      have hn := hz.St.n
      repeat' (first | ((fail_if_success (with_reducible show wpAny _ _ (call (Value.builtin "len") _) _ _ _)); first | (k_unfold; (try dsimp only)) | walk1 | (dsimp only; walk1)))
      try (with_reducible refine hQ _ _ ?_); try dsimp only
      rename Fr _ _ _ _ => F2
      rename News _ _ _ _ => N2
      refine len_list (PySem.IsL.isList (N2 (fl, _) (.tail _ (.tail _ (.tail _ (.tail _ (.tail _ (List.mem_append_right _ (.head _)))))))).1) (by simp; omega) ?_
      dsimp only
      repeat' (first | ((fail_if_success (with_reducible show wpAny _ _ (call (Value.ref 117) _) _ _ _)); first | (k_unfold; (try dsimp only)) | walk1 | (dsimp only; walk1)))
      try (with_reducible refine hQ _ _ ?_); try dsimp only
      rename Fr _ _ _ _ => F2
      rename News _ _ _ _ => N2
      have hfy : PgsAre ch.first ps := by rw [hz.St.same.first, f0]; exact hps
      have N9 : News s₁.heap s₁.heap.objs.size h8 (dl w.params ch src (srcO d5 m5 td5 tm5 0) ([(pi, listOf (List.toArray (List.replicate ch.sps.length (Value.ref fl))) pn), (s₁.heap.objs.size + 1, oc)] ++ [(fl, listOf (List.toArray ys) ys.length)])) := news_sub N2 dl_in
      clear N2
      refine' begin_K F2 N9 S ?rE hz.s ?hre hz.St.ok hfy (by omega) (by simp; omega) hn (by omega) ?_
      case rE => (first | assumption | exact room_le hroom (by decide) | exact room_1 hroom (by decide) | exact room_0 hroom | ((try simp only [Around.deeper, Around.in1]); first | exact room_le hroom (by decide) | exact room_1 hroom (by decide) | exact room_0 hroom | omega))
      case hre => exact List.forall_mem_cons.mpr ⟨hz.p, List.forall_mem_cons.mpr ⟨hz.c, fun q hq => by rw [List.mem_singleton.mp hq]; exact hz.f⟩⟩
      intro h9 ch2 tk9 F10 N10 I2 sc2 hs2 hr2
      clear F2 N9
      rw [← sc2.x] at F10
      have sc02 := SameCh.trans hz.St.same sc2
      obtain ⟨oth0, hoth0⟩ : ∃ oth0 : List (Addr × Obj), oth0 = [(pi, listOf (List.toArray (List.replicate ch.sps.length (Value.ref fl))) pn), (s₁.heap.objs.size + 1, oc)] ++ [(fl, listOf (List.toArray ys) ys.length)] := ⟨_, rfl⟩
      have ro : ∀ q ∈ oth0, q.1 ≠ src ∧ q.1 ∉ ch2.as := by
        rw [hoth0]
        exact List.forall_mem_cons.mpr ⟨⟨Ne.symm hpi2, hr2 _ (.head _)⟩, List.forall_mem_cons.mpr ⟨⟨hcs, hr2 _ (.tail _ (.head _))⟩, fun q hq => by rw [List.mem_singleton.mp hq]; exact ⟨Ne.symm hO2, hr2 _ (.tail _ (.tail _ (.head _)))⟩⟩⟩
      have hcm : (s₁.heap.objs.size + 1, oc) ∈ oth0 := by rw [hoth0]; exact .tail _ (.head _)
      have hflm : (fl, listOf (List.toArray ys) ys.length) ∈ oth0 := by rw [hoth0]; exact .tail _ (.tail _ (.head _))
      have hPi : PilesIn oth0 fl pi ps (List.replicate (r5 - 0).toNat ps) := ⟨ys, ys.length, List.replicate (r5 - 0).toNat fl, pn, hflm, hps, by rw [hoth0, List.map_replicate, hn]; exact .head _, replicate_pgs hflm hps⟩
      rw [← hoth0] at N10
      have N11 : News s₁.heap s₁.heap.objs.size h9 ((s₁.heap.objs.size + 1, oc) :: dl w.params ch2 src (srcO d5 m5 td5 tm5 0) oth0) := List.forall_mem_cons.mpr ⟨N10 _ (.tail _ (.tail _ (.tail _ (List.mem_append_right _ hcm)))), N10⟩
      clear N10 hr2 hoth0
      have hxs := dl_ne (P := w.params) (rest := oth0) hs2 (fun q hq => (ro q hq).1)
      have hx1 := hxs.1
      have hx2 := hxs.2.1
      have hx3 := hxs.2.2
      clear hxs hpi1 hpi2 lpf
      dsimp only
      repeat' (first | ((fail_if_success (with_reducible show wpAny _ _ (pyIter _) _ _ _)); first | (k_unfold; (try dsimp only)) | walk1 | (dsimp only; walk1)))
      try (with_reducible refine hQ _ _ ?_); try dsimp only
      rename Fr _ _ _ _ => F2
      rename News _ _ _ _ => N2
      rename IsRange _ _ _ _ _ _ _ _ => hr9
      rename_i _ FX1 NX1 _ r6 tr6 d6 td6 m6 tm6 _ FX2 NX2 hr7 hr8 hd6 hm6 _ _ _ _ _ _
      clear FX1 NX1 FX2 NX2 hx1 hx2 hx3
      refine range_loop (L2 w.params src (s₁.heap.objs.size + 1) oc) (fun z => [(Str.ofString "changes", .ref z.ch.x), (Str.ofString "pages", .ref z.pa), (Str.ofString "pile", .ref z.pi), (Str.ofString "first", .ref fl), (Str.ofString "store", .ref st)]) (J2S w ch0 src (s₁.heap.objs.size + 1) oc fl (listOf (List.toArray ys) ys.length)) ⟨ch2, d6, m6, td6, tm6, oth0, fl, pi, ps, List.replicate (r5 - 0).toNat ps⟩ rfl hr9 (by omega) (by omega) F2 N2 ⟨hcm, hflm, I2, hd6, hm6, sc02, hs2, ro, hPi⟩ ?ag2 ?_ ?_
      case ag2 => exact ⟨rfl, rfl, rfl, rfl, rfl, trivial⟩
      · intro I io i vt z hi hz hI m h10 tk10 Qt F11 N12 hk
        clear F2 N2 hr9 hQ hcm hflm I2 hd6 hm6 sc02 hs2 ro hPi hn hfy
        have hz0 := hz
        have hI0 := hI
        obtain ⟨ch3, d7, m7, td7, tm7, oth, pa, pj, qs, pp⟩ := z
        have I3 : Inv w ch3 qs pp i := hz.inv
        have hd7 : 0 ≤ d7 := hz.d0
        have hm7 : 0 ≤ m7 ∧ m7 < 2147483647 := hz.m0
        have hs3 : src ∉ ch3.as := hz.s
        have hcm3 : (s₁.heap.objs.size + 1, oc) ∈ oth := hz.cm
        have hI3 : ∀ p ∈ dl w.params ch3 src (srcO d7 m7 td7 tm7 0) oth, p.1 ≠ I := fun p hp => hI p (.tail _ hp)
        dsimp only [fm] at F11 N12
        repeat' (first | ((fail_if_success (with_reducible show wpAny _ _ (call (Value.ref 230) _) _ _ _)); first | (k_unfold; (try dsimp only)) | walk1 | (dsimp only; walk1)))
        try (with_reducible refine hQ _ _ ?_); try dsimp only
        rename Fr _ _ _ _ => F2
        rename News _ _ _ _ => N2
        have N13 : News s₁.heap s₁.heap.objs.size h10 (dl w.params ch3 src (srcO d7 m7 td7 tm7 0) ((I, io) :: oth)) := news_sub N2 (fun p hp => (List.mem_cons.mp (dl_in (l := [(I, io)]) p hp)).elim (fun q => q ▸ .head _) fun q => .tail _ (.tail _ q))
        clear N2
        refine' deed_K (oth := oth) S ?rF hun rfl rfl F2 N13 (fun p hp => .tail _ hp) I3 (by omega) hd7 hm7 hs3 (List.forall_mem_cons.mpr ⟨⟨(hI3 _ (.head _)).symm, off_as hI3⟩, hz.off⟩) hz.piles ?_
        case rF => (first | assumption | exact room_le hroom (by decide) | exact room_1 hroom (by decide) | exact room_0 hroom | ((try simp only [Around.deeper, Around.in1]); first | exact room_le hroom (by decide) | exact room_1 hroom (by decide) | exact room_0 hroom | omega))
        intro h11 ch4 d8 m8 td8 tm8 oth2 rr pa4 pi4 rn tk11 qs4 pp4 F13 N14 I4 hd8 hm8 sc4 hs4 ro5 hap5 hrm hP4
        clear F2 N13
        have N15 : News s₁.heap s₁.heap.objs.size h11 ((rr, listOf #[Value.ref pa4, Value.ref pi4] rn) :: (s₁.heap.objs.size + 1, oc) :: dl w.params ch4 src (srcO d8 m8 td8 tm8 0) (oth2 ++ (I, io) :: oth)) :=
          List.forall_mem_cons.mpr ⟨N14 _ (.tail _ (.tail _ (.tail _ (List.mem_append_right _ (List.mem_append_left _ hrm))))), List.forall_mem_cons.mpr ⟨N14 _ (.tail _ (.tail _ (.tail _ (List.mem_append_right _ (List.mem_append_right _ (.tail _ hcm3)))))), N14⟩⟩
        clear N14
        rw [← sc4.x] at F13
        refine piles_pages hP4 fun vs4 n4 hpa4 hvs4 => ?_
        have hpa5 : (pa4, listOf (List.toArray vs4) n4) ∈ oth2 ++ (I, io) :: oth := (List.mem_append.mp hpa4).elim (List.mem_append_left _) fun q => List.mem_append_right _ (.tail _ q)
        have hc4 := I4.c
        have hl4 := I4.len
        have hsz4 : vs4.toArray.size = qs4.length := by rw [List.size_toArray]; exact hvs4.len
        dsimp only
        repeat' (first | ((fail_if_success (with_reducible show wpAny _ _ (call (Value.builtin "len") _) _ _ _)); first | (k_unfold; (try dsimp only)) | walk1 | (dsimp only; walk1)))
        try (with_reducible refine hQ _ _ ?_); try dsimp only
        rename Fr _ _ _ _ => F2
        rename News _ _ _ _ => N2
        refine len_list (PySem.IsL.isList (N2 (pa4, _) (.tail _ (.tail _ (.tail _ (.tail _ (.tail _ (List.mem_append_right _ hpa5))))))).1) (by rw [hsz4]; omega) ?_
        dsimp only
        k_steps
        · skip
          try (with_reducible refine hQ _ _ ?_); try dsimp only
          rename Fr _ _ _ _ => F2
          rename News _ _ _ _ => N2
          refine' lread_K S F2 N2 ?rG (fun p hp => .tail _ (.tail _ (ne_dl p hp))) I4 ?_
          case rG => (first | assumption | exact room_le hroom (by decide) | exact room_1 hroom (by decide) | exact room_0 hroom | ((try simp only [Around.deeper, Around.in1]); first | exact room_le hroom (by decide) | exact room_1 hroom (by decide) | exact room_0 hroom | omega))
          intro h12 D5 n5 tk12 vs5 F14 N16 hne5 hv5
          clear F2 N2
          dsimp only
          repeat' (first | ((fail_if_success (with_reducible show wpAny _ _ (compareOp _ (Value.ref _) (Value.ref _)) _ _ _)); first | (k_unfold; (try dsimp only)) | walk1 | (dsimp only; walk1)))
          try (with_reducible refine hQ _ _ ?_); try dsimp only
          rename Fr _ _ _ _ => F2
          rename News _ _ _ _ => N2
          refine' ne_pgs (PySem.IsL.isList (N2 (D5, _) (.head _)).1) (PySem.IsL.isList (N2 (pa4, _) (.tail _ (.tail _ (.tail _ (.tail _ (.tail _ (.tail _ (List.mem_append_right _ hpa5)))))))).1) hv5 hvs4 ?uG ?_
          case uG => (show 4 + 3 < cLine); omega
          try dsimp only
          k_steps
          try (with_reducible refine hQ _ _ ?_); try dsimp only
          rename Fr _ _ _ _ => F2
          rename News _ _ _ _ => N2
          have X := j2_end hz0 hI0 rfl rfl (news_sub N2 (List.forall_mem_cons.mpr ⟨.tail _ (.tail _ (.tail _ (.tail _ (.tail _ (.tail _ (List.mem_append_right _ (List.mem_append_right _ (.head _)))))))), List.forall_mem_cons.mpr ⟨.tail _ (.tail _ (.head _)), fun p hp => .tail _ (.tail _ (.tail _ hp))⟩⟩)) I4 hd8 hm8 sc4 hs4 ro5 hap5 hP4
          exact hk _ _ ⟨ch4, d8, m8, td8, tm8, oth2 ++ oth, pa4, pi4, qs4, pp4⟩ _ F2 ⟨rfl, rfl, rfl, rfl, rfl, trivial⟩ X.1 X.2.1 X.2.2
      · intro z m h10 tk10 hz F11 N12
        clear F2 N2 hr9 hcm hflm I2 hd6 hm6 sc02 hs2 ro hPi hn hfy
        obtain ⟨ch3, d7, m7, td7, tm7, oth, pa, pj, qs, pp⟩ := z
        have I3 : Inv w ch3 qs pp _ := hz.inv
        have sc3 : SameCh ch0 ch3 := hz.same
        have hs3 : src ∉ ch3.as := hz.s
        have hflm3 : (fl, listOf (List.toArray ys) ys.length) ∈ oth := hz.fm
        have ro3 : ∀ p ∈ oth, p.1 ≠ src ∧ p.1 ∉ ch3.as := hz.off
        have hP3 : PilesIn oth pa pj qs pp := hz.piles
        have est : st = ch3.st := (sc3.st.trans st0).symm
        have hfe : ch3.first = ys := sc3.first.trans f0
        have hfl3 : (fl, listOf (List.toArray ch3.first) ys.length) ∈ oth := by rw [hfe]; exact hflm3
        have hfp3 : PgsAre ch3.first ps := by rw [hfe]; exact hps
        have hfl3l : ch3.first.length = ps.length := hfp3.len
        dsimp only [fm] at F11 N12 ⊢
        rw [est] at F11
        clear hz
        refine piles_pages hP3 fun vs3 n3 hpa3 hvs3 => ?_
        repeat' (first | ((fail_if_success (with_reducible show wpAny _ _ (call (Value.ref 242) _) _ _ _)); first | (k_unfold; (try dsimp only)) | walk1 | (dsimp only; walk1)))
        try (with_reducible refine hQ _ _ ?_); try dsimp only
        rename Fr _ _ _ _ => F2
        rename News _ _ _ _ => N2
        refine' laid_K S F2 N2 ?rH (fun p hp => .tail _ (.tail _ (.tail _ (.tail _ (List.mem_append_left _ hp))))) I3 (.tail _ (.tail _ (.tail _ (.tail _ (List.mem_append_right _ hfl3))))) (ro3 _ hfl3).2 (by omega) ?_
        case rH => (first | assumption | exact room_le hroom (by decide) | exact room_1 hroom (by decide) | exact room_0 hroom | ((try simp only [Around.deeper, Around.in1]); first | exact room_le hroom (by decide) | exact room_1 hroom (by decide) | exact room_0 hroom | omega))
        intro h11 D5 n5 tk11 vs5 F13 N13 hne5 hv5
        clear F2 N2
        dsimp only
        repeat' (first | ((fail_if_success (with_reducible show wpAny _ _ (compareOp _ (Value.ref _) (Value.ref _)) _ _ _)); first | (k_unfold; (try dsimp only)) | walk1 | (dsimp only; walk1)))
        try (with_reducible refine hQ _ _ ?_); try dsimp only
        rename Fr _ _ _ _ => F2
        rename News _ _ _ _ => N2
        refine' ne_pgs (PySem.IsL.isList (N2 (D5, _) (.head _)).1) (PySem.IsL.isList (N2 (pa, _) (.tail _ (.tail _ (.tail _ (.tail _ (.tail _ (List.mem_append_right _ hpa3))))))).1) hv5 hvs3 ?uH ?_
        case uH => (show 4 + 3 < cLine); omega
        have N14 : News s₁.heap s₁.heap.objs.size h11 ((ch3.st, instObj 91 ch3.sd) :: (ch3.sd, plD w.params (.ref ch3.sl) ch3.tp) :: (s₁.heap.objs.size + 1, oc) :: dl w.params ch3 src (srcO d7 m7 td7 tm7 0) oth) :=
          List.forall_mem_cons.mpr ⟨N2 _ (.tail _ (.tail _ (ne_dl _ (.tail _ (.tail _ (.tail _ (.head _))))))), List.forall_mem_cons.mpr ⟨N2 _ (.tail _ (.tail _ (ne_dl _ (.tail _ (.tail _ (.tail _ (.tail _ (.head _)))))))), fun p hp => N2 p (.tail _ hp)⟩⟩
        clear N2
        try dsimp only
        repeat' (first | ((fail_if_success (with_reducible show wpAny _ _ (compareOp _ (Value.ref _) (Value.ref _)) _ _ _)); first | (k_unfold; (try dsimp only)) | walk1 | (dsimp only; walk1)))
        try (with_reducible refine hQ _ _ ?_); try dsimp only
        rename Fr _ _ _ _ => F2
        rename News _ _ _ _ => N2
        have msl : (ch3.sl, listOf (List.toArray ch3.first) ch3.ln) ∈ ch3.l w.params := .tail _ (.tail _ (.tail _ (.tail _ (.tail _ (.head _)))))
        have msl2 := (N2 _ (.tail _ (.tail _ (.tail _ (.tail _ (.tail _ (.tail _ (List.mem_append_left _ msl)))))))).1
        have mfl2 := (N2 _ (.tail _ (.tail _ (.tail _ (.tail _ (.tail _ (.tail _ (List.mem_append_right _ hflm3)))))))).1
        refine' ne_pgs (PySem.IsL.isList msl2) (PySem.IsL.isList mfl2) hfp3 hps ?uI ?_
        case uI => (show 4 + 3 < cLine); omega
        try dsimp only
        repeat' (first | ((fail_if_success (with_reducible show wpAny _ _ (call (Value.ref 124) _) _ _ _)); first | (k_unfold; (try dsimp only)) | walk1 | (dsimp only; walk1)))
        try (with_reducible refine hQ _ _ ?_); try dsimp only
        rename Fr _ _ _ _ => F2
        rename News _ _ _ _ => N2
        have N15 : News s₁.heap s₁.heap.objs.size h11 (dl w.params ch3 src (srcO d7 m7 td7 tm7 0) oth) := news_sub N2 (fun p hp => .tail _ (.tail _ (.tail _ hp)))
        clear N2
        refine' end_K F2 N15 S ?rI hs3 (fun q hq => (ro3 q hq).2) I3.ok ?_
        case rI => (first | assumption | exact room_le hroom (by decide) | exact room_1 hroom (by decide) | exact room_0 hroom | ((try simp only [Around.deeper, Around.in1]); first | exact room_le hroom (by decide) | exact room_1 hroom (by decide) | exact room_0 hroom | omega))
        intro h12 ch4 tk12 F14 N16 ok4 sc4 hsp4 hs4 hr4
        clear F2 N15
        have ex4 : ch4.x = ch3.x := sc4.x
        rw [← ex4] at F14
        dsimp only
        repeat' (first | ((fail_if_success (with_reducible show wpAny _ _ (call (Value.builtin "len") _) _ _ _)); first | (k_unfold; (try dsimp only)) | walk1 | (dsimp only; walk1)))
        try (with_reducible refine hQ _ _ ?_); try dsimp only
        rename Fr _ _ _ _ => F2
        rename News _ _ _ _ => N2
        refine len_list (PySem.IsL.isList (N2 (fl, _) (.tail _ (.tail _ (.tail _ (List.mem_append_right _ hflm3))))).1) (by simp; omega) ?_
        dsimp only
        repeat' (first | ((fail_if_success (with_reducible show wpAny _ _ (call (Value.ref 117) _) _ _ _)); first | (k_unfold; (try dsimp only)) | walk1 | (dsimp only; walk1)))
        try (with_reducible refine hQ _ _ ?_); try dsimp only
        rename Fr _ _ _ _ => F2
        rename News _ _ _ _ => N2
        have hfp4 : PgsAre ch4.first ps := by rw [sc4.first]; exact hfp3
        refine' begin_K F2 N2 S ?rJ hs4 hr4 ok4 hfp4 (by omega) (by simp; omega) (k := 0) (by rw [hsp4]; rfl) (by omega) ?_
        case rJ => (first | assumption | exact room_le hroom (by decide) | exact room_1 hroom (by decide) | exact room_0 hroom | ((try simp only [Around.deeper, Around.in1]); first | exact room_le hroom (by decide) | exact room_1 hroom (by decide) | exact room_0 hroom | omega))
        intro h13 ch5 tk13 F15 N17 I5 sc5 hs5 hr5
        clear F2 N2
        have ex5 : ch5.x = ch4.x := sc5.x
        rw [← ex5] at F15
        have hsp5 := I5.n
        dsimp only
        repeat' (first | ((fail_if_success (with_reducible show wpAny _ _ (call (Value.ref 223) _) _ _ _)); first | (k_unfold; (try dsimp only)) | walk1 | (dsimp only; walk1)))
        try (with_reducible refine hQ _ _ ?_); try dsimp only
        rename Fr _ _ _ _ => F2
        rename News _ _ _ _ => N2
        refine' refused_L S ?rK ?uK rfl rfl F2 N2 (fun p hp => .tail _ (.tail _ (.tail _ (List.mem_append_left _ hp)))) (by rw [hsp5]; simp) (.inr (by rw [hsp5]; simp)) ?_
        case rK => exact room_le hroom (by decide)
        case uK => omega
        intro h14 tk14 F16 N18
        clear F2 N2
        dsimp only
        repeat' (first | ((fail_if_success (with_reducible show wpAny _ _ (call (Value.ref 235) _) _ _ _)); first | (k_unfold; (try dsimp only)) | walk1 | (dsimp only; walk1)))
        try (with_reducible refine hQ _ _ ?_); try dsimp only
        rename Fr _ _ _ _ => F2
        rename News _ _ _ _ => N2
        refine' lread_K S F2 N2 ?rL (fun p hp => .tail _ (.tail _ (.tail _ (List.mem_append_left _ hp)))) I5 ?_
        case rL => (first | assumption | exact room_le hroom (by decide) | exact room_1 hroom (by decide) | exact room_0 hroom | ((try simp only [Around.deeper, Around.in1]); first | exact room_le hroom (by decide) | exact room_1 hroom (by decide) | exact room_0 hroom | omega))
        intro h15 D6 n6 tk15 vs6 F17 N19 hne6 hv6
        clear F2 N2
        dsimp only
        repeat' (first | ((fail_if_success (with_reducible show wpAny _ _ (compareOp _ (Value.ref _) (Value.ref _)) _ _ _)); first | (k_unfold; (try dsimp only)) | walk1 | (dsimp only; walk1)))
        try (with_reducible refine hQ _ _ ?_); try dsimp only
        rename Fr _ _ _ _ => F2
        rename News _ _ _ _ => N2
        refine' eq_pgs (PySem.IsL.isList (N2 (D6, _) (.head _)).1) (PySem.IsL.isList (N2 (fl, _) (.tail _ (.tail _ (.tail _ (.tail _ (List.mem_append_right _ hflm3)))))).1) hv6 hps ?uM ?_
        case uM => (show 4 + 3 < cLine); omega
        try dsimp only
        k_steps
        refine hQ _ _ ?_
        try dsimp only
        k_steps)
end SQ3
end Mine
theorem PySem.Challenge.cw_nt0093_01_holds : PySem.Challenge.rw_nt0093_01.Holds :=
  Mine.law_try
