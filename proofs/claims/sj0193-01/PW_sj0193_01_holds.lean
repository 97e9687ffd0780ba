import PyProof.Rows.All
import Wide.All
import OpenK.AllK
import Wide.FinOn
import PySem.Challenge.RW_sj0193_01
open PySem PySem.W PyProof.Rows
set_option Elab.async false
set_option compiler.extract_closed false
namespace Mine
section
open PySem PySem.W PyProof.Rows PySem.Calls
noncomputable def topRunG (ok : Nat → Option Value → Thread → Bool) (st : SharedT → Thread → Option (SharedT × Thread)) (n₀ : Nat) (ann : Option Value) : Nat → SharedT → Thread → Option SharedT
  | 0, _, _ => none
  | n + 1, s, t => match through t with
    | true => some s
    | false => match ok n₀ ann t with
      | false => none
      | true => match st s t with
        | some (s', t') => topRunG ok st n₀ ann n s' t'
        | none => none
theorem topRun_of {tb : String → Option Builtin} {p : Program} {w : World} {n₀ : Nat} {ann : Option Value} : ∀ {n : Nat} {s s' : SharedT} {t : Thread}, topRunG stepOk (stepT (denote tb) p w) n₀ ann n s t = some s' → topRun tb p w n₀ ann n s.abs t = some s'.abs
  | 0, _, _, _, h => nomatch h
  | n + 1, s, s', t, h => by
    unfold topRunG at h
    unfold topRun
    cases e1 : through t with
    | true => rw [e1] at h; cases h; rfl
    | false =>
      rw [e1] at h
      dsimp only at h ⊢
      cases e2 : stepOk n₀ ann t with
      | false => rw [e2] at h; cases h
      | true =>
        rw [e2] at h
        dsimp only at h ⊢
        cases e3 : stepT (denote tb) p w s t with
        | none => rw [e3] at h; cases h
        | some r =>
          obtain ⟨s₂, t₂⟩ := r
          rw [e3] at h
          rw [stepT_spec e3]
          exact topRun_of h
noncomputable def grow (l : List Obj) : BT × Nat := l.foldl (fun a o => (a.1.ins a.2 o, a.2 + 1)) (.nil, 0)

theorem left_of {p q : Program} {loose : List Str} {Xt : Shared → Bool} {α : Type} {Yf : Shared → α} {Ya : World → α} {N : Nat} {g0 : Bool} {m₀ : Nat} {ann : Option Value} {B : Params → BT} {nb : Nat} {life : Life} {d₀ : Drawn} {k₀ : Nat}
    (open_ : ∀ w : World, (fencedOpening treeTable p w N).map (fun s => (s.heap, s.gens, s.drawn, s.toks)) = some (boot_heap w.params, Array.mk [], d₀, k₀))
    (abs : ∀ w : World, absHeap (B w.params) nb life = boot_heap w.params)
    (size : ∀ w : World, ((boot_heap w.params).isNs mainGlobals, (boot_heap w.params).objs.size, (boot_heap w.params).nsMap mainGlobals "__annotations__") = (true, m₀, ann))
    (run : ∀ (w : World) (os : OsState), (topRunG Fast.tw6613529449190102663 (Fast.tw10156331382660048174 (Fast.tw11892475500146522536 Fast.tw14364793385576792824) p w) m₀ ann N ⟨B w.params, nb, life, Array.mk [], d₀, k₀, os⟩ (topStub p)).map (fun s => ((staticsOk (importedModules p.main.body) (boot_heap w.params) s.abs.heap && namesBound p s.abs.heap && gensDone s.abs && laidKept (boot_heap w.params) s.abs.heap), Fast.tw4187177175401517315 q loose (importedModules p.main.body) Xt g0 s.abs, Yf s.abs)) = some (true, openGood q loose, Ya w)) :
    LeftO p q loose Xt Yf Ya N g0 := fun w => by
  rw [← Fast.te6613529449190102663, ← Fast.te10156331382660048174, ← Fast.te11892475500146522536, ← Fast.te14364793385576792824, ← Fast.te4187177175401517315] at run
  obtain ⟨⟨h, gs, d, k, os⟩, e, e'⟩ := Option.map_eq_some_iff.mp (open_ w)
  obtain ⟨rfl, rfl, rfl, rfl⟩ : h = boot_heap w.params ∧ gs = Array.mk [] ∧ d = d₀ ∧ k = k₀ := by simpa using e'
  obtain ⟨z1, z2, z3⟩ : _ ∧ _ ∧ _ := by simpa only [Prod.mk.injEq] using size w
  obtain ⟨sT, r, l⟩ := Option.map_eq_some_iff.mp (run w os)
  obtain ⟨l1, l2, l3⟩ : _ ∧ _ ∧ _ := by simpa only [Prod.mk.injEq] using l
  have r := topRun_of r
  unfold SharedT.abs at r
  rw [abs w] at r
  have t : topFrom treeTable p w N ⟨boot_heap w.params, Array.mk [], d, k, os⟩ = some sT.abs := by
    unfold topFrom
    dsimp only
    rw [z1, z2, z3]
    show ((topRun treeTable p w m₀ ann N _ (topStub p)).bind _) = _
    rw [r]
    show (match staticsOk (importedModules p.main.body) (boot_heap w.params) sT.abs.heap && namesBound p sT.abs.heap && gensDone sT.abs && laidKept (boot_heap w.params) sT.abs.heap with | true => _ | false => _) = _
    rw [l1]
    rfl
  unfold openEnds
  rw [e]
  show (topFrom treeTable p w N _).map _ = _
  rw [t]
  exact congrArg some (Prod.ext l2 l3)
noncomputable abbrev bootT (P : Params) : BT := (grow (boot_heap P).objs.toList).1

set_option maxRecDepth 100000 in
set_option maxHeartbeats 0 in
theorem bo : ∀ w : World, (fencedOpening treeTable PySem.Challenge.pw_sj0193_01 w 6794).map (fun s => (s.heap, s.gens, s.drawn, s.toks)) = some (boot_heap w.params, Array.mk [], boot_drawn, boot_toks) :=
  boot_open (by kernel_rfl) (by kernel_rfl) (fun s => by kernel_rfl)

set_option maxRecDepth 100000 in
set_option maxHeartbeats 0 in
theorem bs : ∀ w : World, ((boot_heap w.params).isNs mainGlobals, (boot_heap w.params).objs.size, (boot_heap w.params).nsMap mainGlobals "__annotations__") = (true, 11, some (.ref 6)) := fun w => by kernel_rfl
set_option maxRecDepth 100000 in
set_option maxHeartbeats 0 in
theorem ba : ∀ w : World, absHeap (bootT w.params) 11 {} = boot_heap w.params := fun w => by kernel_rfl

noncomputable def lawView : Program := PySem.W.view PySem.Challenge.pw_sj0193_01 [1, 2, 3, 4, 5, 6, 7, 8, 9, 10, 11, 12, 13, 15, 16, 17, 18, 19, 20, 21, 22, 23, 24, 25, 26, 27, 28, 29, 31, 32, 34, 35, 36, 37, 38, 39, 41, 42, 43, 44, 45]
set_option maxRecDepth 100000 in
set_option maxHeartbeats 0 in
theorem said_ok : OpenLaw.wellSaid PySem.Challenge.rw_sj0193_01 = true := by kernel_rfl
local macro_rules | `(tactic| o_law) => `(tactic| refine holds_law said_ok fun said => ?_)
local macro_rules | `(tactic| k_head) => `(tactic| x_head)
theorem o_mine (H : Hook) {d : DefRec} {kwd : List (Str × Expr)} (k1 : (OpenLaw.row PySem.Challenge.rw_sj0193_01).wellSaid = true) (hdef : defOf lawView (OpenLaw.row PySem.Challenge.rw_sj0193_01).name = some (d, kwd)) (hp : (OpenLaw.row PySem.Challenge.rw_sj0193_01).prog.theDef (OpenLaw.row PySem.Challenge.rw_sj0193_01).name = some (d.params, d.body, d.scope)) (hk : kwWritten? d.params.kwonlyargs d.params.kw_defaults = some kwd)
    (hl : LeftO (OpenLaw.row PySem.Challenge.rw_sj0193_01).prog lawView [Str.ofString "SnobolError"] (fun s => xlAt lawView [] s && recOk (RowW.records (OpenRow.toRowW (OpenLaw.row PySem.Challenge.rw_sj0193_01))) s) H.obs H.val 6794) (hw : (OpenLaw.row PySem.Challenge.rw_sj0193_01).toRowW.promised)
    (hc : WalkO lawView [Str.ofString "SnobolError"] (XL lawView []) H.says (OpenLaw.row PySem.Challenge.rw_sj0193_01).toRowW d kwd fun f vs => PySem.call f vs) : (OpenLaw.row PySem.Challenge.rw_sj0193_01).Holds :=
  holds_open (N := 6794) hl H.of H.keeps (fun s e => xl_of s (Bool.and_eq_true_iff.mp e).1) XL.keeps hdef hp hk (fun s e => recFacts_of (Bool.and_eq_true_iff.mp e).2) (by rfl) k1 (by decide +kernel) ⟨rfl, rfl, rfl, rfl, rfl, by decide +kernel⟩ hw hc
local macro_rules | `(tactic| o_head $H) => `(tactic| (refine o_mine $H (by first | assumption | decide +kernel) (by rfl) (by rfl) (by rfl) (left_of bo ba bs (fun w os => by kernel_rfl)) ?hw ?hc))
set_option maxRecDepth 100000 in
set_option maxHeartbeats 0 in
open_top hd for PySem.Challenge.rw_sj0193_01
end
section
noncomputable abbrev PW : Program := PySem.Challenge.rw_sj0193_01.row.prog
noncomputable abbrev Loose : List Str := looseW lawView [Str.ofString "SnobolError"]
theorem kfill : PySem.Challenge.rw_sj0193_01 = PySem.Challenge.rw_sj0193_01 ∧ hd.heap_1 = hd.heap_1 := by
  k_fill
  exact ⟨rfl, rfl⟩
end
section
noncomputable abbrev tup (vs : List Value) (n : Nat) : Obj := { cls := .type "tuple", data := .seq vs.toArray n }
noncomputable def Tell (w : World) (f : Addr) (args : List Value) (tp ro : List (Addr × Obj)) (Post : Heap → Value → Heap → Prop) : Prop :=
  ∀ (mean : ExcName → Option Value) (mg mb : Str → Option Value) (gd : Option (List Code)) (cn : Str) (cs : Scope) (a : Addr) (ccd : Value) (cl : List (Str × Addr)) (outer : List Env) (A₀ : Around) (base h₀ : Heap) (L : Addr) (m : Str → Option Value) (s : Shared) (Q E : Value → Shared → Prop),
    Below A₀ base outer h₀ → Fr h₀ L s.heap m → (hd.heap_1 w.params).In h₀ → Top lawView Loose mean mg mb h₀ → cs.kind = .function → News h₀ L s.heap (tp ++ ro) →
    (∀ r h' tk', Fr h₀ L h' m → GSub s.heap h' (tp.map (·.1)) → Post s.heap r h' → Q r { s with heap := h', toks := tk' }) →
    wpAny (model PW w) (ktrTop 560 360 gd cn cs L a ccd cl outer) (PySem.call (.ref f) args) Q E s
theorem wpAny_room {α : Type} {M : Model} {dp un dp' un' : Nat} {gd : Option (List Code)} {cn : Str} {cs : Scope} {L a : Addr} {ccd : Value} {cl : List (Str × Addr)} {outer : List Env} {t : Sem α} {Q : α → Shared → Prop} {E : Value → Shared → Prop} {s : Shared} (h1 : dp' ≤ dp) (h2 : un' ≤ un)
    (h : wpAny M (ktrTop dp un gd cn cs L a ccd cl outer) t Q E s) : wpAny M (ktrTop dp' un' gd cn cs L a ccd cl outer) t Q E s :=
  fun Γ p hΓ => h Γ p ⟨hΓ.1, Nat.le_trans hΓ.2.1 h1, hΓ.2.2.1, hΓ.2.2.2.1, Nat.le_trans hΓ.2.2.2.2 h2⟩
theorem Tell.use {w : World} {f : Addr} {args : List Value} {tp ro : List (Addr × Obj)} {Post : Heap → Value → Heap → Prop} (t : Tell w f args tp ro Post)
    {dp un : Nat} {mean : ExcName → Option Value} {mg mb : Str → Option Value} {gd : Option (List Code)} {cn : Str} {cs : Scope} {a : Addr} {ccd : Value} {cl : List (Str × Addr)} {outer : List Env} {A₀ : Around} {base h₀ : Heap} {L : Addr} {m : Str → Option Value} {s : Shared} {Q E : Value → Shared → Prop}
    (h1 : dp ≤ 560) (h2 : un ≤ 360) (B : Below A₀ base outer h₀) (F : Fr h₀ L s.heap m) (X : (hd.heap_1 w.params).In h₀) (T : Top lawView Loose mean mg mb h₀) (hk : cs.kind = .function) (N : News h₀ L s.heap (tp ++ ro))
    (h : ∀ r h' tk', Fr h₀ L h' m → GSub s.heap h' (tp.map (·.1)) → Post s.heap r h' → Q r { s with heap := h', toks := tk' }) :
    wpAny (model PW w) (ktrTop dp un gd cn cs L a ccd cl outer) (PySem.call (.ref f) args) Q E s :=
  wpAny_room h1 h2 (t _ _ _ _ _ _ _ _ _ _ _ _ _ _ _ _ _ _ B F X T hk N h)
noncomputable def Hold (P : Prop) : Prop := P
theorem Hold.out {P : Prop} (h : Hold P) : P := h
theorem Hold.in {P : Prop} (h : P) : Hold P := h
theorem Tell.wide {w : World} {f : Addr} {args : List Value} {tp ro ro' : List (Addr × Obj)} {Post : Heap → Value → Heap → Prop} (t : Tell w f args tp ro Post) (hs : ∀ p ∈ ro, p ∈ ro') : Tell w f args tp ro' Post :=
  fun mean mg mb gd cn cs a ccd cl outer A₀ base h₀ L m s Q E B F X T hk N h => t mean mg mb gd cn cs a ccd cl outer A₀ base h₀ L m s Q E B F X T hk (fun p hp => (List.mem_append.mp hp).elim (fun h1 => N p (List.mem_append_left _ h1)) (fun h1 => N p (List.mem_append_right _ (hs p h1)))) h
noncomputable def Fresh (h h' : Heap) (a : Addr) (o : Obj) : Prop := h.get? a = none ∧ h'.get? a = some o
theorem kept_of {h g h' : Heap} {L : Addr} {m : Str → Option Value} {adr tch : List Addr} {news : List (Addr × Obj)} {pre : List (Addr × Obj)} (k : GSub h g adr) (F : Fr g L h' m) (N : News g L h' news)
    (hp : ∀ p ∈ pre, h.get? p.1 = some p.2) (ha : ∀ b ∈ adr, b ∈ tch ∨ ∃ o, (b, o) ∈ pre ∧ (b, o) ∈ news) : GSub h h' tch := fun b o e n => by
  by_cases hb : b ∈ adr
  · rcases ha b hb with h1 | ⟨o', h1, h2⟩
    · exact absurd h1 n
    · have e1 := hp _ h1
      have e2 := (N _ h2).1
      simp only at e1 e2
      rw [e] at e1
      rw [e2, ← e1]
  · exact F.keep b o (k b o e hb)
theorem fresh_of {h g h' : Heap} {L a : Addr} {o : Obj} {adr : List Addr} {news : List (Addr × Obj)} (k : GSub h g adr) (N : News g L h' news) (hm : (a, o) ∈ news) (hn : a ∉ adr) : Fresh h h' a o := by
  have e1 : h.get? a = none := by
    cases e : h.get? a with
    | none => rfl
    | some x =>
      have q := k a x e hn
      rw [(N _ hm).2.2] at q
      cases q
  exact ⟨e1, (N _ hm).1⟩
theorem kept_ro {h₀ h g h' : Heap} {L L' : Addr} {m : Str → Option Value} {tp ro news : List (Addr × Obj)} (k : GSub h g ((tp ++ ro).map (·.1))) (F : Fr g L' h' m) (N : News g L' h' news) (N0 : News h₀ L h (tp ++ ro)) (hs : ∀ p ∈ ro, p ∈ news) : GSub h h' (tp.map (·.1)) :=
  kept_of k F N (fun p hp => (N0 p hp).1) fun b hb => by
    obtain ⟨p, hp, rfl⟩ := List.mem_map.mp hb
    rcases List.mem_append.mp hp with h1 | h1
    · exact .inl (List.mem_map_of_mem h1)
    · exact .inr ⟨p.2, List.mem_append_right _ h1, hs _ h1⟩
theorem Tell.intro {w : World} {f : Addr} {args : List Value} {tp ro : List (Addr × Obj)} {Post : Heap → Value → Heap → Prop}
    (H : ∀ (mean : ExcName → Option Value) (mg mb : Str → Option Value) (gd : Option (List Code)) (cn : Str) (cs : Scope) (a : Addr) (ccd : Value) (cl : List (Str × Addr)) (outer : List Env) (A₀ : Around) (base h₀ : Heap) (L : Addr) (m : Str → Option Value) (s : Shared) (Q E : Value → Shared → Prop),
    Below A₀ base outer h₀ → Fr h₀ L s.heap m → (hd.heap_1 w.params).In h₀ → Top lawView Loose mean mg mb h₀ → cs.kind = .function → News h₀ L s.heap (tp ++ ro) →
    (∀ r h' tk' g L' m' news, Fr h₀ L h' m → GSub s.heap g ((tp ++ ro).map (·.1)) → Fr g L' h' m' → News g L' h' news → (∀ p ∈ ro, p ∈ news) → Post s.heap r h' → Q r { s with heap := h', toks := tk' }) →
    wpAny (model PW w) (ktrTop 560 360 gd cn cs L a ccd cl outer) (PySem.call (.ref f) args) Q E s) : Tell w f args tp ro Post :=
  fun mean mg mb gd cn cs a ccd cl outer A₀ base h₀ L m s Q E B F X T hk N hret =>
    H mean mg mb gd cn cs a ccd cl outer A₀ base h₀ L m s Q E B F X T hk N fun r h' tk' _ _ _ _ F' k FG N' hs hP => hret r h' tk' F' (kept_ro k FG N' N hs) hP
noncomputable def TellU (w : World) (f : Addr) (args : List Value) (tp ro : List (Addr × Obj)) (Post : Heap → Value → Heap → Prop) : Prop :=
  ∀ (mean : ExcName → Option Value) (mg mb : Str → Option Value) (gd : Option (List Code)) (cn : Str) (cs : Scope) (a : Addr) (ccd : Value) (cl : List (Str × Addr)) (outer : List Env) (A₀ : Around) (base h₀ : Heap) (L : Addr) (m : Str → Option Value) (s : Shared) (Q E : Value → Shared → Prop),
    Below A₀ base outer h₀ → Fr h₀ L s.heap m → (hd.heap_1 w.params).In h₀ → Top lawView Loose mean mg mb h₀ → cs.kind = .function → News h₀ L s.heap (tp ++ ro) →
    (∀ r h' tk', Fr h₀ L h' m → GSub s.heap h' (tp.map (·.1)) → Post s.heap r h' → Q r { s with heap := h', toks := tk' }) →
    wpAny (model PW w) (ktrTop 500 300 gd cn cs L a ccd cl outer) (PySem.call (.ref f) args) Q E s
theorem TellU.use {w : World} {f : Addr} {args : List Value} {tp ro : List (Addr × Obj)} {Post : Heap → Value → Heap → Prop} (t : TellU w f args tp ro Post)
    {dp un : Nat} {mean : ExcName → Option Value} {mg mb : Str → Option Value} {gd : Option (List Code)} {cn : Str} {cs : Scope} {a : Addr} {ccd : Value} {cl : List (Str × Addr)} {outer : List Env} {A₀ : Around} {base h₀ : Heap} {L : Addr} {m : Str → Option Value} {s : Shared} {Q E : Value → Shared → Prop}
    (h1 : dp ≤ 500) (h2 : un ≤ 300) (B : Below A₀ base outer h₀) (F : Fr h₀ L s.heap m) (X : (hd.heap_1 w.params).In h₀) (T : Top lawView Loose mean mg mb h₀) (hk : cs.kind = .function) (N : News h₀ L s.heap (tp ++ ro))
    (h : ∀ r h' tk', Fr h₀ L h' m → GSub s.heap h' (tp.map (·.1)) → Post s.heap r h' → Q r { s with heap := h', toks := tk' }) :
    wpAny (model PW w) (ktrTop dp un gd cn cs L a ccd cl outer) (PySem.call (.ref f) args) Q E s :=
  wpAny_room h1 h2 (t _ _ _ _ _ _ _ _ _ _ _ _ _ _ _ _ _ _ B F X T hk N h)
theorem TellU.wide {w : World} {f : Addr} {args : List Value} {tp ro ro' : List (Addr × Obj)} {Post : Heap → Value → Heap → Prop} (t : TellU w f args tp ro Post) (hs : ∀ p ∈ ro, p ∈ ro') : TellU w f args tp ro' Post :=
  fun mean mg mb gd cn cs a ccd cl outer A₀ base h₀ L m s Q E B F X T hk N h => t mean mg mb gd cn cs a ccd cl outer A₀ base h₀ L m s Q E B F X T hk (fun p hp => (List.mem_append.mp hp).elim (fun h1 => N p (List.mem_append_left _ h1)) (fun h1 => N p (List.mem_append_right _ (hs p h1)))) h
theorem TellU.intro {w : World} {f : Addr} {args : List Value} {tp ro : List (Addr × Obj)} {Post : Heap → Value → Heap → Prop}
    (H : ∀ (mean : ExcName → Option Value) (mg mb : Str → Option Value) (gd : Option (List Code)) (cn : Str) (cs : Scope) (a : Addr) (ccd : Value) (cl : List (Str × Addr)) (outer : List Env) (A₀ : Around) (base h₀ : Heap) (L : Addr) (m : Str → Option Value) (s : Shared) (Q E : Value → Shared → Prop),
    Below A₀ base outer h₀ → Fr h₀ L s.heap m → (hd.heap_1 w.params).In h₀ → Top lawView Loose mean mg mb h₀ → cs.kind = .function → News h₀ L s.heap (tp ++ ro) →
    (∀ r h' tk' g L' m' news, Fr h₀ L h' m → GSub s.heap g ((tp ++ ro).map (·.1)) → Fr g L' h' m' → News g L' h' news → (∀ p ∈ ro, p ∈ news) → Post s.heap r h' → Q r { s with heap := h', toks := tk' }) →
    wpAny (model PW w) (ktrTop 500 300 gd cn cs L a ccd cl outer) (PySem.call (.ref f) args) Q E s) : TellU w f args tp ro Post :=
  fun mean mg mb gd cn cs a ccd cl outer A₀ base h₀ L m s Q E B F X T hk N hret =>
    H mean mg mb gd cn cs a ccd cl outer A₀ base h₀ L m s Q E B F X T hk N fun r h' tk' _ _ _ _ F' k FG N' hs hP => hret r h' tk' F' (kept_ro k FG N' N hs) hP
noncomputable def TellD (w : World) (f : Addr) (args : List Value) (tp ro : List (Addr × Obj)) (Post : Heap → Value → Heap → Prop) : Prop :=
  ∀ (mean : ExcName → Option Value) (mg mb : Str → Option Value) (gd : Option (List Code)) (cn : Str) (cs : Scope) (a : Addr) (ccd : Value) (cl : List (Str × Addr)) (outer : List Env) (A₀ : Around) (base h₀ : Heap) (L : Addr) (m : Str → Option Value) (s : Shared) (Q E : Value → Shared → Prop),
    Below A₀ base outer h₀ → Fr h₀ L s.heap m → (hd.heap_1 w.params).In h₀ → Top lawView Loose mean mg mb h₀ → cs.kind = .function → News h₀ L s.heap (tp ++ ro) →
    (∀ r h' tk', Fr h₀ L h' m → GSub s.heap h' (tp.map (·.1)) → Post s.heap r h' → Q r { s with heap := h', toks := tk' }) →
    wpAny (model PW w) (ktrTop 590 400 gd cn cs L a ccd cl outer) (PySem.call (.ref f) args) Q E s
theorem TellD.use {w : World} {f : Addr} {args : List Value} {tp ro : List (Addr × Obj)} {Post : Heap → Value → Heap → Prop} (t : TellD w f args tp ro Post)
    {dp un : Nat} {mean : ExcName → Option Value} {mg mb : Str → Option Value} {gd : Option (List Code)} {cn : Str} {cs : Scope} {a : Addr} {ccd : Value} {cl : List (Str × Addr)} {outer : List Env} {A₀ : Around} {base h₀ : Heap} {L : Addr} {m : Str → Option Value} {s : Shared} {Q E : Value → Shared → Prop}
    (h1 : dp ≤ 590) (h2 : un ≤ 400) (B : Below A₀ base outer h₀) (F : Fr h₀ L s.heap m) (X : (hd.heap_1 w.params).In h₀) (T : Top lawView Loose mean mg mb h₀) (hk : cs.kind = .function) (N : News h₀ L s.heap (tp ++ ro))
    (h : ∀ r h' tk', Fr h₀ L h' m → GSub s.heap h' (tp.map (·.1)) → Post s.heap r h' → Q r { s with heap := h', toks := tk' }) :
    wpAny (model PW w) (ktrTop dp un gd cn cs L a ccd cl outer) (PySem.call (.ref f) args) Q E s :=
  wpAny_room h1 h2 (t _ _ _ _ _ _ _ _ _ _ _ _ _ _ _ _ _ _ B F X T hk N h)
theorem TellD.wide {w : World} {f : Addr} {args : List Value} {tp ro ro' : List (Addr × Obj)} {Post : Heap → Value → Heap → Prop} (t : TellD w f args tp ro Post) (hs : ∀ p ∈ ro, p ∈ ro') : TellD w f args tp ro' Post :=
  fun mean mg mb gd cn cs a ccd cl outer A₀ base h₀ L m s Q E B F X T hk N h => t mean mg mb gd cn cs a ccd cl outer A₀ base h₀ L m s Q E B F X T hk (fun p hp => (List.mem_append.mp hp).elim (fun h1 => N p (List.mem_append_left _ h1)) (fun h1 => N p (List.mem_append_right _ (hs p h1)))) h
theorem TellD.intro {w : World} {f : Addr} {args : List Value} {tp ro : List (Addr × Obj)} {Post : Heap → Value → Heap → Prop}
    (H : ∀ (mean : ExcName → Option Value) (mg mb : Str → Option Value) (gd : Option (List Code)) (cn : Str) (cs : Scope) (a : Addr) (ccd : Value) (cl : List (Str × Addr)) (outer : List Env) (A₀ : Around) (base h₀ : Heap) (L : Addr) (m : Str → Option Value) (s : Shared) (Q E : Value → Shared → Prop),
    Below A₀ base outer h₀ → Fr h₀ L s.heap m → (hd.heap_1 w.params).In h₀ → Top lawView Loose mean mg mb h₀ → cs.kind = .function → News h₀ L s.heap (tp ++ ro) →
    (∀ r h' tk' g L' m' news, Fr h₀ L h' m → GSub s.heap g ((tp ++ ro).map (·.1)) → Fr g L' h' m' → News g L' h' news → (∀ p ∈ ro, p ∈ news) → Post s.heap r h' → Q r { s with heap := h', toks := tk' }) →
    wpAny (model PW w) (ktrTop 590 400 gd cn cs L a ccd cl outer) (PySem.call (.ref f) args) Q E s) : TellD w f args tp ro Post :=
  fun mean mg mb gd cn cs a ccd cl outer A₀ base h₀ L m s Q E B F X T hk N hret =>
    H mean mg mb gd cn cs a ccd cl outer A₀ base h₀ L m s Q E B F X T hk N fun r h' tk' _ _ _ _ F' k FG N' hs hP => hret r h' tk' F' (kept_ro k FG N' N hs) hP
theorem Tell.post {w : World} {f : Addr} {args : List Value} {tp ro : List (Addr × Obj)} {P P' : Heap → Value → Heap → Prop} (t : Tell w f args tp ro P) (h : ∀ a r b, P a r b → P' a r b) : Tell w f args tp ro P' :=
  fun mean mg mb gd cn cs a ccd cl outer A₀ base h₀ L m s Q E B F X T hk N k => t mean mg mb gd cn cs a ccd cl outer A₀ base h₀ L m s Q E B F X T hk N fun r h' tk' F' G' p => k r h' tk' F' G' (h _ _ _ p)
theorem TellU.post {w : World} {f : Addr} {args : List Value} {tp ro : List (Addr × Obj)} {P P' : Heap → Value → Heap → Prop} (t : TellU w f args tp ro P) (h : ∀ a r b, P a r b → P' a r b) : TellU w f args tp ro P' :=
  fun mean mg mb gd cn cs a ccd cl outer A₀ base h₀ L m s Q E B F X T hk N k => t mean mg mb gd cn cs a ccd cl outer A₀ base h₀ L m s Q E B F X T hk N fun r h' tk' F' G' p => k r h' tk' F' G' (h _ _ _ p)
section
variable {α : Type} {a b p : α} {l l1 l2 L M : List α}
theorem sb_nil : ∀ p ∈ ([] : List α), p ∈ L := fun _ h => nomatch h
theorem sb_cons (h : a ∈ L) (r : ∀ p ∈ l, p ∈ L) : ∀ p ∈ a :: l, p ∈ L := fun p hp => (List.mem_cons.mp hp).elim (fun e => e ▸ h) (r p)
theorem sb_app (h : ∀ p ∈ l1, p ∈ L) (r : ∀ p ∈ l2, p ∈ L) : ∀ p ∈ l1 ++ l2, p ∈ L := fun p hp => (List.mem_append.mp hp).elim (h p) (r p)
theorem sb_refl : ∀ p ∈ l, p ∈ l := fun _ h => h
theorem sb_skip (h : ∀ p ∈ l, p ∈ L) : ∀ p ∈ l, p ∈ b :: L := fun p hp => List.mem_cons_of_mem _ (h p hp)
theorem sb_left (h : ∀ p ∈ l, p ∈ L) : ∀ p ∈ l, p ∈ L ++ M := fun p hp => List.mem_append_left _ (h p hp)
theorem sb_right (h : ∀ p ∈ l, p ∈ M) : ∀ p ∈ l, p ∈ L ++ M := fun p hp => List.mem_append_right _ (h p hp)
theorem sb_use (hp : p ∈ l) (s : ∀ q ∈ l, q ∈ L) : p ∈ L := s p hp
end
end
section
noncomputable def tkA : List Tok → Nat → Tok
  | [], _ => 0
  | a :: _, 0 => a
  | _ :: r, n + 1 => tkA r n
noncomputable def vlA : List Value → Nat → Value
  | [], _ => .none
  | a :: _, 0 => a
  | _ :: r, n + 1 => vlA r n
section
variable (w : World)
noncomputable def nmL (kind : Str) (x : Addr) (j : Int) (t : Nat → Tok) : List DictEntry := [⟨PyData.keyHash w.params "kind", .str "kind" (t 0), .str kind (t 1)⟩, ⟨PyData.keyHash w.params "owner", .str "owner" (t 2), .ref x⟩, ⟨PyData.keyHash w.params "key", .str "key" (t 3), .int j (t 4)⟩]
noncomputable def nmO (kind : Str) (x : Addr) (j : Int) (t : Nat → Tok) (e : Nat) : Obj := dictOf (nmL w kind x j t) e
noncomputable def IsName (kind : Str) (x : Addr) (j : Int) (o : Obj) : Prop := ∃ t e, o = nmO w kind x j t e
noncomputable def arL (num : Int) (bl b : Addr) (t : Nat → Tok) : List DictEntry := [⟨PyData.keyHash w.params "word", .str "word" (t 0), .str "ARRAY" (t 1)⟩, ⟨PyData.keyHash w.params "number", .str "number" (t 2), .int num (t 3)⟩, ⟨PyData.keyHash w.params "mark", .str "mark" (t 4), .int 0 (t 5)⟩, ⟨PyData.keyHash w.params "told", .str "told" (t 6), .str "3" (t 7)⟩, ⟨PyData.keyHash w.params "bounds", .str "bounds" (t 8), .ref bl⟩, ⟨PyData.keyHash w.params "items", .str "items" (t 9), .ref b⟩]
noncomputable def arO (num : Int) (bl b : Addr) (t : Nat → Tok) (e : Nat) : Obj := dictOf (arL w num bl b t) e
noncomputable def IsArr (num : Int) (bl b : Addr) (o : Obj) : Prop := ∃ t e, o = arO w num bl b t e
noncomputable def tbL (num : Int) (ed pd b : Addr) (t : Nat → Tok) : List DictEntry := [⟨PyData.keyHash w.params "word", .str "word" (t 0), .str "TABLE" (t 1)⟩, ⟨PyData.keyHash w.params "number", .str "number" (t 2), .int num (t 3)⟩, ⟨PyData.keyHash w.params "mark", .str "mark" (t 4), .int 0 (t 5)⟩, ⟨PyData.keyHash w.params "entries", .str "entries" (t 6), .ref ed⟩, ⟨PyData.keyHash w.params "places", .str "places" (t 7), .ref pd⟩, ⟨PyData.keyHash w.params "rows", .str "rows" (t 8), .ref b⟩]
noncomputable def tbO (num : Int) (ed pd b : Addr) (t : Nat → Tok) (e : Nat) : Obj := dictOf (tbL w num ed pd b t) e
noncomputable def IsTab (num : Int) (ed pd b : Addr) (o : Obj) : Prop := ∃ t e, o = tbO w num ed pd b t e
noncomputable def daL (num : Int) (fl b : Addr) (t : Nat → Tok) : List DictEntry := [⟨PyData.keyHash w.params "word", .str "word" (t 0), .str "CELL" (t 1)⟩, ⟨PyData.keyHash w.params "number", .str "number" (t 2), .int num (t 3)⟩, ⟨PyData.keyHash w.params "mark", .str "mark" (t 4), .int 0 (t 5)⟩, ⟨PyData.keyHash w.params "fields", .str "fields" (t 6), .ref fl⟩, ⟨PyData.keyHash w.params "values", .str "values" (t 7), .ref b⟩]
noncomputable def daO (num : Int) (fl b : Addr) (t : Nat → Tok) (e : Nat) : Obj := dictOf (daL w num fl b t) e
noncomputable def IsDat (num : Int) (fl b : Addr) (o : Obj) : Prop := ∃ t e, o = daO w num fl b t e
noncomputable def wdL (t : Nat → Tok) (v : Nat → Value) (n : Int) (tn : Tok) (hl : Addr) : List DictEntry := [⟨PyData.keyHash w.params "width", .str "width" (t 0), .int 32 (t 26)⟩, ⟨PyData.keyHash w.params "most_steps", .str "most_steps" (t 1), (v 1)⟩, ⟨PyData.keyHash w.params "most_depth", .str "most_depth" (t 2), (v 2)⟩, ⟨PyData.keyHash w.params "most_length", .str "most_length" (t 3), (v 3)⟩, ⟨PyData.keyHash w.params "most_items", .str "most_items" (t 4), .int 20000 (t 27)⟩, ⟨PyData.keyHash w.params "store", .str "store" (t 5), (v 5)⟩, ⟨PyData.keyHash w.params "functions", .str "functions" (t 6), (v 6)⟩, ⟨PyData.keyHash w.params "labels", .str "labels" (t 7), (v 7)⟩, ⟨PyData.keyHash w.params "keywords", .str "keywords" (t 8), (v 8)⟩, ⟨PyData.keyHash w.params "opsyns", .str "opsyns" (t 9), (v 9)⟩, ⟨PyData.keyHash w.params "inputs", .str "inputs" (t 10), (v 10)⟩, ⟨PyData.keyHash w.params "outputs", .str "outputs" (t 11), (v 11)⟩, ⟨PyData.keyHash w.params "traces", .str "traces" (t 12), (v 12)⟩, ⟨PyData.keyHash w.params "read_names", .str "read_names" (t 13), (v 13)⟩, ⟨PyData.keyHash w.params "write_names", .str "write_names" (t 14), (v 14)⟩, ⟨PyData.keyHash w.params "traced", .str "traced" (t 15), (v 15)⟩, ⟨PyData.keyHash w.params "steps", .str "steps" (t 16), (v 16)⟩, ⟨PyData.keyHash w.params "depth", .str "depth" (t 17), (v 17)⟩, ⟨PyData.keyHash w.params "nested", .str "nested" (t 18), (v 18)⟩, ⟨PyData.keyHash w.params "aside", .str "aside" (t 19), (v 19)⟩, ⟨PyData.keyHash w.params "made", .str "made" (t 20), .int n tn⟩, ⟨PyData.keyHash w.params "holders", .str "holders" (t 21), .ref hl⟩, ⟨PyData.keyHash w.params "evaluate", .str "evaluate" (t 22), (v 22)⟩, ⟨PyData.keyHash w.params "make_code", .str "make_code" (t 23), (v 23)⟩, ⟨PyData.keyHash w.params "matcher", .str "matcher" (t 24), (v 24)⟩, ⟨PyData.keyHash w.params "kept_names", .str "kept_names" (t 25), (v 25)⟩]
noncomputable def wdO (t : Nat → Tok) (v : Nat → Value) (n : Int) (tn : Tok) (hl : Addr) : Obj := dictOf (wdL w t v n tn hl) 26
noncomputable def IsWd (n : Int) (hl : Addr) (o : Obj) : Prop := ∃ t v tn, o = wdO w t v n tn hl
noncomputable def IsLst (vs : List Value) (o : Obj) : Prop := ∃ e, o = listOf vs.toArray e
noncomputable def IsTp (vs : List Value) (o : Obj) : Prop := ∃ e, o = tup vs e
end
section
variable {w : World}
@[simp] theorem nmO_cls {kind : Str} {x : Addr} {j : Int} {t : Nat → Tok} {e : Nat} : (nmO w kind x j t e).cls = .type "dict" := rfl
@[simp] theorem arO_cls {num : Int} {bl b : Addr} {t : Nat → Tok} {e : Nat} : (arO w num bl b t e).cls = .type "dict" := rfl
@[simp] theorem tbO_cls {num : Int} {ed pd b : Addr} {t : Nat → Tok} {e : Nat} : (tbO w num ed pd b t e).cls = .type "dict" := rfl
@[simp] theorem daO_cls {num : Int} {fl b : Addr} {t : Nat → Tok} {e : Nat} : (daO w num fl b t e).cls = .type "dict" := rfl
@[simp] theorem wdO_cls {t : Nat → Tok} {v : Nat → Value} {n : Int} {tn : Tok} {hl : Addr} : (wdO w t v n tn hl).cls = .type "dict" := rfl
theorem isName_of {kind : Str} {x : Addr} {j : Int} {j' : Int} {t0 t1 t2 t3 t4 : Tok} {e : Nat} (h : j' = j) : IsName w kind x j (dictOf [⟨PyData.keyHash w.params "kind", .str "kind" t0, .str kind t1⟩, ⟨PyData.keyHash w.params "owner", .str "owner" t2, .ref x⟩, ⟨PyData.keyHash w.params "key", .str "key" t3, .int j' t4⟩] e) := by
  subst h
  exact ⟨tkA [t0, t1, t2, t3, t4], e, rfl⟩
theorem isArr_of {num : Int} {bl b : Addr} {t0 t1 t2 t3 t4 t5 t6 t7 t8 t9 : Tok} {e : Nat} : IsArr w num bl b (dictOf [⟨PyData.keyHash w.params "word", .str "word" t0, .str "ARRAY" t1⟩, ⟨PyData.keyHash w.params "number", .str "number" t2, .int num t3⟩, ⟨PyData.keyHash w.params "mark", .str "mark" t4, .int 0 t5⟩, ⟨PyData.keyHash w.params "told", .str "told" t6, .str "3" t7⟩, ⟨PyData.keyHash w.params "bounds", .str "bounds" t8, .ref bl⟩, ⟨PyData.keyHash w.params "items", .str "items" t9, .ref b⟩] e) := ⟨tkA [t0, t1, t2, t3, t4, t5, t6, t7, t8, t9], e, rfl⟩
theorem isTab_of {num : Int} {ed pd b : Addr} {t0 t1 t2 t3 t4 t5 t6 t7 t8 : Tok} {e : Nat} : IsTab w num ed pd b (dictOf [⟨PyData.keyHash w.params "word", .str "word" t0, .str "TABLE" t1⟩, ⟨PyData.keyHash w.params "number", .str "number" t2, .int num t3⟩, ⟨PyData.keyHash w.params "mark", .str "mark" t4, .int 0 t5⟩, ⟨PyData.keyHash w.params "entries", .str "entries" t6, .ref ed⟩, ⟨PyData.keyHash w.params "places", .str "places" t7, .ref pd⟩, ⟨PyData.keyHash w.params "rows", .str "rows" t8, .ref b⟩] e) := ⟨tkA [t0, t1, t2, t3, t4, t5, t6, t7, t8], e, rfl⟩
theorem isDat_of {num : Int} {fl b : Addr} {t0 t1 t2 t3 t4 t5 t6 t7 : Tok} {e : Nat} : IsDat w num fl b (dictOf [⟨PyData.keyHash w.params "word", .str "word" t0, .str "CELL" t1⟩, ⟨PyData.keyHash w.params "number", .str "number" t2, .int num t3⟩, ⟨PyData.keyHash w.params "mark", .str "mark" t4, .int 0 t5⟩, ⟨PyData.keyHash w.params "fields", .str "fields" t6, .ref fl⟩, ⟨PyData.keyHash w.params "values", .str "values" t7, .ref b⟩] e) := ⟨tkA [t0, t1, t2, t3, t4, t5, t6, t7], e, rfl⟩
theorem isWd_of {n : Int} {hl : Addr} {tn t0 t1 t2 t3 t4 t5 t6 t7 t8 t9 t10 t11 t12 t13 t14 t15 t16 t17 t18 t19 t20 t21 t22 t23 t24 t25 t26 t27 : Tok} {v1 v2 v3 v5 v6 v7 v8 v9 v10 v11 v12 v13 v14 v15 v16 v17 v18 v19 v22 v23 v24 v25 : Value} : IsWd w n hl (dictOf [⟨PyData.keyHash w.params "width", .str "width" t0, .int 32 t26⟩, ⟨PyData.keyHash w.params "most_steps", .str "most_steps" t1, v1⟩, ⟨PyData.keyHash w.params "most_depth", .str "most_depth" t2, v2⟩, ⟨PyData.keyHash w.params "most_length", .str "most_length" t3, v3⟩, ⟨PyData.keyHash w.params "most_items", .str "most_items" t4, .int 20000 t27⟩, ⟨PyData.keyHash w.params "store", .str "store" t5, v5⟩, ⟨PyData.keyHash w.params "functions", .str "functions" t6, v6⟩, ⟨PyData.keyHash w.params "labels", .str "labels" t7, v7⟩, ⟨PyData.keyHash w.params "keywords", .str "keywords" t8, v8⟩, ⟨PyData.keyHash w.params "opsyns", .str "opsyns" t9, v9⟩, ⟨PyData.keyHash w.params "inputs", .str "inputs" t10, v10⟩, ⟨PyData.keyHash w.params "outputs", .str "outputs" t11, v11⟩, ⟨PyData.keyHash w.params "traces", .str "traces" t12, v12⟩, ⟨PyData.keyHash w.params "read_names", .str "read_names" t13, v13⟩, ⟨PyData.keyHash w.params "write_names", .str "write_names" t14, v14⟩, ⟨PyData.keyHash w.params "traced", .str "traced" t15, v15⟩, ⟨PyData.keyHash w.params "steps", .str "steps" t16, v16⟩, ⟨PyData.keyHash w.params "depth", .str "depth" t17, v17⟩, ⟨PyData.keyHash w.params "nested", .str "nested" t18, v18⟩, ⟨PyData.keyHash w.params "aside", .str "aside" t19, v19⟩, ⟨PyData.keyHash w.params "made", .str "made" t20, .int n tn⟩, ⟨PyData.keyHash w.params "holders", .str "holders" t21, .ref hl⟩, ⟨PyData.keyHash w.params "evaluate", .str "evaluate" t22, v22⟩, ⟨PyData.keyHash w.params "make_code", .str "make_code" t23, v23⟩, ⟨PyData.keyHash w.params "matcher", .str "matcher" t24, v24⟩, ⟨PyData.keyHash w.params "kept_names", .str "kept_names" t25, v25⟩] 26) := ⟨tkA [t0, t1, t2, t3, t4, t5, t6, t7, t8, t9, t10, t11, t12, t13, t14, t15, t16, t17, t18, t19, t20, t21, t22, t23, t24, t25, t26, t27], vlA [.none, v1, v2, v3, .none, v5, v6, v7, v8, v9, v10, v11, v12, v13, v14, v15, v16, v17, v18, v19, .none, .none, v22, v23, v24, v25], tn, rfl⟩
end
theorem ints_one {ys : List Value} {f : Int → Int} {n : Int} (h : IntsAre ys (List.map f [n])) : ∃ t, ys = [Value.int (f n) t] := by
  cases h with
  | cons k t r => cases r; exact ⟨t, rfl⟩
theorem ki_setL_of : ∀ {l : List Value} {k : Nat} (v : Value), k < l.length → PySem.W.ki_setL l k v = some (l.set k v)
  | [], _, _, h => by cases h
  | _ :: _, 0, _, _ => rfl
  | x :: r, k + 1, v, h => by
    have q := ki_setL_of (l := r) (k := k) v (by simpa using h)
    simp [PySem.W.ki_setL, q]
section
variable {prog : Program} {w : World} {A : Around} {E : Value → Shared → Prop} {s : Shared} {h₀ : Heap} {L D : Addr} {m : Str → Option Value} {news news' : List (Addr × Obj)} {n : Nat}
theorem set_vs {k : Int} {t : Tok} {v : Value} {vs : List Value} {Q : Unit → Shared → Prop} (F : Fr h₀ L s.heap m) (N : News h₀ L s.heap news) (U : Upd D (listOf vs.toArray n) (listOf (vs.set k.toNat v).toArray n) news news') (h0 : 0 ≤ k) (hk : k < vs.length) (hz : vs.length < 100)
    (h : ∀ h', Fr h₀ L h' m → News h₀ L h' news' → Q () { s with heap := h' }) : wpAny (model prog w) A (setItem (.ref D) (.int k t) v) Q E s :=
  PySem.W.ki_set F N h0 (by omega) (ki_setL_of v (by simp only []; omega)) U h
theorem pop0 {v : Value} {vs : List Value} {u : Tok} {Q : Value → Shared → Prop} (F : Fr h₀ L s.heap m) (N : News h₀ L s.heap news) (U : Upd D (listOf (v :: vs).toArray n) (listOf vs.toArray (n + 1)) news news') (hz : vs.length < 100)
    (h : ∀ h', Fr h₀ L h' m → News h₀ L h' news' → Q v { s with heap := h' }) : wpAny (model prog w) A (PySem.call (.builtin "list.pop") [.ref D, .int 0 u]) Q E s :=
  kl_popAt (k := 0) (p := []) (q := vs) (y := v) (its := (v :: vs).toArray) F N rfl (by unfold seqIndex?; simp) (by simp [kl_cut]) (by simpa using U) (by rw [sizeLine_eq]; simp; omega) h
end
theorem mul3 {prog : Program} {w : World} {A : Around} {E : Value → Shared → Prop} {s : Shared} {h₀ : Heap} {L l : Addr} {m : Str → Option Value} {news : List (Addr × Obj)} {n : Nat} {v : Value} {x : Int} {u : Tok} {Q : Value → Shared → Prop} (hx : x = 3) (F : Fr h₀ L s.heap m) (N : News h₀ L s.heap news) (hm : (l, listOf [v].toArray n) ∈ news)
    (h : ∀ D h', Fr h₀ L h' m → News h₀ L h' ((D, listOf [v, v, v].toArray 0) :: news) → (∀ p ∈ news, p.1 < D) → Q (.ref D) { s with heap := h' }) : wpAny (model prog w) A (binaryOp .Mult (.ref l) (.int x u)) Q E s := by
  subst hx
  exact KMa.mul F N (PySem.IsL.isList (N.get hm)) (by decide) (by decide) (by simp) rfl h
theorem allLt_mem {d : Nat} : ∀ {l : List (Addr × Obj)}, AllLt d l → ∀ p ∈ l, @LT.lt Nat instLTNat p.1 d
  | [], _, _, h => nomatch h
  | q :: r, h, p, hp => by
    rcases List.mem_cons.mp hp with e | hp
    · rw [e]; exact h.1
    · exact allLt_mem h.2 p hp
noncomputable def strIs (x : Str) : Value → Bool
  | .str a _ => decide (a = x)
  | _ => false
section
variable {prog : Program} {w : World} {A : Around} {E : Value → Shared → Prop} {s : Shared} {h₀ : Heap} {L D : Addr} {news : List (Addr × Obj)} {n : Nat}
theorem idx_abc {u1 u2 u3 t : Tok} {x : Str} (j : Nat) (hj : j < 3) (hit : strIs x ([Value.str "A" u1, .str "B" u2, .str "C" u3][j]'hj) = true) (hno : ∀ m (hm : m < 3), m < j → strIs x ([Value.str "A" u1, .str "B" u2, .str "C" u3][m]'hm) = false) {Q : Value → Shared → Prop} (N : News h₀ L s.heap news) (hm : (D, listOf [Value.str "A" u1, .str "B" u2, .str "C" u3].toArray n) ∈ news) {i : Int} (hi : (j : Int) = i)
    (h : Q (.int i s.toks) { s with toks := s.toks + 1 }) : wpAny (model prog w) A (PySem.call (.builtin "list.index") [.ref D, .str x t]) Q E s := by
  subst hi
  exact call_meets PySem.F.slot_list_index ⟨_, (N _ hm).1, rfl⟩ PySem.F.entry_list_index (PySem.F.args_list_index_2 _ _)
    (MeetsSeq.list_index D [Value.str "A" u1, .str "B" u2, .str "C" u3].toArray n (.str x t) (strIs x) (fun y hy => by
      have hy' : y ∈ [Value.str "A" u1, .str "B" u2, .str "C" u3] := by simpa using hy
      have : ∃ a u, y = .str a u := by
        rcases List.mem_cons.mp hy' with e | hy'
        · exact ⟨_, _, e⟩
        rcases List.mem_cons.mp hy' with e | hy'
        · exact ⟨_, _, e⟩
        exact ⟨_, _, List.mem_singleton.mp hy'⟩
      obtain ⟨a, u, rfl⟩ := this
      exact fun _ _ _ _ _ _ h => wpAny_eqBool_str h) j (by simpa using hj) (by omega) hit (fun m hm hlt => hno m (by simpa using hm) hlt)) ⟨(N _ hm).1, h⟩
noncomputable def abcAt (x : Str) : Option Nat := if x = "A" then some 0 else if x = "B" then some 1 else if x = "C" then some 2 else none
theorem idx_at {u1 u2 u3 t : Tok} {x : Str} {j : Nat} (hj : abcAt x = some j) {Q : Value → Shared → Prop} (N : News h₀ L s.heap news) (hm : (D, listOf [Value.str "A" u1, .str "B" u2, .str "C" u3].toArray n) ∈ news) {i : Int} (hi : (j : Int) = i)
    (h : Q (.int i s.toks) { s with toks := s.toks + 1 }) : wpAny (model prog w) A (PySem.call (.builtin "list.index") [.ref D, .str x t]) Q E s := by
  unfold abcAt at hj
  by_cases e1 : x = "A"
  · subst e1
    obtain rfl : 0 = j := by simpa using hj
    exact idx_abc 0 (by decide) rfl (fun m hm hlt => absurd hlt (Nat.not_lt_zero _)) N hm hi h
  rw [if_neg e1] at hj
  by_cases e2 : x = "B"
  · subst e2
    obtain rfl : 1 = j := by simpa using hj
    refine idx_abc 1 (by decide) rfl (fun m hm hlt => ?_) N hm hi h
    have h9 : m = 0 := by omega
    subst h9; rfl
  rw [if_neg e2] at hj
  by_cases e3 : x = "C"
  · subst e3
    obtain rfl : 2 = j := by simpa using hj
    refine idx_abc 2 (by decide) rfl (fun m hm hlt => ?_) N hm hi h
    have h9 : m = 0 ∨ m = 1 := by omega
    rcases h9 with h9 | h9 <;> subst h9 <;> rfl
  rw [if_neg e3] at hj
  cases hj
end
theorem fresh_lt {h g h' : Heap} {L a : Addr} {o : Obj} {ro news : List (Addr × Obj)} (k : GSub h g (ro.map (·.1))) (N : News g L h' news) (hm : (a, o) ∈ news) (l : ∀ p ∈ ro, @LT.lt Nat instLTNat p.1 a) : Fresh h h' a o :=
  fresh_of k N hm fun hb => by
    obtain ⟨p, hp, e⟩ := List.mem_map.mp hb
    have := l p hp
    rw [e] at this
    exact Nat.lt_irrefl _ this
theorem News.after {h₀ h h' : Heap} {L : Addr} {tp tp' ro : List (Addr × Obj)} (N : News h₀ L h (tp ++ ro)) (k : GSub h h' (tp.map (·.1))) (hne : ∀ p ∈ ro, p.1 ∉ tp.map (·.1)) (ha : tp'.map (·.1) = tp.map (·.1)) (ht : ∀ p ∈ tp', h'.get? p.1 = some p.2) : News h₀ L h' (tp' ++ ro) := fun p hp => by
  rcases List.mem_append.mp hp with h1 | h1
  · have h2 : p.1 ∈ tp.map (·.1) := ha ▸ List.mem_map_of_mem h1
    obtain ⟨q, hq, e⟩ := List.mem_map.mp h2
    have := N q (List.mem_append_left _ hq)
    rw [e] at this
    exact ⟨ht p h1, this.2⟩
  · have := N p (List.mem_append_right _ h1)
    exact ⟨k _ _ this.1 (hne p h1), this.2⟩
theorem fresh_trans {h h1 h2 h' : Heap} {t1 t2 : List Addr} {a : Addr} {o : Obj} (k1 : GSub h h1 t1) (a1 : ∀ b ∈ t1, ∃ x, h1.get? b = some x) (k3 : GSub h2 h' t2) (a2 : ∀ b ∈ t2, ∃ x, h1.get? b = some x) (f : Fresh h1 h2 a o) : Fresh h h' a o := by
  have off : ∀ t : List Addr, (∀ b ∈ t, ∃ x, h1.get? b = some x) → a ∉ t := fun t ht hm => by
    obtain ⟨x, hx⟩ := ht a hm
    rw [f.1] at hx
    cases hx
  refine ⟨?_, k3 _ _ f.2 (off _ a2)⟩
  cases e : h.get? a with
  | none => rfl
  | some x =>
    have q := k1 a x e (off _ a1)
    rw [f.1] at q
    cases q
theorem GSub.trans {h h1 h2 : Heap} {t1 t2 : List Addr} (k1 : GSub h h1 t1) (k2 : GSub h1 h2 t2) : GSub h h2 (t1 ++ t2) := fun b o e n => k2 b o (k1 b o e fun h => n (List.mem_append_left _ h)) fun h => n (List.mem_append_right _ h)
theorem ne_cons {q : Addr × Obj} {rest : List (Addr × Obj)} {a : Addr} (h : q.1 ≠ a) (r : ∀ p ∈ rest, p.1 ≠ a) : ∀ p ∈ q :: rest, p.1 ≠ a := fun p hp => by
  rcases List.mem_cons.mp hp with e | hp
  · rw [e]; exact h
  · exact r p hp
theorem two_of {h₀ h : Heap} {L : Addr} {a b : Addr × Obj} {news : List (Addr × Obj)} (N : News h₀ L h news) (ha : a ∈ news) (hb : b ∈ news) : News h₀ L h ([a] ++ [b]) := fun p hp => by
  rcases List.mem_cons.mp hp with e | hp
  · rw [e]; exact N _ ha
  · rw [List.mem_singleton.mp hp]; exact N _ hb
theorem swap_of {h₀ h : Heap} {L : Addr} {a b : Addr × Obj} {ro : List (Addr × Obj)} (N : News h₀ L h (a :: b :: ro)) : News h₀ L h ([b] ++ (a :: ro)) := fun p hp => by
  rcases List.mem_cons.mp hp with e | hp
  · exact N p (List.mem_cons_of_mem _ (e ▸ List.mem_cons_self ..))
  rcases List.mem_cons.mp hp with e | hp
  · exact N p (e ▸ List.mem_cons_self ..)
  · exact N p (List.mem_cons_of_mem _ (List.mem_cons_of_mem _ hp))
theorem head_after {h₀ h h' : Heap} {L a : Addr} {o o' : Obj} {ro : List (Addr × Obj)} (N : News h₀ L h ((a, o) :: ro)) (k : GSub h h' [a]) (hr : ∀ p ∈ ro, p.1 ≠ a) (g : h'.get? a = some o') : News h₀ L h' ((a, o') :: ro) := fun p hp => by
  rcases List.mem_cons.mp hp with e | hp
  · rw [e]; exact ⟨g, (N _ (List.mem_cons_self ..)).2⟩
  · have z := N _ (List.mem_cons_of_mem _ hp)
    exact ⟨k _ _ z.1 (fun hm => hr p hp (List.mem_singleton.mp hm)), z.2⟩
theorem let_fr {g : Heap} {L : Addr} {h : Heap} {m : Str → Option Value} {P : Prop} (F : Fr g L h m) (H : let mk := m; Fr g L h mk → P) : P := H F
theorem tk_gen {M : Model} {A : Around} {α : Type} {t : Sem α} {Q : α → Shared → Prop} {E : Value → Shared → Prop} {s : Shared} {h : Heap} {X : Nat} (H : ∀ tk, wpAny M A t Q E { s with heap := h, toks := tk }) : wpAny M A t Q E { s with heap := h, toks := X } := H X
theorem lt_tr {a b c : Nat} (h1 : b < c) (h2 : a < b) : a < c := Nat.lt_trans h2 h1
inductive TakeP (bx ib : Addr) (n wd : Int) (k : Nat) (r : Value) (h' : Heap) : Prop
  | mk (x : Int) (t : Tok) (vs' : List Value) (o1 o2 : Obj) (t' : Tok) (e : r = .int x t) (a : 0 ≤ x) (b : x < wd) (i1 : IsLst [.ref ib, .int (n+1) t'] o1) (g1 : h'.get? bx = some o1) (i2 : IsLst vs' o2) (g2 : h'.get? ib = some o2) (hx : ∃ xs', IntsAre vs' xs') (hl : vs'.length ≤ k)
inductive TakeO (h₀ : Heap) (L : Addr) (bx ib : Addr) (n wd : Int) (k : Nat) (r : Value) (h' : Heap) (ro : List (Addr × Obj)) : Prop
  | mk (x : Int) (t : Tok) (vs' : List Value) (e1 e2 : Nat) (t' : Tok) (xs' : List Int) (e : r = .int x t) (a : 0 ≤ x) (b : x < wd) (hx : IntsAre vs' xs') (hl : vs'.length ≤ k) (N : News h₀ L h' ((bx, listOf [.ref ib, .int (n+1) t'].toArray e1) :: (ib, listOf vs'.toArray e2) :: ro))
inductive GivenP (bx ib : Addr) (n : Int) (hs : List Value) (k : Nat) (r : Value) (h' : Heap) : Prop
  | mk (vs' : List Value) (n' : Int) (o1 o2 : Obj) (t' t : Tok) (hv : r ∈ hs ∨ r = .str "" t ∨ ∃ k, 0 ≤ k ∧ k < 100 ∧ r = .int k t) (a : n < n') (b : n' ≤ n + 2) (i1 : IsLst [.ref ib, .int n' t'] o1) (g1 : h'.get? bx = some o1) (i2 : IsLst vs' o2) (g2 : h'.get? ib = some o2) (hx : ∃ xs', IntsAre vs' xs') (hl : vs'.length ≤ k)
inductive RefP (w : World) (kind : Str) (x : Addr) (j : Int) (h : Heap) (r : Value) (h' : Heap) : Prop
  | mk (x' d' : Addr) (o1 : Obj) (e : r = .ref x') (f1 : Fresh h h' x' (instObj 117 d')) (i : IsName w kind x j o1) (f2 : Fresh h h' d' o1)
inductive Stop (k : Nat) : Prop
  | mk
theorem stop_of {k : Nat} {P : Prop} (_ : Stop k) (h : Hold P) : P := h
noncomputable def stops : List Nat := [394, 422, 401, 316, 408, 415, 309, 373, 380, 387, 330, 359, 366, 262, 323, 290, 170, 191]
theorem stop_at {M : Model} {A : Around} {Q : Value → Shared → Prop} {E : Value → Shared → Prop} {s : Shared} {a : Nat} {vs : List Value} {kw : List (Str × Value)} (_ : stops.contains a = true) (h : Hold (wpAny M A (PySem.call (.ref a) vs kw) Q E s)) : wpAny M A (PySem.call (.ref a) vs kw) Q E s := h
theorem an0 {X r : Prop} (h : X ∧ r) : X := h.1
theorem an1 {c0 X r : Prop} (h : c0 ∧ X ∧ r) : X := h.2.1
theorem an2 {c0 c1 X r : Prop} (h : c0 ∧ c1 ∧ X ∧ r) : X := h.2.2.1
theorem an3 {c0 c1 c2 X r : Prop} (h : c0 ∧ c1 ∧ c2 ∧ X ∧ r) : X := h.2.2.2.1
theorem an4 {c0 c1 c2 c3 X r : Prop} (h : c0 ∧ c1 ∧ c2 ∧ c3 ∧ X ∧ r) : X := h.2.2.2.2.1
theorem an5 {c0 c1 c2 c3 c4 X r : Prop} (h : c0 ∧ c1 ∧ c2 ∧ c3 ∧ c4 ∧ X ∧ r) : X := h.2.2.2.2.2.1
theorem an6 {c0 c1 c2 c3 c4 c5 X r : Prop} (h : c0 ∧ c1 ∧ c2 ∧ c3 ∧ c4 ∧ c5 ∧ X ∧ r) : X := h.2.2.2.2.2.2.1
theorem an7 {c0 c1 c2 c3 c4 c5 c6 X r : Prop} (h : c0 ∧ c1 ∧ c2 ∧ c3 ∧ c4 ∧ c5 ∧ c6 ∧ X ∧ r) : X := h.2.2.2.2.2.2.2.1
theorem an8 {c0 c1 c2 c3 c4 c5 c6 c7 X r : Prop} (h : c0 ∧ c1 ∧ c2 ∧ c3 ∧ c4 ∧ c5 ∧ c6 ∧ c7 ∧ X ∧ r) : X := h.2.2.2.2.2.2.2.2.1
theorem an9 {c0 c1 c2 c3 c4 c5 c6 c7 c8 X r : Prop} (h : c0 ∧ c1 ∧ c2 ∧ c3 ∧ c4 ∧ c5 ∧ c6 ∧ c7 ∧ c8 ∧ X ∧ r) : X := h.2.2.2.2.2.2.2.2.2.1
theorem an10 {c0 c1 c2 c3 c4 c5 c6 c7 c8 c9 X r : Prop} (h : c0 ∧ c1 ∧ c2 ∧ c3 ∧ c4 ∧ c5 ∧ c6 ∧ c7 ∧ c8 ∧ c9 ∧ X ∧ r) : X := h.2.2.2.2.2.2.2.2.2.2.1
theorem an11 {c0 c1 c2 c3 c4 c5 c6 c7 c8 c9 c10 X r : Prop} (h : c0 ∧ c1 ∧ c2 ∧ c3 ∧ c4 ∧ c5 ∧ c6 ∧ c7 ∧ c8 ∧ c9 ∧ c10 ∧ X ∧ r) : X := h.2.2.2.2.2.2.2.2.2.2.2.1
theorem an12 {c0 c1 c2 c3 c4 c5 c6 c7 c8 c9 c10 c11 X r : Prop} (h : c0 ∧ c1 ∧ c2 ∧ c3 ∧ c4 ∧ c5 ∧ c6 ∧ c7 ∧ c8 ∧ c9 ∧ c10 ∧ c11 ∧ X ∧ r) : X := h.2.2.2.2.2.2.2.2.2.2.2.2.1
theorem an13 {c0 c1 c2 c3 c4 c5 c6 c7 c8 c9 c10 c11 c12 X r : Prop} (h : c0 ∧ c1 ∧ c2 ∧ c3 ∧ c4 ∧ c5 ∧ c6 ∧ c7 ∧ c8 ∧ c9 ∧ c10 ∧ c11 ∧ c12 ∧ X ∧ r) : X := h.2.2.2.2.2.2.2.2.2.2.2.2.2.1
theorem al1 {c0 X : Prop} (h : c0 ∧ X) : X := h.2
theorem al2 {c0 c1 X : Prop} (h : c0 ∧ c1 ∧ X) : X := h.2.2
theorem al3 {c0 c1 c2 X : Prop} (h : c0 ∧ c1 ∧ c2 ∧ X) : X := h.2.2.2
theorem al4 {c0 c1 c2 c3 X : Prop} (h : c0 ∧ c1 ∧ c2 ∧ c3 ∧ X) : X := h.2.2.2.2
theorem al5 {c0 c1 c2 c3 c4 X : Prop} (h : c0 ∧ c1 ∧ c2 ∧ c3 ∧ c4 ∧ X) : X := h.2.2.2.2.2
theorem al6 {c0 c1 c2 c3 c4 c5 X : Prop} (h : c0 ∧ c1 ∧ c2 ∧ c3 ∧ c4 ∧ c5 ∧ X) : X := h.2.2.2.2.2.2
theorem al7 {c0 c1 c2 c3 c4 c5 c6 X : Prop} (h : c0 ∧ c1 ∧ c2 ∧ c3 ∧ c4 ∧ c5 ∧ c6 ∧ X) : X := h.2.2.2.2.2.2.2
theorem al8 {c0 c1 c2 c3 c4 c5 c6 c7 X : Prop} (h : c0 ∧ c1 ∧ c2 ∧ c3 ∧ c4 ∧ c5 ∧ c6 ∧ c7 ∧ X) : X := h.2.2.2.2.2.2.2.2
theorem al9 {c0 c1 c2 c3 c4 c5 c6 c7 c8 X : Prop} (h : c0 ∧ c1 ∧ c2 ∧ c3 ∧ c4 ∧ c5 ∧ c6 ∧ c7 ∧ c8 ∧ X) : X := h.2.2.2.2.2.2.2.2.2
theorem al10 {c0 c1 c2 c3 c4 c5 c6 c7 c8 c9 X : Prop} (h : c0 ∧ c1 ∧ c2 ∧ c3 ∧ c4 ∧ c5 ∧ c6 ∧ c7 ∧ c8 ∧ c9 ∧ X) : X := h.2.2.2.2.2.2.2.2.2.2
theorem al11 {c0 c1 c2 c3 c4 c5 c6 c7 c8 c9 c10 X : Prop} (h : c0 ∧ c1 ∧ c2 ∧ c3 ∧ c4 ∧ c5 ∧ c6 ∧ c7 ∧ c8 ∧ c9 ∧ c10 ∧ X) : X := h.2.2.2.2.2.2.2.2.2.2.2
theorem al12 {c0 c1 c2 c3 c4 c5 c6 c7 c8 c9 c10 c11 X : Prop} (h : c0 ∧ c1 ∧ c2 ∧ c3 ∧ c4 ∧ c5 ∧ c6 ∧ c7 ∧ c8 ∧ c9 ∧ c10 ∧ c11 ∧ X) : X := h.2.2.2.2.2.2.2.2.2.2.2.2
theorem al13 {c0 c1 c2 c3 c4 c5 c6 c7 c8 c9 c10 c11 c12 X : Prop} (h : c0 ∧ c1 ∧ c2 ∧ c3 ∧ c4 ∧ c5 ∧ c6 ∧ c7 ∧ c8 ∧ c9 ∧ c10 ∧ c11 ∧ c12 ∧ X) : X := h.2.2.2.2.2.2.2.2.2.2.2.2.2
theorem al14 {c0 c1 c2 c3 c4 c5 c6 c7 c8 c9 c10 c11 c12 c13 X : Prop} (h : c0 ∧ c1 ∧ c2 ∧ c3 ∧ c4 ∧ c5 ∧ c6 ∧ c7 ∧ c8 ∧ c9 ∧ c10 ∧ c11 ∧ c12 ∧ c13 ∧ X) : X := h.2.2.2.2.2.2.2.2.2.2.2.2.2.2
theorem al15 {c0 c1 c2 c3 c4 c5 c6 c7 c8 c9 c10 c11 c12 c13 c14 X : Prop} (h : c0 ∧ c1 ∧ c2 ∧ c3 ∧ c4 ∧ c5 ∧ c6 ∧ c7 ∧ c8 ∧ c9 ∧ c10 ∧ c11 ∧ c12 ∧ c13 ∧ c14 ∧ X) : X := h.2.2.2.2.2.2.2.2.2.2.2.2.2.2.2
theorem ne2_cons {x y : Addr} {q : Addr × Obj} {rest : List (Addr × Obj)} (h : q.1 ≠ x ∧ q.1 ≠ y) (r : ∀ p ∈ rest, p.1 ≠ x ∧ p.1 ≠ y) : ∀ p ∈ q :: rest, p.1 ≠ x ∧ p.1 ≠ y := fun p hp => by
  rcases List.mem_cons.mp hp with e | hp
  · rw [e]; exact h
  · exact r p hp
end
section
inductive Mix where
  | s (x : Str)
  | i (n : Int)
  deriving DecidableEq
noncomputable def mixIs : Mix → Value → Bool
  | .s x, v => Value.isStrOf x v
  | .i n, v => Value.isInt n v
theorem mix_s {x : Str} {v : Value} (h : mixIs (.s x) v = true) : ∃ t, v = .str x t := Value.isStrOf_shape h
theorem mix_i {n : Int} {v : Value} (h : mixIs (.i n) v = true) : ∃ t, v = .int n t := Value.isInt_shape h
theorem mixIs_s (x : Str) (t : Tok) : mixIs (.s x) (.str x t) = true := by simp [mixIs, Value.isStrOf]
theorem mixIs_i (n : Int) (t : Tok) : mixIs (.i n) (.int n t) = true := by simp [mixIs, Value.isInt]
section
variable {prog : Program} {w : World} {A : Around} {E : Value → Shared → Prop} {s : Shared}
theorem eqBool_str_int {a : Str} {b : Int} {t u : Tok} {Q : Bool → Shared → Prop} (h : Q false s) : wpAny (model prog w) A (eqBool (.str a t) (.int b u)) Q E s := by
  unfold eqBool
  refine wpAny_holding ?_
  rw [if_neg (fun e => by have := eq_of_beq e; cases this)]
  exact wpAny_bind (EqMixed.eq_str_int (wpAny_truthy_bool h))
theorem eqBool_int_str {a : Int} {b : Str} {t u : Tok} {Q : Bool → Shared → Prop} (h : Q false s) : wpAny (model prog w) A (eqBool (.int a t) (.str b u)) Q E s := by
  unfold eqBool
  refine wpAny_holding ?_
  rw [if_neg (fun e => by have := eq_of_beq e; cases this)]
  exact wpAny_bind (EqMixed.eq_int_str (wpAny_truthy_bool h))
end
noncomputable def mixKind (prog : Program) (w : World) : KeyKind prog w Mix where
  is := mixIs
  hash := fun | .s x => hashStr w x | .i n => hashInt n
  inj := fun v a b ha hb => by
    cases a with
    | s x =>
      obtain ⟨t, rfl⟩ := mix_s ha
      cases b with
      | s y => obtain ⟨u, e⟩ := mix_s hb; injection e with e1 _; rw [e1]
      | i n => obtain ⟨u, e⟩ := mix_i hb; cases e
    | i n =>
      obtain ⟨t, rfl⟩ := mix_i ha
      cases b with
      | s y => obtain ⟨u, e⟩ := mix_s hb; cases e
      | i m => obtain ⟨u, e⟩ := mix_i hb; injection e with e1 _; rw [e1]
  byValue := fun k v h => by
    cases k with
    | s x => obtain ⟨t, rfl⟩ := mix_s h; rfl
    | i n => obtain ⟨t, rfl⟩ := mix_i h; rfl
  pyHash := fun {A E s k v Q} hv h => by
    cases k with
    | s x => obtain ⟨t, rfl⟩ := mix_s hv; exact wpAny_pyHash_str h
    | i n => obtain ⟨t, rfl⟩ := mix_i hv; exact wpAny_pyHash_int h
  eqBool := fun {A E s a b u v Q} hu hv h => by
    cases a with
    | s x =>
      obtain ⟨t, rfl⟩ := mix_s hu
      cases b with
      | s y => obtain ⟨u, rfl⟩ := mix_s hv; exact wpAny_eqBool_str (by have e : decide (x = y) = decide (Mix.s x = Mix.s y) := (by by_cases q : x = y <;> simp [q]); rw [e]; exact h)
      | i n => obtain ⟨u, rfl⟩ := mix_i hv; exact eqBool_str_int (by simpa using h)
    | i n =>
      obtain ⟨t, rfl⟩ := mix_i hu
      cases b with
      | s y => obtain ⟨u, rfl⟩ := mix_s hv; exact eqBool_int_str (by simpa using h)
      | i m =>
        obtain ⟨u, rfl⟩ := mix_i hv
        refine wpAny_eqBool_int ?_
        have e : (n == m) = decide (Mix.i n = Mix.i m) := (by by_cases q : n = m <;> simp [q])
        (rw [e])
        exact h
  «strs» := fun k x t v h => by
    cases k with
    | s y =>
      obtain ⟨u, hu⟩ := mix_s h
      injection hu with hx
      subst hx
      cases v <;> rfl
    | i n => obtain ⟨u, hu⟩ := mix_i h; cases hu

noncomputable abbrev markK (n : Int) : List Mix := [.s "INTEGER", .i n]
noncomputable abbrev tk (prog : Program) (w : World) : HeapKind prog w (List Mix) := tupleKind (mixKind prog w)
noncomputable abbrev tupOf (vs : List Value) (n : Nat) : Obj := { cls := .type "tuple", data := .seq vs.toArray n }
theorem mark_is {prog : Program} {w : World} {h : Heap} {t : Addr} {n : Int} {u1 u2 : Tok} {e : Nat} (g : h.get? t = some (tupOf [.str "INTEGER" u1, .int n u2] e)) : (tk prog w).is h (markK n) t :=
  ⟨_, _, _, g, rfl, rfl, .cons (mixIs_s _ u1) (.cons (mixIs_i _ u2) .nil)⟩
noncomputable abbrev tdOf (prog : Program) (w : World) (xs : List (List Mix × Addr × Value)) (ep : Nat) : Obj := { cls := .type "dict", data := .dict (xs.map (entryOfKey (tk prog w))).toArray ep }
theorem td_is {prog : Program} {w : World} {h : Heap} {d : Addr} {xs : List (List Mix × Addr × Value)} {ep : Nat} (g : h.get? d = some (tdOf prog w xs ep)) (hi : ∀ x ∈ xs, (tk prog w).is h x.1 x.2.1) (hn : (xs.map (·.1)).Nodup) : h.DictOfH (tk prog w) d xs :=
  ⟨_, _, ep, g, ⟨rfl, rfl, rfl⟩, rfl, rfl, hi, hn⟩
end
section
section
variable {prog : Program} {w : World} {A : Around} {E : Value → Shared → Prop} {s : Shared} {h₀ h : Heap} {L d : Addr} {m : Str → Option Value} {news : List (Addr × Obj)} {g : Obj → List (Addr × Obj)} {o : Obj}
noncomputable def KeysOk (news : List (Addr × Obj)) (xs : List (List Mix × Addr × Value)) : Prop :=
  (∀ x ∈ xs, ∃ n u1 u2 e, x.1 = markK n ∧ (x.2.1, tup [.str "INTEGER" u1, .int n u2] e) ∈ news) ∧ (xs.map (·.1)).Nodup
theorem KeysOk.mono {news' : List (Addr × Obj)} {xs} (k : KeysOk news xs) (hs : ∀ p ∈ news, p ∈ news') : KeysOk news' xs :=
  ⟨fun x hx => let ⟨n, u1, u2, e, a, b⟩ := k.1 x hx; ⟨n, u1, u2, e, a, hs _ b⟩, k.2⟩
theorem td_of_news {xs ep} (N : News h₀ L h news) (hm : (d, tdOf prog w xs ep) ∈ news) (k : KeysOk news xs) : h.DictOfH (tk prog w) d xs :=
  td_is (N _ hm).1 (fun x hx => by
    obtain ⟨n, u1, u2, e, a, b⟩ := k.1 x hx
    rw [a]
    exact mark_is (N _ b).1) k.2
theorem td_out {xs} (t : h.DictOfH (tk prog w) d xs) : ∃ ep, h.get? d = some (tdOf prog w xs ep) := by
  obtain ⟨o, es, ep, g, ⟨c1, c2, c3⟩, hd, he, _⟩ := t
  refine ⟨ep, g.trans (congrArg some ?_)⟩
  obtain ⟨c, dd, dt, sl⟩ := o
  simp only at c1 c2 c3 hd
  subst c1 c2 c3 hd
  have : es = (xs.map (entryOfKey (tk prog w))).toArray := by rw [← he]
  rw [this]
theorem notIn_td {xs ep} {a : Addr} {n : Int} {u1 u2 : Tok} {e : Nat} {b : Bool} {Q : Value → Shared → Prop} (hu : A.units + 1 < cLine) (N : News h₀ L s.heap news) (hm : (d, tdOf prog w xs ep) ∈ news) (k : KeysOk news xs) (ha : (a, tup [.str "INTEGER" u1, .int n u2] e) ∈ news) (hd : (d == sysModules) = false) (hb : (!(atKey xs (markK n)).isSome) = b)
    (h : Q (.bool b) { s with toks := s.toks + 3 }) : wpAny (model prog w) A (compareOp .NotIn (.ref a) (.ref d)) Q E s :=
  wpAny_notIn_heap (knd := tk prog w) (k := markK n) (tupleKind_room_in1 hu) (mark_is (N _ ha).1) hd (td_of_news N hm k) (by rw [hb]; exact h)
theorem item_td {value slice : Expr} {xs ep} {a : Addr} {n : Int} {u1 u2 : Tok} {e : Nat} {p : Addr × Value} {Q : Value → Shared → Prop} (hu : A.units + 1 < cLine) (N : News h₀ L s.heap news) (hm : (d, tdOf prog w xs ep) ∈ news) (k : KeysOk news xs) (ha : (a, tup [.str "INTEGER" u1, .int n u2] e) ∈ news) (hp : atKey xs (markK n) = some p)
    (h : Q p.2 { s with toks := s.toks + 3 }) (hs : subscripted slice false (.ref d) (.ref a) = operate [.ref d, .ref a] (getItem (.ref d) (.ref a)) := by with_unfolding_all rfl) (hg : ∀ r, letTemporaryGo value (.ref d) r = pure () := by intro _; with_unfolding_all rfl) : wpAny (model prog w) A (subscriptTail value slice (.ref d) (.ref a)) Q E s :=
  subscriptTail_builtin (td_of_news N hm k).typeIs slot_dict_getitem.lookup (wpAny_getItem_heap (knd := tk prog w) (k := markK n) (tupleKind_room_in1 hu) (mark_is (N _ ha).1) (td_of_news N hm k) hp h) hs hg
theorem set_td {xs ep} {a : Addr} {n : Int} {u1 u2 : Tok} {e : Nat} {v : Value} {Q : Unit → Shared → Prop} (hu : A.units + 1 < cLine) (F : Fr h₀ L s.heap m) (N : News h₀ L s.heap news) (U : UpdF d (tdOf prog w xs ep) news g) (hm : (d, tdOf prog w xs ep) ∈ news) (k : KeysOk news xs) (ha : (a, tup [.str "INTEGER" u1, .int n u2] e) ∈ news) (hp : atKey xs (markK n) = none) (hz : xs.length < 100)
    (h : ∀ h' ep', Fr h₀ L h' m → News h₀ L h' (g (tdOf prog w (xs ++ [(markK n, a, v)]) ep')) → Q () { s with heap := h', toks := s.toks + 3 }) : wpAny (model prog w) A (setItem (.ref d) (.ref a) v) Q E s := by
  refine wpAny_setItem_heap (knd := tk prog w) (k := markK n) (hsz := by rw [sizeLine_eq]; omega) (tupleKind_room_in1 hu) (mark_is (N _ ha).1) (td_of_news N hm k) fun h' t hs => ?_
  rw [storedH_new hp] at t
  obtain ⟨ep', g'⟩ := td_out t
  obtain ⟨pre, post, rfl, hg, a', b'⟩ := U.split
  have z := N _ hm
  exact h h' ep' (F.change hs z.2.1 z.2.2) (hg _ ▸ news_set N a' b' hs g')
end
theorem not_mods {w : World} {h₀ : Heap} {d : Addr} (X : (hd.heap_1 w.params).In h₀) (e : h₀.get? d = none) : (d == sysModules) = false := by
  have q : (hd.heap_1 w.params).lookup 1 ≠ none := by intro h; cases h
  obtain ⟨o, ho⟩ := Option.ne_none_iff_exists'.mp q
  have g := X _ _ ho
  refine beq_eq_false_iff_ne.mpr fun h => ?_
  rw [h] at e
  rw [show sysModules = 1 from rfl] at e
  rw [e] at g
  cases g
end
section
section
variable {prog : Program} {w : World} {A : Around} {E : Value → Shared → Prop} {s : Shared} {d it : Addr} {es : Array DictEntry} {ep : Nat}
noncomputable abbrev rawD (es : Array DictEntry) (ep : Nat) : Obj := { cls := .type "dict", data := .dict es ep }
theorem rk_iter {Q : Value → Shared → Prop} (hd : (d == sysModules) = false) (ho : s.heap.get? d = some (rawD es ep))
    (hQ : Q (.ref s.heap.objs.size) { s with heap := s.heap.push { cls := .type "dict_keyiterator", data := .fields #[.ref d, .int 0 0, .int es.size 0, .int ep 0] } }) : wpAny (model prog w) A (pyIter (.ref d)) Q E s := by
  have hT : s.TypeIs (.ref d) "dict" := ⟨_, ho, rfl⟩
  refine wpAny_pyIter_slot hT F.slot_dict_iter (wpAny_call_entry F.slot_dict_iter hT F.entry_dict_iter ?_ (F.args_dict_iter_1 _))
  unfold Builtin.«dict.__iter__»
  refine wpAny_bind ?_
  unfold Builtin.Dict.dictSlotNone
  refine wpAny_bind (wpAny_notOrdered_dict hT ?_)
  show wpAny _ _ (pure (Value.ref d)) _ _ s
  refine wpAny_pure ?_
  show wpAny _ _ (Builtin.Dict.showsAll d >>= _) _ _ s
  unfold Builtin.Dict.showsAll
  rw [if_neg (by rw [hd]; exact Bool.false_ne_true)]
  refine wpAny_bind (wpAny_pure ?_)
  refine wpAny_bind (wpAny_dictEntries ho rfl ?_)
  refine wpAny_bind (wpAny_dictEpoch ho rfl ?_)
  refine wpAny_bind (wpAny_newObj_type (wpAny_pure ⟨_, rfl, "dict_keyiterator", _, ⟨_, Heap.get?_push_size _ rfl, rfl⟩, F.slot_dict_keyiterator_next.lookup, ?_⟩))
  simpa [rawInt] using hQ
theorem rk_next {i : Nat} {e : DictEntry} {Q : Option Value → Shared → Prop} (hit : s.heap.IsKeyIter it d i es.size ep) (ho : s.heap.get? d = some (rawD es ep)) (hx : es[i]? = some e)
    (hQ : ∀ h', h'.IsKeyIter it d (i + 1) es.size ep → Heap.SameBut it s.heap h' → Q (some e.key) { s with heap := h' }) : wpAny (model prog w) A (pyNext (.ref it)) Q E s := by
  obtain ⟨o, hi, hc, hdt⟩ := id hit
  unfold pyNext
  refine wpAny_bind (wpAny_attempt (wpAny_callSpecial?_slot (name := Str.ofString "__next__") hit.typeIs F.slot_dict_keyiterator_next
    (wpAny_call_entry F.slot_dict_keyiterator_next hit.typeIs F.entry_dict_keyiterator_next ?_ (F.args_dict_keyiterator_next_1 _))))
  refine wpAny_bind (wpAny_pure ?_)
  refine wpAny_bind ?_
  refine wpAny_bind ?_
  first | refine wpAny_bind (wpAny_typeNameOfWhole_keyiter hit.typeIs (wpAny_pure ?_)) | refine wpAny_bind (wpAny_typeNameOf_keyiter hit.typeIs (wpAny_pure ?_))
  refine wpAny_bind (wpAny_fieldsOf hi hdt ?_)
  have hown : Builtin.Dict_items.ownsTuple "dict_keyiterator" = false := by decide
  rw [if_neg (by rw [hown]; exact Bool.false_ne_true)]
  try dsimp only
  show wpAny _ _ (if (Value.ref d == Value.none) = true then _ else _) _ _ s
  rw [if_neg (show ¬ ((Value.ref d == Value.none) = true) from Bool.false_ne_true)]
  refine wpAny_bind (wpAny_pure ?_)
  refine wpAny_bind (wpAny_dictEntries ho rfl ?_)
  rw [if_neg (by simp)]
  refine wpAny_bind (wpAny_pure ?_)
  refine wpAny_bind (wpAny_dictEpoch ho rfl ?_)
  rw [if_neg (by simp)]
  refine wpAny_pure ?_
  dsimp only
  rw [if_neg (show ¬ ((i : Int) < 0) from by omega), Int.toNat_natCast, hx]
  dsimp only
  refine wpAny_bind ?_
  first | refine wpAny_bind (wpAny_typeNameOfWhole_keyiter hit.typeIs (wpAny_pure ?_)) | refine wpAny_bind (wpAny_typeNameOf_keyiter hit.typeIs (wpAny_pure ?_))
  refine wpAny_bind (wpAny_isOneOf_keyiter hit.typeIs ?_)
  show wpAny _ _ (setField (.ref it) 1 (rawInt ((i : Int) + 1)) >>= _) _ _ s
  refine wpAny_bind (wpAny_setField hi hdt (by simp) ?_)
  have hit' : (s.heap.update it (Obj.mapFields (·.setIfInBounds 1 (rawInt ((i : Int) + 1))))).IsKeyIter it d (i + 1) es.size ep :=
    ⟨_, Heap.get?_update_self _ hi (Obj.isFreed_of_fields (Obj.data_mapFields hdt _)), (Obj.cls_mapFields ..).trans hc, by rw [Obj.data_mapFields hdt]; simp [rawInt]⟩
  refine wpAny_bind (wpAny_holding ?_)
  refine wpAny_bind (wpAny_isOneOf_keyiter (s := { s with heap := s.heap.update it (Obj.mapFields (·.setIfInBounds 1 (rawInt ((i : Int) + 1)))) }) hit'.typeIs ?_)
  show wpAny _ _ (pure e.key) _ _ _
  exact wpAny_pure (wpAny_pure ⟨_, rfl, wpAny_pure (hQ _ hit' (Heap.SameBut.update ..))⟩)
theorem rk_end {i : Nat} {Q : Option Value → Shared → Prop} (hh : A.handled = none) (hit : s.heap.IsKeyIter it d i es.size ep) (ho : s.heap.get? d = some (rawD es ep)) (hx : es[i]? = none)
    (hQ : ∀ h', Heap.ExtBut it s.heap h' → Q none { s with heap := h' }) : wpAny (model prog w) A (pyNext (.ref it)) Q E s := by
  obtain ⟨o, hi, hc, hdt⟩ := id hit
  unfold pyNext
  refine wpAny_bind (wpAny_attempt (wpAny_callSpecial?_slot (name := Str.ofString "__next__") hit.typeIs F.slot_dict_keyiterator_next
    (wpAny_call_entry F.slot_dict_keyiterator_next hit.typeIs F.entry_dict_keyiterator_next ?_ (F.args_dict_keyiterator_next_1 _))))
  refine wpAny_bind (wpAny_pure ?_)
  refine wpAny_bind ?_
  refine wpAny_bind ?_
  first | refine wpAny_bind (wpAny_typeNameOfWhole_keyiter hit.typeIs (wpAny_pure ?_)) | refine wpAny_bind (wpAny_typeNameOf_keyiter hit.typeIs (wpAny_pure ?_))
  refine wpAny_bind (wpAny_fieldsOf hi hdt ?_)
  have hown : Builtin.Dict_items.ownsTuple "dict_keyiterator" = false := by decide
  rw [if_neg (by rw [hown]; exact Bool.false_ne_true)]
  try dsimp only
  show wpAny _ _ (if (Value.ref d == Value.none) = true then _ else _) _ _ s
  rw [if_neg (show ¬ ((Value.ref d == Value.none) = true) from Bool.false_ne_true)]
  refine wpAny_bind (wpAny_pure ?_)
  refine wpAny_bind (wpAny_dictEntries ho rfl ?_)
  rw [if_neg (by simp)]
  refine wpAny_bind (wpAny_pure ?_)
  refine wpAny_bind (wpAny_dictEpoch ho rfl ?_)
  rw [if_neg (by simp)]
  refine wpAny_pure ?_
  dsimp only
  rw [if_neg (show ¬ ((i : Int) < 0) from by omega), Int.toNat_natCast, hx]
  dsimp only
  refine wpAny_bind ?_
  first | refine wpAny_bind (wpAny_typeNameOfWhole_keyiter hit.typeIs (wpAny_pure ?_)) | refine wpAny_bind (wpAny_typeNameOf_keyiter hit.typeIs (wpAny_pure ?_))
  show wpAny _ _ (setField (.ref it) 0 .none >>= _) _ _ s
  refine wpAny_bind (wpAny_setField hi hdt (by simp) ?_)
  show wpAny _ _ (newExc (.type "StopIteration") [] >>= _) _ _ _
  refine wpAny_bind ?_
  simp only [newExc, newTuple]
  refine wpAny_bind (wpAny_newObj_type ?_ (by size_fits))
  refine wpAny_bind (m := firstArgMember _ _) (wpAny_of_eq (a := Value.none) (by first | rfl | (simp only [firstArgMember]; rfl)) ?_)
  refine wpAny_newObj_type ?_ (by size_fits)
  unfold raiseNew
  dsimp only
  refine wpAny_bind (wpAny_handled ?_)
  rw [show A.in1.handled = none from hh]
  refine wpAny_bind (wpAny_pure (wpAny_throw ?_))
  refine wpAny_bind (wpAny_isInstance (T := "StopIteration") (b := true) ⟨_, Heap.get?_push_size _ rfl, rfl⟩ isSubtype_stop ?_)
  exact wpAny_pure (hQ _ (((Heap.SameBut.update ..).extBut.push _).push _))
theorem rk_walks (hh : A.handled = none) (I d : Addr) (hne : d ≠ I) (es : Array DictEntry) (ep : Nat) :
    Walks prog w A I [I, d] [I] es.size (fun i v => ∃ e, es[i]? = some e ∧ v = e.key) (fun i h => h.IsKeyIter I d i es.size ep ∧ h.get? d = some (rawD es ep)) where
  sub := fun b hb => by simp at hb; simp [hb]
  frame := fun _ _ _ st hk => ⟨st.1.at fun o e => hk I (by simp) o e, hk d (by simp) _ st.2⟩
  item := fun i s Q E hi st hQ => rk_next st.1 st.2 (Array.getElem?_eq_getElem hi) fun h' hit' hs' =>
    hQ _ h' s.toks ⟨_, Array.getElem?_eq_getElem hi, rfl⟩ ⟨hit', (hs'.2 d hne).trans st.2⟩ fun b o hb e => hs'.extBut b o (fun h => hb (by simp [h])) e
  done := fun s Q E st hQ => rk_end hh st.1 st.2 (by simp) fun h' he' => hQ h' s.toks fun b o hb e => he' b o (fun h => hb (by simp [h])) e
  self := fun _ _ _ _ st hQ => wpAny_pyIter_keyiter st.1 hQ
end
end
section
structure El where
  n : Int
  t : Addr
  q : Addr
  a : Value
  v : Value
noncomputable abbrev elX (l : List El) : List (List Mix × Addr × Value) := l.map fun e => (markK e.n, e.t, Value.ref e.q)
inductive Cp : List El → List (List Mix × Addr × Value) → List (List Mix × Addr × Value) → List Value → List (Addr × Obj) → Prop
  | nil : Cp [] [] [] [] []
  | snoc {l X Y R N} (c : Cp l X Y R N) (e : El) (q : Addr) (o : Obj) (u : Tok) (i : IsLst [e.a, e.v] o) : Cp (l ++ [e]) (X ++ [(markK e.n, e.t, Value.ref q)]) (Y ++ [(markK e.n, e.t, Value.int R.length u)]) (R ++ [Value.ref q]) ((q, o) :: N)
theorem Cp.keys {l X Y R N} (c : Cp l X Y R N) : X.map (fun x => (x.1, x.2.1)) = l.map (fun e => (markK e.n, e.t)) ∧ Y.map (fun x => (x.1, x.2.1)) = l.map (fun e => (markK e.n, e.t)) ∧ X.length = l.length ∧ Y.length = l.length ∧ R.length = l.length := by
  induction c with
  | nil => exact ⟨rfl, rfl, rfl, rfl, rfl⟩
  | snoc c e q o u i ih =>
    obtain ⟨a, b, c1, c2, c3⟩ := ih
    simp only [List.map_append, List.map_cons, List.map_nil, List.length_append, List.length_cons, List.length_nil, a, b, c1, c2, c3, and_self]
theorem atKey_none_of {xs : List (List Mix × Addr × Value)} {k : List Mix} (h : k ∉ xs.map (·.1)) : atKey xs k = none := by
  unfold atKey
  rw [Option.map_eq_none_iff, List.find?_eq_none]
  intro x hx hk
  exact h (List.mem_map.mpr ⟨x, hx, of_decide_eq_true hk⟩)
theorem keysOk_of {ro : List (Addr × Obj)} {l : List El} {X : List (List Mix × Addr × Value)} (k : KeysOk ro (elX l)) {i : Nat} (e : X.map (fun x => (x.1, x.2.1)) = (l.take i).map (fun e => (markK e.n, e.t))) : KeysOk ro X := by
  have e1 : X.map (·.1) = (l.take i).map (fun e => markK e.n) := by
    have := congrArg (List.map Prod.fst) e
    simpa [List.map_map, Function.comp_def] using this
  constructor
  · intro x hx
    have : (x.1, x.2.1) ∈ (l.take i).map (fun e => (markK e.n, e.t)) := by rw [← e]; exact List.mem_map_of_mem hx
    obtain ⟨y, hy, hy'⟩ := List.mem_map.mp this
    obtain ⟨n, u1, u2, ee, a, b⟩ := k.1 (markK y.n, y.t, Value.ref y.q) (List.mem_map.mpr ⟨y, List.mem_of_mem_take hy, rfl⟩)
    injection hy' with h1 h2
    refine ⟨n, u1, u2, ee, ?_, ?_⟩
    · rw [← h1]; exact a
    · rw [← h2]; exact b
  · rw [e1]
    have h2 := k.2
    rw [List.map_map] at h2
    exact (List.Sublist.map _ (List.take_sublist i l)).nodup h2
theorem key_new {ro : List (Addr × Obj)} {l : List El} {X : List (List Mix × Addr × Value)} (k : KeysOk ro (elX l)) {i : Nat} {x : El} (hx : l[i]? = some x) (e : X.map (fun x => (x.1, x.2.1)) = (l.take i).map (fun e => (markK e.n, e.t))) : atKey X (markK x.n) = none := by
  apply atKey_none_of
  have e1 : X.map (·.1) = (l.take i).map (fun e => markK e.n) := by
    have := congrArg (List.map Prod.fst) e
    simpa [List.map_map, Function.comp_def] using this
  rw [e1]
  have h2 := k.2
  rw [List.map_map] at h2
  intro hm
  obtain ⟨y, hy, hy'⟩ := List.mem_map.mp hm
  obtain ⟨j, hj⟩ := List.getElem?_of_mem hy
  rw [List.getElem?_take] at hj
  split at hj
  · rename_i hlt
    have a1 : (l.map (fun e => markK e.n))[j]? = some (markK y.n) := by rw [List.getElem?_map, hj]; rfl
    have a2 : (l.map (fun e => markK e.n))[i]? = some (markK x.n) := by rw [List.getElem?_map, hx]; rfl
    rw [hy'] at a1
    have hl : j < (l.map (fun e => markK e.n)).length := (List.getElem?_eq_some_iff.mp a1).1
    have := (List.getElem?_inj hl h2).mp (a1.trans a2.symm)
    omega
  · cases hj
theorem key_at {l : List El} (k : ((elX l).map (·.1)).Nodup) {i : Nat} {x : El} (hx : l[i]? = some x) : atKey (elX l) (markK x.n) = some (x.t, Value.ref x.q) :=
  atKey_of_get k (i := i) (by rw [List.getElem?_map, hx]; rfl)
end
section
theorem td_nil {prog : Program} {w : World} {o : Obj} (h : o.IsDictOf (intKind prog w) []) : ∃ ep, o = tdOf prog w [] ep := by
  obtain ⟨es, ep, ⟨c1, c2, c3⟩, hd, _, hp, _⟩ := h
  obtain ⟨c, dd, dt, sl⟩ := o
  simp only at c1 c2 c3 hd
  subst c1 c2 c3 hd
  have : es.toList = [] := by
    have := hp.length
    simpa using this
  have e : es = #[] := Array.toList_inj.mp (by simpa using this)
  exact ⟨ep, by rw [e]; rfl⟩
section
variable {prog : Program} {w : World} {A : Around} {E : Value → Shared → Prop} {s : Shared} {env : Env} {h₀ : Heap}
theorem For_invF {Q : Flow → Shared → Prop} {x : Str} {px pos : Pos} {iter : Expr} {body : List Stmt} {m : Str → Option Value} (_F : Fr h₀ env.locals s.heap m) (hx : env.kindOf x = some .local)
    (hp : (env.scope.kind == .class || (env.scope.kind == .module && env.locals != env.globals)) = false)
    (h : wpAny (model prog w) A (eval iter env) (fun xv s₁ => wpAny (model prog w) A (pyIter xv) (fun it s₂ => LoopAtV prog w A h₀ env x body Q E it s₂) E s₁) E s)
    (hs : ∀ x, foldedSetIterable iter env x = pure x) (hE : PassesOwn (model prog w) A env E) : wpAny (model prog w) A (exec (.For (.Name x px) iter body [] pos) env) Q E s :=
  For_invV h₀ hx hp h hs hE
theorem fun_upd {x : Str} {v : Option Value} {m₁ m₀ : Str → Option Value} (h : ∀ z, z ≠ x → m₁ z = m₀ z) : (fun y => if y = x then v else m₁ y) = fun y => if y = x then v else m₀ y := by
  funext y
  by_cases e : y = x
  · simp [e]
  · simp only [if_neg e]; exact h y e
theorem fun_self {x : Str} {m₁ m₀ : Str → Option Value} (h : ∀ z, z ≠ x → m₁ z = m₀ z) : (fun y => if y = x then m₁ y else m₀ y) = m₁ := by
  funext y
  by_cases e : y = x
  · simp [e]
  · simp only [if_neg e]; exact (h y e).symm
inductive TblInv (prog : Program) (w : World) (x : Str) (m₀ : Str → Option Value) (l : List El) (b' pd' ed' : Addr) (base : List (Addr × Obj)) (i : Nat) (m₁ : Str → Option Value) (news₁ : List (Addr × Obj)) : Prop
  | mk (h1 : ∀ z, z ≠ x → m₁ z = m₀ z) (X Y : List (List Mix × Addr × Value)) (R : List Value) (Nn : List (Addr × Obj)) (ex' ey' er' : Nat) (c : Cp (l.take i) X Y R Nn) (e : news₁ = (b', listOf R.toArray er') :: (pd', tdOf prog w Y ey') :: (ed', tdOf prog w X ex') :: (Nn ++ base)) (n3 : ∀ p ∈ Nn, p.1 ≠ b' ∧ p.1 ≠ pd' ∧ p.1 ≠ ed') (nb : ∀ p ∈ Nn, ∀ r ∈ base, r.1 ≠ p.1)
theorem tbl_loop {base : List (Addr × Obj)} {b' pd' ed' ed : Addr} {l : List El} {ex eb ep ee : Nat} {m₀ : Str → Option Value} {x : Str} {body : List Stmt} {Q : Flow → Shared → Prop} (hh : A.handled = none) (F : Fr h₀ env.locals s.heap m₀)
    (N : News h₀ env.locals s.heap ((b', listOf [].toArray eb) :: (pd', tdOf prog w [] ep) :: (ed', tdOf prog w [] ee) :: base)) (me : (ed, tdOf prog w (elX l) ex) ∈ base) (hm : (ed == sysModules) = false)
    (r1 : ∀ p ∈ base, p.1 ≠ b') (r2 : ∀ p ∈ base, p.1 ≠ pd') (r3 : ∀ p ∈ base, p.1 ≠ ed')
    (step : ∀ i e X Y R Nn rest h tk ex' ey' er' (K : Flow → Shared → Prop), l[i]? = some e → Cp (l.take i) X Y R Nn → (∀ p ∈ base, p ∈ rest) → (∀ p ∈ rest, p.1 ≠ b') → (∀ p ∈ rest, p.1 ≠ pd') → (∀ p ∈ rest, p.1 ≠ ed') →
      Fr h₀ env.locals h (fun y => if y = x then some (.ref e.t) else m₀ y) → News h₀ env.locals h ((b', listOf R.toArray er') :: (pd', tdOf prog w Y ey') :: (ed', tdOf prog w X ex') :: rest) →
      (∀ h' tk' q o u ex'' ey'' er'' m₂, IsLst [e.a, e.v] o → (∀ z, z ≠ x → m₂ z = m₀ z) → (∀ p ∈ rest, p.1 ≠ q) → q ≠ b' → q ≠ pd' → q ≠ ed' → Fr h₀ env.locals h' m₂ →
        News h₀ env.locals h' ((b', listOf (R ++ [Value.ref q]).toArray er'') :: (pd', tdOf prog w (Y ++ [(markK e.n, e.t, Value.int R.length u)]) ey'') :: (ed', tdOf prog w (X ++ [(markK e.n, e.t, Value.ref q)]) ex'') :: (q, o) :: rest) → K .next { s with heap := h', toks := tk' }) →
      wpAny (model prog w) A (execs body env) K E { s with heap := h, toks := tk })
    (done : ∀ h' tk X Y R Nn (u : Str → Option Value) ex' ey' er', Cp l X Y R Nn → (∀ p ∈ Nn, ∀ r ∈ base, r.1 ≠ p.1) → Fr h₀ env.locals h' (fun y => if y = x then u y else m₀ y) →
      News h₀ env.locals h' ((b', listOf R.toArray er') :: (pd', tdOf prog w Y ey') :: (ed', tdOf prog w X ex') :: (Nn ++ base)) → Q .next { s with heap := h', toks := tk }) :
    wpAny (model prog w) A (pyIter (.ref ed)) (fun it s₂ => LoopAtV prog w A h₀ env x body Q E it s₂) E s := by
  have mem4 : ∀ {q r t : Addr × Obj} {L : List (Addr × Obj)} {p}, p ∈ L → p ∈ q :: r :: t :: L := fun h => List.mem_cons_of_mem _ (List.mem_cons_of_mem _ (List.mem_cons_of_mem _ h))
  have ge := (N _ (mem4 me))
  have lt : ∀ p ∈ ((b', listOf [].toArray eb) :: (pd', tdOf prog w [] ep) :: (ed', tdOf prog w [] ee) :: base), p.1 < s.heap.objs.size := fun p hp => Heap.lt_size (N p hp).1
  refine rk_iter hm ge.1 ?_
  have hne : ed ≠ s.heap.objs.size := Nat.ne_of_lt (lt _ (mem4 me))
  have W := rk_walks (prog := prog) (w := w) hh s.heap.objs.size ed hne ((elX l).map (entryOfKey (tk prog w))).toArray ex
  have hsz : ((elX l).map (entryOfKey (tk prog w))).toArray.size = l.length := by simp
  let J : Nat → (Str → Option Value) → List (Addr × Obj) → Prop := TblInv prog w x m₀ l b' pd' ed' base
  refine ⟨s.heap.objs.size, _, _, _, _, _, m₀, _, J, rfl, W, ?_, ?_, ?_, ?_, F.push _, (fun p hp => ⟨Heap.get?_push_of_some _ (N p hp).1, (N p hp).2⟩), ⟨fun _ _ => rfl, [], [], [], [], ee, ep, eb, Cp.nil, rfl, (fun _ h => nomatch h), fun _ h => nomatch h⟩, ?_, ?_⟩
  · intro h
    rcases List.mem_cons.mp h with e | h
    · exact absurd F.ns.lt (e ▸ Nat.lt_irrefl _)
    · exact ge.2.1 (List.mem_singleton.mp h).symm
  · intro b hb
    rw [List.mem_singleton.mp hb]
    exact next_is_new F
  · intro p hp hI
    exact absurd (lt p hp) ((List.mem_singleton.mp hI) ▸ Nat.lt_irrefl _)
  · exact ⟨⟨_, Heap.get?_push_size _ rfl, rfl, rfl⟩, Heap.get?_push_of_some _ ge.1⟩
  · rintro i v m₁ news₁ s₁ own ⟨hh', tk', rfl⟩ hin ⟨de, hde, rfl⟩ ⟨hm1, X, Y, R, Nn, ex', ey', er', hC, rfl, hN3, hNb⟩ hoff hown hget hfp hst F₁ N₁
    have hil : i < l.length := by rw [← hsz]; exact hin
    have hle : l[i]? = some l[i] := List.getElem?_eq_getElem hil
    have hkey : de.key = Value.ref l[i].t := by
      have : ((elX l).map (entryOfKey (tk prog w)))[i]? = some de := by simpa using hde
      rw [List.getElem?_map, List.getElem?_map, hle] at this
      simp only [Option.map_some, Option.some.injEq] at this
      rw [← this]; rfl
    rw [hkey, fun_upd hm1] at F₁
    have hownA : ∀ p ∈ own, p.1 = s.heap.objs.size ∨ p.1 = ed := fun p hp => by
      rcases List.mem_cons.mp (hown p hp) with e | h
      · exact .inl e
      · exact .inr (List.mem_singleton.mp h)
    have hofI : ∀ a, (∃ o, (a, o) ∈ ((b', listOf [].toArray eb) :: (pd', tdOf prog w [] ep) :: (ed', tdOf prog w [] ee) :: base)) → a ≠ s.heap.objs.size := fun a ⟨o, ho⟩ => Nat.ne_of_lt (lt _ ho)
    have b1 : b' ≠ s.heap.objs.size := hofI _ ⟨_, List.mem_cons_self ..⟩
    have b2 : pd' ≠ s.heap.objs.size := hofI _ ⟨_, List.mem_cons_of_mem _ (List.mem_cons_self ..)⟩
    have b3 : ed' ≠ s.heap.objs.size := hofI _ ⟨_, List.mem_cons_of_mem _ (List.mem_cons_of_mem _ (List.mem_cons_self ..))⟩
    have mk : ∀ (P : Addr → Prop), (∀ p ∈ Nn, P p.1) → (∀ p ∈ base, P p.1) → P s.heap.objs.size → ∀ p ∈ (Nn ++ base) ++ own, P p.1 := fun P p1 p2 p3 p hp => by
      rcases List.mem_append.mp hp with h | h
      · rcases List.mem_append.mp h with h | h
        · exact p1 p h
        · exact p2 p h
      · rcases hownA p h with e | e
        · rw [e]; exact p3
        · rw [e]; exact p2 _ me
    refine step i l[i] X Y R Nn ((Nn ++ base) ++ own) hh' tk' ex' ey' er' _ hle hC (fun p hp => List.mem_append_left _ (List.mem_append_right _ hp)) (mk (· ≠ b') (fun p hp => (hN3 p hp).1) r1 b1.symm) (mk (· ≠ pd') (fun p hp => (hN3 p hp).2.1) r2 b2.symm) (mk (· ≠ ed') (fun p hp => (hN3 p hp).2.2) r3 b3.symm) F₁ (fun p hp => N₁ p ?_) ?_
    · rcases List.mem_cons.mp hp with e | hp
      · rw [e]; exact List.mem_append_right _ (List.mem_cons_self ..)
      rcases List.mem_cons.mp hp with e | hp
      · rw [e]; exact List.mem_append_right _ (List.mem_cons_of_mem _ (List.mem_cons_self ..))
      rcases List.mem_cons.mp hp with e | hp
      · rw [e]; exact List.mem_append_right _ (List.mem_cons_of_mem _ (List.mem_cons_of_mem _ (List.mem_cons_self ..)))
      rcases List.mem_append.mp hp with h | h
      · exact List.mem_append_right _ (mem4 h)
      · exact List.mem_append_left _ h
    · intro h'' tk'' q o u ex'' ey'' er'' m₂ ho hm2 hqr hq1 hq2 hq3 F₂ N₂
      have hI : q ≠ s.heap.objs.size := by
        have hmI : ∃ oI, (s.heap.objs.size, oI) ∈ own := by
          obtain ⟨⟨oI, hoI, _⟩, _⟩ := hst
          exact ⟨oI, hfp _ (by simp) (next_is_new F) oI hoI⟩
        obtain ⟨oI, hoI⟩ := hmI
        exact (hqr _ (List.mem_append_right _ hoI)).symm
      refine .next ⟨rfl, h'', tk'', m₂, (b', listOf (R ++ [Value.ref q]).toArray er'') :: (pd', tdOf prog w (Y ++ [(markK l[i].n, l[i].t, Value.int R.length u)]) ey'') :: (ed', tdOf prog w (X ++ [(markK l[i].n, l[i].t, Value.ref q)]) ex'') :: (((q, o) :: Nn) ++ base), rfl, F₂, fun p hp => N₂ p ?_, ?_, hm2, X ++ [(markK l[i].n, l[i].t, Value.ref q)], Y ++ [(markK l[i].n, l[i].t, Value.int R.length u)], R ++ [Value.ref q], (q, o) :: Nn, ex'', ey'', er'', ?_, rfl, ?_, ?_⟩
      · rcases List.mem_append.mp hp with h | hp
        · exact mem4 (List.mem_cons_of_mem _ (List.mem_append_right _ h))
        rcases List.mem_cons.mp hp with e | hp
        · rw [e]; exact List.mem_cons_self ..
        rcases List.mem_cons.mp hp with e | hp
        · rw [e]; exact List.mem_cons_of_mem _ (List.mem_cons_self ..)
        rcases List.mem_cons.mp hp with e | hp
        · rw [e]; exact List.mem_cons_of_mem _ (List.mem_cons_of_mem _ (List.mem_cons_self ..))
        refine mem4 ?_
        rcases List.mem_cons.mp hp with e | hp
        · rw [e]; exact List.mem_cons_self ..
        · exact List.mem_cons_of_mem _ (List.mem_append_left _ hp)
      · intro p hp hpI
        have hpe := List.mem_singleton.mp hpI
        rcases List.mem_cons.mp hp with e | hp
        · rw [e] at hpe; exact b1 hpe
        rcases List.mem_cons.mp hp with e | hp
        · rw [e] at hpe; exact b2 hpe
        rcases List.mem_cons.mp hp with e | hp
        · rw [e] at hpe; exact b3 hpe
        rcases List.mem_cons.mp hp with e | hp
        · rw [e] at hpe; exact hI hpe
        exact hoff p (mem4 hp) (List.mem_singleton.mpr hpe)
      · rw [List.take_add_one, hle]
        exact hC.snoc l[i] q o u ho
      · intro p hp
        rcases List.mem_cons.mp hp with e | hp
        · rw [e]; exact ⟨hq1, hq2, hq3⟩
        · exact hN3 p hp
      · intro p hp r hr
        rcases List.mem_cons.mp hp with e | hp
        · rw [e]; exact hqr r (List.mem_append_left _ (List.mem_append_right _ hr))
        · exact hNb p hp r hr
  · rintro h' tk' m₁ news₁ F₁ N₁ _ ⟨hm1, X, Y, R, Nn, ex', ey', er', hC, rfl, _, hNb⟩
    rw [hsz, List.take_length] at hC
    exact done h' tk' X Y R Nn m₁ ex' ey' er' hC hNb (by rw [fun_self hm1]; exact F₁) N₁
end
theorem put_after {h₀ h h' : Heap} {L q b' pd' ed' : Addr} {o B P D B' P' D' : Obj} {rest : List (Addr × Obj)} (N : News h₀ L h ((q, o) :: (b', B) :: (pd', P) :: (ed', D) :: rest)) (k : GSub h h' [ed', pd', b']) (q1 : q ≠ ed') (q2 : q ≠ pd') (q3 : q ≠ b') (r1 : ∀ p ∈ rest, p.1 ≠ b') (r2 : ∀ p ∈ rest, p.1 ≠ pd') (r3 : ∀ p ∈ rest, p.1 ≠ ed') (g1 : h'.get? ed' = some D') (g2 : h'.get? pd' = some P') (g3 : h'.get? b' = some B') :
    News h₀ L h' ((b', B') :: (pd', P') :: (ed', D') :: (q, o) :: rest) := by
  have off : ∀ a, a ≠ ed' → a ≠ pd' → a ≠ b' → a ∉ [ed', pd', b'] := fun a h1 h2 h3 hm => by
    rcases List.mem_cons.mp hm with e | hm
    · exact h1 e
    rcases List.mem_cons.mp hm with e | hm
    · exact h2 e
    exact h3 (List.mem_singleton.mp hm)
  intro p hp
  rcases List.mem_cons.mp hp with e | hp
  · rw [e]; exact ⟨g3, (N (b', B) (List.mem_cons_of_mem _ (List.mem_cons_self ..))).2⟩
  rcases List.mem_cons.mp hp with e | hp
  · rw [e]; exact ⟨g2, (N (pd', P) (List.mem_cons_of_mem _ (List.mem_cons_of_mem _ (List.mem_cons_self ..)))).2⟩
  rcases List.mem_cons.mp hp with e | hp
  · rw [e]; exact ⟨g1, (N (ed', D) (List.mem_cons_of_mem _ (List.mem_cons_of_mem _ (List.mem_cons_of_mem _ (List.mem_cons_self ..))))).2⟩
  rcases List.mem_cons.mp hp with e | hp
  · rw [e]
    have z := N (q, o) (List.mem_cons_self ..)
    exact ⟨k _ _ z.1 (off _ q1 q2 q3), z.2⟩
  · have z := N p (List.mem_cons_of_mem _ (List.mem_cons_of_mem _ (List.mem_cons_of_mem _ (List.mem_cons_of_mem _ hp))))
    exact ⟨k _ _ z.1 (off _ (r3 p hp) (r2 p hp) (r1 p hp)), z.2⟩
theorem put_before {h₀ h : Heap} {L : Addr} {q b p' e : Addr × Obj} {rest : List (Addr × Obj)} (N : News h₀ L h (q :: b :: p' :: e :: rest)) : News h₀ L h ([e, p', b] ++ (q :: rest)) := fun p hp => N p (by
  simp only [List.cons_append, List.nil_append, List.mem_cons] at hp ⊢
  rcases hp with h | h | h | h | h
  · exact .inr (.inr (.inr (.inl h)))
  · exact .inr (.inr (.inl h))
  · exact .inr (.inl h)
  · exact .inl h
  · exact .inr (.inr (.inr (.inr h))))
inductive TabP (w : World) (l : List El) (num : Int) (h : Heap) (r : Value) (h' : Heap) : Prop
  | mk (x' d' ed' pd' b' : Addr) (o2' : Obj) (X Y : List (List Mix × Addr × Value)) (R : List Value) (N : List (Addr × Obj)) (ex' ey' er' : Nat) (e : r = .ref x') (fx : Fresh h h' x' (instObj 227 d')) (ia : IsTab w num ed' pd' b' o2') (fd : Fresh h h' d' o2') (c : Cp l X Y R N) (fe : Fresh h h' ed' (tdOf PW w X ex')) (fp : Fresh h h' pd' (tdOf PW w Y ey')) (fb : Fresh h h' b' (listOf R.toArray er')) (fN : ∀ p ∈ N, Fresh h h' p.1 p.2)
theorem tab_done {w : World} {h g h' : Heap} {L' b' pd' ed' x' dd : Addr} {num : Int} {o2' : Obj} {l : List El} {X Y : List (List Mix × Addr × Value)} {R : List Value} {Nn ro : List (Addr × Obj)} {ex ey er : Nat} (k : GSub h g (ro.map (·.1)))
    (N : News g L' h' ((b', listOf R.toArray er) :: (pd', tdOf PW w Y ey) :: (ed', tdOf PW w X ex) :: (Nn ++ ((x', instObj 227 dd) :: (dd, o2') :: ro)))) (hC : Cp l X Y R Nn) (hNb : ∀ p ∈ Nn, ∀ r ∈ ((x', instObj 227 dd) :: (dd, o2') :: ro), r.1 ≠ p.1) (it : IsTab w num ed' pd' b' o2')
    (a1 : ∀ p ∈ ro, p.1 ≠ b') (a2 : ∀ p ∈ ro, p.1 ≠ pd') (a3 : ∀ p ∈ ro, p.1 ≠ ed') (a4 : ∀ p ∈ ro, p.1 ≠ x') (a5 : ∀ p ∈ ro, p.1 ≠ dd) :
    TabP w l num h (.ref x') h' := by
  have fr : ∀ a o, (a, o) ∈ ((b', listOf R.toArray er) :: (pd', tdOf PW w Y ey) :: (ed', tdOf PW w X ex) :: (Nn ++ ((x', instObj 227 dd) :: (dd, o2') :: ro))) → (∀ p ∈ ro, p.1 ≠ a) → Fresh h h' a o := fun a o hm hn => fresh_of k N hm fun hb => by
    obtain ⟨p, hp, e⟩ := List.mem_map.mp hb
    exact hn p hp e
  have m3 : ∀ {q r t p : Addr × Obj} {M : List (Addr × Obj)}, p ∈ M → p ∈ q :: r :: t :: M := fun h => List.mem_cons_of_mem _ (List.mem_cons_of_mem _ (List.mem_cons_of_mem _ h))
  refine ⟨x', dd, ed', pd', b', o2', X, Y, R, Nn, ex, ey, er, rfl, fr _ _ (m3 (List.mem_append_right _ (List.mem_cons_self ..))) a4, it, fr _ _ (m3 (List.mem_append_right _ (List.mem_cons_of_mem _ (List.mem_cons_self ..)))) a5, hC, fr _ _ (List.mem_cons_of_mem _ (List.mem_cons_of_mem _ (List.mem_cons_self ..))) a3, fr _ _ (List.mem_cons_of_mem _ (List.mem_cons_self ..)) a2, fr _ _ (List.mem_cons_self ..) a1, fun p hp => fr _ _ (m3 (List.mem_append_left _ hp)) fun r hr => hNb p hp r (List.mem_cons_of_mem _ (List.mem_cons_of_mem _ hr))⟩
end
local macro_rules | `(tactic| walk_at "t_mm") => `(tactic| with_reducible first | assumption | exact List.mem_cons_self .. | (refine List.mem_cons_of_mem _ ?_; walk_at "t_mm") | (refine List.mem_append_left _ ?_; walk_at "t_mm") | (refine List.mem_append_right _ ?_; walk_at "t_mm"))
local macro_rules | `(tactic| walk_at "t_sub") => `(tactic| with_reducible first | exact sb_nil | exact sb_refl | (refine sb_cons ?_ ?_; walk_at "t_mm"; walk_at "t_sub") | (refine sb_app ?_ ?_; walk_at "t_sub"; walk_at "t_sub") | assumption | (refine sb_skip ?_; walk_at "t_sub") | (refine sb_left ?_; walk_at "t_sub") | (refine sb_right ?_; walk_at "t_sub"))
section
section
variable {prog : Program} {w : World} {A : Around} {E : Value → Shared → Prop} {s : Shared} {env : Env} {h₀ : Heap}
theorem one_loop {news : List (Addr × Obj)} {c : Nat} {t : Tok} {m₀ : Str → Option Value} {x : Str} {body : List Stmt} {Q : Flow → Shared → Prop} (hh : A.handled = none) (F : Fr h₀ env.locals s.heap m₀) (N : News h₀ env.locals s.heap news) (J : (Str → Option Value) → Prop)
    (step : ∀ h tk rest u (K : Flow → Shared → Prop), (∀ p ∈ news, p ∈ rest) → Fr h₀ env.locals h (fun y => if y = x then some (.str ⟨#[c]⟩ u) else m₀ y) → News h₀ env.locals h rest →
      (∀ h' tk' m₂, J m₂ → Fr h₀ env.locals h' m₂ → News h₀ env.locals h' rest → K .next { s with heap := h', toks := tk' }) → wpAny (model prog w) A (execs body env) K E { s with heap := h, toks := tk })
    (done : ∀ h' tk m₁, J m₁ → Fr h₀ env.locals h' m₁ → News h₀ env.locals h' news → Q .next { s with heap := h', toks := tk }) :
    wpAny (model prog w) A (pyIter (.str ⟨#[c]⟩ t)) (fun it s₂ => LoopAtV prog w A h₀ env x body Q E it s₂) E s := by
  refine wpAny_pyIter_str fun o St W hSt => ?_
  have lt : ∀ p ∈ news, p.1 ≠ s.heap.objs.size := fun p hp => Nat.ne_of_lt (Heap.lt_size (N p hp).1)
  refine ⟨s.heap.objs.size, [s.heap.objs.size], [s.heap.objs.size], 1, _, _, m₀, news, fun i m₁ news₁ => news₁ = news ∧ (i = 0 → m₁ = m₀) ∧ (i = 1 → J m₁), rfl, W A hh, ?_, ?_, ?_, hSt, F.push _, (fun p hp => ⟨Heap.get?_push_of_some _ (N p hp).1, (N p hp).2⟩), ⟨rfl, fun _ => rfl, fun h => by cases h⟩, ?_, ?_⟩
  · intro h
    exact absurd F.ns.lt ((List.mem_singleton.mp h) ▸ Nat.lt_irrefl _)
  · intro b hb
    rw [List.mem_singleton.mp hb]
    exact next_is_new F
  · intro p hp hI
    exact lt p hp (List.mem_singleton.mp hI)
  · rintro i v m₁ news₁ s₁ own ⟨hh', tk', rfl⟩ hin ⟨cc, u, hc, rfl⟩ ⟨rfl, hm0, _⟩ hoff _ _ _ _ F₁ N₁
    have hi : i = 0 := Nat.lt_one_iff.mp hin
    subst hi
    rw [hm0 rfl] at F₁
    have hcc : cc = c := by simpa using hc.symm
    subst hcc
    refine step hh' tk' (own ++ news₁) u _ (fun p hp => List.mem_append_right _ hp) F₁ N₁ ?_
    intro h'' tk'' m₂ hJ F₂ N₂
    exact .next ⟨rfl, h'', tk'', m₂, news₁, rfl, F₂, N₂, hoff, rfl, (fun h => by cases h), fun _ => hJ⟩
  · rintro h' tk' m₁ news₁ F₁ N₁ _ ⟨rfl, _, hJ⟩
    exact done h' tk' m₁ (hJ rfl) F₁ N₁
theorem in_lit {x y : Str} {t u : Tok} {b : Bool} {Q : Value → Shared → Prop} (e : (!(Builtin.Str.occurrences x y 0 x.length 1).isEmpty) = b) (h : Q (.bool b) s) : wpAny (model prog w) A (compareOp .In (.str y u) (.str x t)) Q E s :=
  in_str (by rw [e]; exact h)
theorem le_lit {x y : Str} {t u : Tok} {b : Bool} {Q : Value → Shared → Prop} (e : (!(decide (y.cps.toList < x.cps.toList))) = b) (h : Q (.bool b) s) : wpAny (model prog w) A (compareOp .LtE (.str x t) (.str y u)) Q E s :=
  PySem.P.le_str (by rw [e]; exact h)
end
theorem fresh_news {g h h' : Heap} {L a : Addr} {m : Str → Option Value} {o : Obj} {ns : List (Addr × Obj)} (F : Fr g L h m) (N : News g L h' ns) (f : Fresh h h' a o) : News g L h' ((a, o) :: ns) := fun p hp => by
  rcases List.mem_cons.mp hp with e | hp
  · rw [e]
    obtain ⟨oL, _, _, hL, _⟩ := F.ns
    refine ⟨f.2, fun h => ?_, ?_⟩
    · simp only at h
      have q := f.1
      rw [h, hL] at q
      cases q
    · cases q : g.get? a with
      | none => rfl
      | some x =>
        have := F.keep a x q
        rw [f.1] at this
        cases this
  · exact N p hp
theorem fresh_ne {h h' : Heap} {a b : Addr} {o x : Obj} (f : Fresh h h' a o) (e : h.get? b = some x) : a ≠ b := fun h => by
  have q := f.1
  rw [h, e] at q
  cases q
theorem pull8 {h₀ h : Heap} {L : Addr} {a b c d e f g i x : Addr × Obj} {rest : List (Addr × Obj)} (N : News h₀ L h (a :: b :: c :: d :: e :: f :: g :: i :: x :: rest)) : News h₀ L h (x :: a :: b :: c :: d :: e :: f :: g :: i :: rest) := fun p hp => N p (sb_use hp (by walk_at "t_sub"))
theorem off3 {a x y z : Addr} (h1 : a ≠ x) (h2 : a ≠ y) (h3 : a ≠ z) : a ∉ [x, y, z] := fun hm => by
  rcases List.mem_cons.mp hm with e | hm
  · exact h1 e
  rcases List.mem_cons.mp hm with e | hm
  · exact h2 e
  exact h3 (List.mem_singleton.mp hm)
theorem pull6 {h₀ h : Heap} {L : Addr} {a b c d e f x : Addr × Obj} {rest : List (Addr × Obj)} (N : News h₀ L h (a :: b :: c :: d :: e :: f :: x :: rest)) : News h₀ L h (x :: a :: b :: c :: d :: e :: f :: rest) := fun p hp => N p (sb_use hp (by walk_at "t_sub"))
theorem pull4x3 {h₀ h : Heap} {L : Addr} {a b c d x y z : Addr × Obj} {rest : List (Addr × Obj)} (N : News h₀ L h (a :: b :: c :: d :: x :: y :: z :: rest)) : News h₀ L h ([x, y, z] ++ (a :: b :: c :: d :: rest)) := fun p hp => N p (sb_use hp (by walk_at "t_sub"))
theorem three_after {h₀ h h' : Heap} {L a b c : Addr} {o1 o2 o3 p1 p2 p3 : Obj} {ro : List (Addr × Obj)} (N : News h₀ L h ([(a, o1), (b, o2), (c, o3)] ++ ro)) (k : GSub h h' [a, b, c]) (r1 : ∀ p ∈ ro, p.1 ≠ a) (r2 : ∀ p ∈ ro, p.1 ≠ b) (r3 : ∀ p ∈ ro, p.1 ≠ c) (g1 : h'.get? a = some p1) (g2 : h'.get? b = some p2) (g3 : h'.get? c = some p3) : News h₀ L h' ((a, p1) :: (b, p2) :: (c, p3) :: ro) :=
  News.after (tp := [(a, o1), (b, o2), (c, o3)]) (tp' := [(a, p1), (b, p2), (c, p3)]) N k (fun p hp => off3 (r1 p hp) (r2 p hp) (r3 p hp)) rfl (fun p hp => by
    rcases List.mem_cons.mp hp with e | hp
    · rw [e]; exact g1
    rcases List.mem_cons.mp hp with e | hp
    · rw [e]; exact g2
    · rw [List.mem_singleton.mp hp]; exact g3)
theorem atKey_last {xs : List (List Mix × Addr × Value)} {k : List Mix} {t : Addr} {v : Value} (h : atKey xs k = none) : atKey (xs ++ [(k, t, v)]) k = some (t, v) := by
  unfold atKey at h ⊢
  rw [Option.map_eq_none_iff] at h
  rw [List.find?_append, h]
  simp
theorem keysOk_last {ro : List (Addr × Obj)} {xs : List (List Mix × Addr × Value)} {n : Int} {t : Addr} {v : Value} {u1 u2 : Tok} {e : Nat} (k : KeysOk ro xs) (h : atKey xs (markK n) = none) (m : (t, tup [.str "INTEGER" u1, .int n u2] e) ∈ ro) : KeysOk ro (xs ++ [(markK n, t, v)]) := by
  refine ⟨fun x hx => ?_, ?_⟩
  · rcases List.mem_append.mp hx with h1 | h1
    · exact k.1 x h1
    · rw [List.mem_singleton.mp h1]; exact ⟨n, u1, u2, e, rfl, m⟩
  · rw [List.map_append, List.nodup_append]
    refine ⟨k.2, by simp, fun a ha b hb hab => ?_⟩
    simp only [List.map_cons, List.map_nil, List.mem_singleton] at hb
    subst hb
    subst hab
    obtain ⟨x, hx, e⟩ := List.mem_map.mp ha
    unfold atKey at h
    rw [Option.map_eq_none_iff, List.find?_eq_none] at h
    exact h x hx (by simp [e])
theorem last_of {w : World} {h₀ h : Heap} {L ed pd b t : Addr} {xs ys : List (List Mix × Addr × Value)} {v v2 : Value} {ex ey : Nat} {n : Int} {o3 : Obj} {rest : List (Addr × Obj)} (_N : News h₀ L h ((ed, tdOf PW w (xs ++ [(markK n, t, v)]) ex) :: (pd, tdOf PW w (ys ++ [(markK n, t, v2)]) ey) :: (b, o3) :: rest)) (hx : atKey xs (markK n) = none) (hy : atKey ys (markK n) = none) (kx : KeysOk rest xs) (ky : KeysOk rest ys) {u1 u2 : Tok} {e : Nat} (m : (t, tup [.str "INTEGER" u1, .int n u2] e) ∈ rest) :
    atKey (xs ++ [(markK n, t, v)]) (markK n) = some (t, v) ∧ atKey (ys ++ [(markK n, t, v2)]) (markK n) = some (t, v2) ∧ KeysOk rest (xs ++ [(markK n, t, v)]) ∧ KeysOk rest (ys ++ [(markK n, t, v2)]) :=
  ⟨atKey_last hx, atKey_last hy, keysOk_last kx hx m, keysOk_last ky hy m⟩
theorem name2 {h₀ h : Heap} {L : Addr} {q t : Addr × Obj} {rest : List (Addr × Obj)} (_N : News h₀ L h (q :: t :: rest)) : ∃ q' t' : Addr, q' = q.1 ∧ t' = t.1 := ⟨_, _, rfl, rfl⟩
theorem off_tp {a ed pd b : Addr} {ro : List (Addr × Obj)} {o1 o2 o3 : Obj} (h1 : @LT.lt Nat instLTNat ed a) (h2 : @LT.lt Nat instLTNat pd a) (h3 : @LT.lt Nat instLTNat b a) (h4 : ∀ p ∈ ro, @LT.lt Nat instLTNat p.1 a) : a ∉ ((ed, o1) :: (pd, o2) :: (b, o3) :: ro).map (·.1) := fun hm => by
  rcases List.mem_cons.mp hm with e | hm
  · exact Nat.ne_of_gt h1 e
  rcases List.mem_cons.mp hm with e | hm
  · exact Nat.ne_of_gt h2 e
  rcases List.mem_cons.mp hm with e | hm
  · exact Nat.ne_of_gt h3 e
  obtain ⟨p, hp, e⟩ := List.mem_map.mp hm
  exact Nat.ne_of_lt (h4 p hp) e
theorem off_news {h₀ h h1 : Heap} {L t : Addr} {o : Obj} {K l : List (Addr × Obj)} (N : News h₀ L h K) (f : Fresh h h1 t o) (s : ∀ p ∈ l, p ∈ K) : t ∉ l.map (·.1) := fun hm => by
  obtain ⟨p, hp, e⟩ := List.mem_map.mp hm
  exact fresh_ne f (N p (s p hp)).1 e.symm
end
section
noncomputable def lawDef : Stmt := match PW.main.body.getLast? with | some x => x | none => .Pass ⟨0, 0, 0, 0⟩
noncomputable def lawStmts : List Stmt := match lawDef with | .FunctionDef _ _ b _ _ _ _ _ _ _ => b | _ => []
noncomputable def lawScope : Scope := match lawDef with | .FunctionDef _ _ _ _ _ _ s _ _ _ => s | _ => { kind := .module, names := [], isGenerator := false, isCoroutine := false, more := [] }
noncomputable def turnBody : List Stmt := match lawStmts with | _ :: _ :: _ :: _ :: .For _ _ b _ _ :: _ => b | _ => []
noncomputable def tailStmts : List Stmt := match lawStmts with | _ :: _ :: _ :: _ :: _ :: b => b | _ => []
noncomputable def checkBody : List Stmt := match turnBody with | _ :: _ :: .For _ _ b _ _ :: _ => b | _ => []
noncomputable def endBody : List Stmt := match tailStmts with | .For _ _ b _ _ :: _ => b | _ => []
structure HR where
  kd : Nat
  x : Addr
  num : Int
  vs : List Value
  cs : List (Addr × Obj)
noncomputable def kRef (k : Nat) : Str := if k = 2 then "field" else "item"
noncomputable def kWord (k : Nat) : Str := if k = 0 then "ARRAY" else if k = 1 then "TABLE" else "CELL"
abbrev FX := List (Addr × Obj)
noncomputable def plY (e0 e1 e2 : El) (u0 u1 u2 : Tok) : List (List Mix × Addr × Value) := [(markK e0.n, e0.t, Value.int 0 u0), (markK e1.n, e1.t, Value.int 1 u1), (markK e2.n, e2.t, Value.int 2 u2)]
section
variable (w : World)
inductive ArrHd (F : FX) (num : Int) (x b : Addr) : Prop
  | mk (d : Addr) (o2 : Obj) (bl : Addr) (o3 : Obj) (bt : Addr) (o4 : Obj) (u1 u2 : Tok) (m1 : (x, instObj 208 d) ∈ F) (i : IsArr w num bl b o2) (m2 : (d, o2) ∈ F) (i3 : IsLst [.ref bt] o3) (m3 : (bl, o3) ∈ F) (i4 : IsTp [.int 1 u1, .int 3 u2] o4) (m4 : (bt, o4) ∈ F)
inductive DatHd (F : FX) (num : Int) (x b : Addr) : Prop
  | mk (d : Addr) (o2 : Obj) (fl : Addr) (o3 : Obj) (u1 u2 u3 : Tok) (m1 : (x, instObj 246 d) ∈ F) (i : IsDat w num fl b o2) (m2 : (d, o2) ∈ F) (i3 : IsLst [.str "A" u1, .str "B" u2, .str "C" u3] o3) (m3 : (fl, o3) ∈ F)
inductive TabHd (F : FX) (num : Int) (x : Addr) (e0 e1 e2 : El) : Prop
  | mk (d : Addr) (o2 : Obj) (ed pd b : Addr) (ex ey er : Nat) (u0 u1 u2 a0 a1 a2 : Tok) (m1 : (x, instObj 227 d) ∈ F) (i : IsTab w num ed pd b o2) (m2 : (d, o2) ∈ F) (m3 : (ed, tdOf PW w (elX [e0, e1, e2]) ex) ∈ F) (m4 : (pd, tdOf PW w (plY e0 e1 e2 u0 u1 u2) ey) ∈ F) (m5 : (b, listOf [.ref e0.q, .ref e1.q, .ref e2.q].toArray er) ∈ F) (k : KeysOk F (elX [e0, e1, e2])) (q0 : e0.n = 1) (q1 : e1.n = 2) (q2 : e2.n = 3) (z0 : e0.a = .int 1 a0) (z1 : e1.a = .int 2 a1) (z2 : e2.a = .int 3 a2)
inductive HolOk (F : FX) (H : HR) : Prop
  | arr (k : H.kd = 0) (b : Addr) (o : Obj) (v0 v1 v2 : Value) (a : ArrHd w F H.num H.x b) (hv : H.vs = [v0, v1, v2]) (il : IsLst [v0, v1, v2] o) (hc : H.cs = [(b, o)])
  | tbl (k : H.kd = 1) (e0 e1 e2 : El) (o0 o1 o2 : Obj) (a : TabHd w F H.num H.x e0 e1 e2) (hv : H.vs = [e0.v, e1.v, e2.v]) (il0 : IsLst [e0.a, e0.v] o0) (il1 : IsLst [e1.a, e1.v] o1) (il2 : IsLst [e2.a, e2.v] o2) (hc : H.cs = [(e0.q, o0), (e1.q, o1), (e2.q, o2)])
  | dat (k : H.kd = 2) (b : Addr) (o : Obj) (v0 v1 v2 : Value) (a : DatHd w F H.num H.x b) (hv : H.vs = [v0, v1, v2]) (il : IsLst [v0, v1, v2] o) (hc : H.cs = [(b, o)])
noncomputable def HeadOk (F : FX) (x : Addr) (num : Int) : Prop := ∃ d o2, (d, o2) ∈ F ∧ (((x, instObj 208 d) ∈ F ∧ ∃ bl b, IsArr w num bl b o2) ∨ ((x, instObj 227 d) ∈ F ∧ ∃ ed pd b, IsTab w num ed pd b o2) ∨ ((x, instObj 246 d) ∈ F ∧ ∃ fl b, IsDat w num fl b o2))
noncomputable def RefOk (F : FX) (kd : Nat) (x : Addr) (j : Int) (r : Value) : Prop := ∃ x' d' o1, r = .ref x' ∧ (x', instObj 117 d') ∈ F ∧ (d', o1) ∈ F ∧ IsName w (kRef kd) x j o1
noncomputable def numD (k : Int) : PyData := .tuple [.str "number", .int k]
noncomputable def ValOk (F : FX) (v : Value) (sv : PyData) : Prop := (∃ t, v = .str "" t ∧ sv = .str "") ∨ (∃ k t, v = .int k t ∧ sv = .int k) ∨ ∃ x num, v = .ref x ∧ HeadOk w F x num ∧ sv = numD num
end
noncomputable def ShOk (F : FX) (r : Value) (sv : PyData) : Prop := (∃ t, r = .str "" t ∧ sv = .str "") ∨ (∃ k t, r = .int k t ∧ sv = .int k) ∨ ∃ t o u1 u2 k, r = .ref t ∧ (t, o) ∈ F ∧ IsTp [.str "number" u1, .int k u2] o ∧ sv = numD k
section
variable {w : World} {F F' : FX}
theorem ArrHd.mono {num : Int} {x b : Addr} (s : ∀ p ∈ F, p ∈ F') : ArrHd w F num x b → ArrHd w F' num x b := fun ⟨d, o2, bl, o3, bt, o4, u1, u2, a, b, c, e, f, g, i⟩ => ⟨d, o2, bl, o3, bt, o4, u1, u2, s _ a, b, s _ c, e, s _ f, g, s _ i⟩
theorem DatHd.mono {num : Int} {x b : Addr} (s : ∀ p ∈ F, p ∈ F') : DatHd w F num x b → DatHd w F' num x b := fun ⟨d, o2, fl, o3, u1, u2, u3, a, b, c, e, f⟩ => ⟨d, o2, fl, o3, u1, u2, u3, s _ a, b, s _ c, e, s _ f⟩
theorem TabHd.mono {num : Int} {x : Addr} {e0 e1 e2 : El} (s : ∀ p ∈ F, p ∈ F') : TabHd w F num x e0 e1 e2 → TabHd w F' num x e0 e1 e2 := fun h => by
  obtain ⟨d, o2, ed, pd, b, ex, ey, er, u0, u1, u2, a0, a1, a2, m1, i, m2, m3, m4, m5, k, q0, q1, q2, z0, z1, z2⟩ := h
  exact ⟨d, o2, ed, pd, b, ex, ey, er, u0, u1, u2, a0, a1, a2, s _ m1, i, s _ m2, s _ m3, s _ m4, s _ m5, k.mono s, q0, q1, q2, z0, z1, z2⟩
theorem TabHd.like {num : Int} {x : Addr} {e0 e1 e2 : El} (h : TabHd w F num x e0 e1 e2) (v0 v1 v2 : Value) : TabHd w F num x { e0 with v := v0 } { e1 with v := v1 } { e2 with v := v2 } := by
  obtain ⟨d, o2, ed, pd, b, ex, ey, er, u0, u1, u2, a0, a1, a2, m1, i, m2, m3, m4, m5, k, q0, q1, q2, z0, z1, z2⟩ := h
  exact ⟨d, o2, ed, pd, b, ex, ey, er, u0, u1, u2, a0, a1, a2, m1, i, m2, m3, m4, m5, k, q0, q1, q2, z0, z1, z2⟩
theorem HolOk.mono {H : HR} (s : ∀ p ∈ F, p ∈ F') : HolOk w F H → HolOk w F' H := fun h => by
  rcases h with ⟨k, b, o, v0, v1, v2, a, r, q, c⟩ | ⟨k, e0, e1, e2, o0, o1, o2, a, r, q0, q1, q2, c⟩ | ⟨k, b, o, v0, v1, v2, a, r, q, c⟩
  · exact .arr k b o v0 v1 v2 (a.mono s) r q c
  · exact .tbl k e0 e1 e2 o0 o1 o2 (a.mono s) r q0 q1 q2 c
  · exact .dat k b o v0 v1 v2 (a.mono s) r q c
theorem HeadOk.mono {x : Addr} {num : Int} (s : ∀ p ∈ F, p ∈ F') : HeadOk w F x num → HeadOk w F' x num := fun ⟨d, o2, m, h⟩ => ⟨d, o2, s _ m, by
  rcases h with ⟨a, b⟩ | ⟨a, b⟩ | ⟨a, b⟩
  · exact .inl ⟨s _ a, b⟩
  · exact .inr (.inl ⟨s _ a, b⟩)
  · exact .inr (.inr ⟨s _ a, b⟩)⟩
theorem HolOk.head {H : HR} (h : HolOk w F H) : HeadOk w F H.x H.num := by
  rcases h with ⟨k, b, o, v0, v1, v2, ⟨d, o2, bl, o3, bt, o4, u1, u2, m1, i, m2, _⟩⟩ | ⟨k, e0, e1, e2, o0, o1, o2, ⟨d, o2', ed, pd, b, ex, ey, er, u0, u1, u2, a0, a1, a2, m1, i, m2, _⟩⟩ | ⟨k, b, o, v0, v1, v2, ⟨d, o2, fl, o3, u1, u2, u3, m1, i, m2, _⟩⟩
  · exact ⟨d, o2, m2, .inl ⟨m1, _, _, i⟩⟩
  · exact ⟨d, o2', m2, .inr (.inl ⟨m1, _, _, _, i⟩)⟩
  · exact ⟨d, o2, m2, .inr (.inr ⟨m1, _, _, i⟩)⟩
theorem RefOk.mono {kd : Nat} {x : Addr} {j : Int} {r : Value} (s : ∀ p ∈ F, p ∈ F') : RefOk w F kd x j r → RefOk w F' kd x j r := fun ⟨x', d', o1, e, a, b, c⟩ => ⟨x', d', o1, e, s _ a, s _ b, c⟩
theorem ValOk.mono {v : Value} {sv : PyData} (s : ∀ p ∈ F, p ∈ F') : ValOk w F v sv → ValOk w F' v sv := fun h => by
  rcases h with h | h | ⟨x, num, a, b, c⟩
  · exact .inl h
  · exact .inr (.inl h)
  · exact .inr (.inr ⟨x, num, a, b.mono s, c⟩)
theorem ShOk.mono {r : Value} {sv : PyData} (s : ∀ p ∈ F, p ∈ F') : ShOk F r sv → ShOk F' r sv := fun h => by
  rcases h with h | h | ⟨t, o, u1, u2, k, a, b, c⟩
  · exact .inl h
  · exact .inr (.inl h)
  · exact .inr (.inr ⟨t, o, u1, u2, k, a, s _ b, c⟩)
end
end
theorem kfill_all : PySem.Challenge.rw_sj0193_01 = PySem.Challenge.rw_sj0193_01 ∧ hd.heap_1 = hd.heap_1 := by
  k_fill
  exact ⟨rfl, rfl⟩
local macro_rules | `(tactic| k_enter) => `(tactic| ((fail_if_success (rename GSub _ _ _ => kGx)); (refine' code_defG ?k1 ?k2 ?k3 ?k4 ?k5 ?kA ?kF ?kK ?k6 ?k7 ?k8 ?k9 ?kB ?_ ?c2 ?c3 ?c4 ?c5; (case kA | kF => exact rfl); (case kK => assumption); (case k1 | k2 | k3 | k4 | k5 => k_asm); (case k6 | k7 => k_is); (case k8 => ktr_room); (case k9 => exact BindsTo.of_eq rfl); (case c5 => decide); (case kB => exact locs rfl); (case c2 | c3 | c4 => exact rfl); k_whole; intro g' L' h' FG' F' N' B' X' T' kG'; (try dsimp only); (refine let_fr F' ?_); clear F'; intro mk F'; (try k_fold))))
set_option hygiene false in
local macro_rules | `(tactic| walk_at "execs cons") => `(tactic| (k_here; refine' tk_gen (s := s) ?_; intro tk; (with_reducible refine wpAny_execs_cons ?_); (try dsimp only)))
set_option hygiene false in
local macro_rules | `(tactic| walk_at "t_start") => `(tactic| ((first | refine Tell.intro ?_ | refine TellU.intro ?_ | refine TellD.intro ?_); intro mean mg mb gd cn cs a ccd cl outer A₀ base h₀ L m s Q E B F X T hk N hret; simp only [List.cons_append, List.nil_append] at N; refine wpAny_call ?_; k_dflt k_enter))
set_option hygiene false in
local macro_rules | `(tactic| walk_at "t_startC") => `(tactic| ((first | refine Tell.intro ?_ | refine TellU.intro ?_ | refine TellD.intro ?_); intro mean mg mb gd cn cs a ccd cl outer A₀ base h₀ L m s Q E B F X T hk N hret; simp only [List.cons_append, List.nil_append] at N))
local macro_rules | `(tactic| walk_at "t_ro") => `(tactic| (intro p hp; repeat (first | exact hp | refine List.mem_cons_of_mem _ ?_)))
local macro_rules | `(tactic| walk_at "t_mem") => `(tactic| first | exact List.mem_cons_self .. | (refine List.mem_cons_of_mem _ ?_; walk_at "t_mem") | assumption)
local macro_rules | `(tactic| walk_at "t_at") => `(tactic| exact News.get (by assumption) (by walk_at "t_mem"))
local macro_rules | `(tactic| walk_at "subscriptTail") => `(tactic| (k_here; (with_reducible show wpAny _ _ (subscriptTail _ _ (Value.ref _) (Value.int _ _)) _ _ _); k_dflt (refine' item_listL ?a ?b ?c ?d ?_ ?e ?f; (case a => first | is_list | exact PySem.IsL.isList (News.get (by assumption) (by first | assumption | walk_at "t_mem"))); (case b => first | assumption | omega); (case c => omega); (case d => first | assumption | (simp only [List.getElem?_map]; first | assumption | (rw [(by assumption : _ = some _)]; rfl)) | rfl); (case e => with_unfolding_all rfl); (case f => (intro _; with_unfolding_all rfl)))))
local macro_rules | `(tactic| k_mem) => `(tactic| ((repeat refine List.mem_cons_of_mem _ ?_); assumption))
local macro_rules | `(tactic| k_all) => `(tactic| assumption)
local macro_rules | `(tactic| walk_at "setItem ref int") => `(tactic| (k_here; k_dflt (refine' set_vs ?F ?N ?U ?a ?b ?c ?_; (case F | N => k_asm); (case U => k_upd); (case a => assumption); (case b => ((try simp only [List.length_cons, List.length_nil]); omega)); (case c => ((try simp only [List.length_cons, List.length_nil]); omega))); (intro h' F' N')))
local macro_rules | `(tactic| walk_at "call builtin:len") => `(tactic| (k_here; k_dflt (refine' len_list ?a ?b ?_; (case a => exact PySem.IsL.isList (News.get (by assumption) (by first | assumption | walk_at "t_mem"))); (case b => (simp only [List.size_toArray, List.length_map]; omega))); (try simp only [List.size_toArray, List.length_map])))
local macro_rules | `(tactic| k_lt $h:ident) => `(tactic| (replace $h := allLt_of $h; dsimp only [AllLt] at $h:ident))
local macro_rules | `(tactic| walk_at "t_lt") => `(tactic| with_reducible first | assumption | exact an0 (by assumption) | exact an1 (by assumption) | exact an2 (by assumption) | exact an3 (by assumption) | exact an4 (by assumption) | exact an5 (by assumption) | exact an6 (by assumption) | exact an7 (by assumption) | exact an8 (by assumption) | exact an9 (by assumption) | exact an10 (by assumption) | exact an11 (by assumption) | exact an12 (by assumption) | exact an13 (by assumption))
local macro_rules | `(tactic| k_ne) => `(tactic| first | assumption | exact Ne.symm (by assumption) | exact Nat.ne_of_gt (by walk_at "t_lt") | exact Nat.ne_of_lt (by walk_at "t_lt"))
local macro_rules | `(tactic| walk_at "t_ne") => `(tactic| first | assumption | exact Ne.symm (by assumption) | exact Nat.ne_of_gt (by walk_at "t_lt") | exact Nat.ne_of_lt (by walk_at "t_lt") | (refine Nat.ne_of_gt ?_; show @LT.lt Nat _ _ _; omega) | (refine Nat.ne_of_lt ?_; show @LT.lt Nat _ _ _; omega))
local macro_rules | `(tactic| walk_at "t_off") => `(tactic| first | assumption | (refine ne2_cons ⟨by walk_at "t_ne", by walk_at "t_ne"⟩ ?_; walk_at "t_off") | (refine ne_cons (by walk_at "t_ne") ?_; walk_at "t_off") | ((refine fun p hp => ⟨?_, ?_⟩) <;> (revert p; assumption)))
local macro_rules | `(tactic| walk_at "t_map") => `(tactic| ((try dsimp only); repeat (first | rw [if_pos rfl] | rw [if_neg (by decide)])))
local macro_rules | `(tactic| walk_at "k_stmt") => `(tactic| ((try refine Hold.in ?_); refine wpAny_execs_cons ?_; k_steps))
local macro_rules | `(tactic| walk_at "call ref") => `(tactic| (with_reducible refine' stop_at ?h ?_); (case h => decide))
local macro_rules | `(tactic| walk_at "t_all") => `(tactic| with_reducible first | assumption | exact al1 (by assumption) | exact al2 (by assumption) | exact al3 (by assumption) | exact al4 (by assumption) | exact al5 (by assumption) | exact al6 (by assumption) | exact al7 (by assumption) | exact al8 (by assumption) | exact al9 (by assumption) | exact al10 (by assumption) | exact al11 (by assumption) | exact al12 (by assumption) | exact al13 (by assumption) | exact al14 (by assumption) | exact al15 (by assumption))
local macro_rules | `(tactic| walk_at "call builtin:list.pop") => `(tactic| (k_here; k_dflt (refine' pop0 ?F ?N ?U ?z ?_; (case F | N => k_asm); (case U => k_upd); (case z => omega)); (intro h' F' N')))
local macro_rules | `(tactic| walk_at "binaryOp Mult ref int") => `(tactic| (k_here; k_dflt (refine' mul3 ?x ?F ?N ?m ?_; (case x => decide); (case F | N => k_asm); (case m => walk_at "t_mem")); intro l' h' F' N' l1; (try k_lt l1); (try k_sweep)))
local macro_rules | `(tactic| walk_at "compareOp NotIn ref ref") => `(tactic| (k_here; k_dflt ((first | (refine' notIn_td (b := false) ?hu ?N ?m ?k ?a ?hd ?hb ?_; (case N => k_asm); (case m | a => walk_at "t_mem"); (case hb => (first | (rw [(by assumption : atKey _ _ = some _)]; rfl) | rfl))) | (refine' notIn_td (b := true) ?hu ?N ?m ?k ?a ?hd ?hb ?_; (case N => k_asm); (case m | a => walk_at "t_mem"); (case hb => (rw [(by assumption : atKey _ _ = none)]; rfl)))); (case hu => ktr_units); (case k => exact KeysOk.mono (by assumption) (by walk_at "t_ro")); (case hd => exact not_mods (by assumption) (News.fresh (by assumption) (by walk_at "t_mem"))))))
local macro_rules | `(tactic| walk_at "subscriptTail") => `(tactic| (k_here; (with_reducible show wpAny _ _ (subscriptTail _ _ (Value.ref _) (Value.ref _)) _ _ _); k_dflt (refine' item_td ?hu ?N ?m ?k ?a ?hp ?_ ?hs ?hg; (case N => k_asm); (case m | a => walk_at "t_mem"); (case hu => ktr_units); (case k => exact KeysOk.mono (by assumption) (by walk_at "t_ro")); (case hp => assumption); (case hs => with_unfolding_all rfl); (case hg => (intro _; with_unfolding_all rfl)))))
local macro_rules | `(tactic| walk_at "setItem ref ref") => `(tactic| (k_here; k_dflt (refine' set_td ?hu ?F ?N ?U ?m ?k ?a ?hp ?hz ?_; (case F | N => k_asm); (case m => walk_at "t_mem"); (case U => k_updF); (case a => walk_at "t_mem"); (case hu => ktr_units); (case k => exact KeysOk.mono (by assumption) (by walk_at "t_ro")); (case hp => assumption); (case hz => omega)); intro h' ep' F' N'))
local macro_rules | `(tactic| walk_at "call builtin:list.index") => `(tactic| (k_here; k_dflt (refine' idx_at ?a ?N ?m ?e ?_; (case a => rfl); (case N => k_asm); (case m => k_mem); (case e => rfl))))
local macro_rules | `(tactic| walk_at "call ref") => `(tactic| (k_here; (rename IntsAre _ (List.map _ [_]) => hI9); (obtain ⟨tz9, hz9⟩ := ints_one hI9); (try dsimp only at hz9); (subst hz9); (clear hI9); walk_at "call ref"))
local macro_rules | `(tactic| walk_at "execs cons") => `(tactic| refine' stop_of (k := 0) (by assumption) ?_)
local macro_rules | `(tactic| walk_at "eval ListComp") => `(tactic| refine' stop_of (k := 1) (by assumption) ?_)
local macro_rules | `(tactic| walk_at "CompSrc") => `(tactic| refine' stop_of (k := 2) (by assumption) ?_)
local macro_rules | `(tactic| walk_at "Exists") => `(tactic| refine' stop_of (k := 3) (by assumption) ?_)
local macro_rules | `(tactic| walk_at "compareOp NotEq ref ref") => `(tactic| refine' stop_of (k := 4) (by assumption) ?_)
local macro_rules | `(tactic| walk_at "call type:enumerate") => `(tactic| refine' stop_of (k := 5) (by assumption) ?_)
local macro_rules | `(tactic| walk_at "call type:range") => `(tactic| refine' stop_of (k := 6) (by assumption) ?_)
local macro_rules | `(tactic| walk_at "call type:list") => `(tactic| refine' stop_of (k := 7) (by assumption) ?_)
local macro_rules | `(tactic| walk_at "exec For Tuple Call cons nil") => `(tactic| refine' stop_of (k := 8) (by assumption) ?_)
local macro_rules | `(tactic| walk_at "exec For Name Name cons nil") => `(tactic| refine' stop_of (k := 9) (by assumption) ?_)
local macro_rules | `(tactic| walk_at "exec For Name Attribute cons nil") => `(tactic| refine' stop_of (k := 10) (by assumption) ?_)
section
theorem top_off_Fg_arr : True := by
  w_top off
  trivial
section
variable {w : World}
set_option maxRecDepth 100000 in
set_option maxHeartbeats 8000000 in
theorem t_get_arr {x' d' x d : Addr} {j num : Int} {o1 o2 o3 : Obj} {bl b : Addr} (h0 : 0 ≤ j) (h1 : j < 3) {vs : List Value} {v : Value} (hv : vs[j.toNat]? = some v) {ro : List (Addr × Obj)} (m1 : (x', instObj 117 d') ∈ ro) (i1 : IsName w "item" x j o1) (m2 : (d', o1) ∈ ro) (m3 : (x, instObj 208 d) ∈ ro) (i2 : IsArr w num bl b o2) (m4 : (d, o2) ∈ ro)
    (i3 : IsLst vs o3) (m5 : (b, o3) ∈ ro) : Tell w 309 [.ref x'] [] ro (fun _ r _ => r = v) := by
  obtain ⟨_, _, rfl⟩ := i1
  obtain ⟨_, _, rfl⟩ := i2
  obtain ⟨_, rfl⟩ := i3
  walk_at "t_start"
  k_steps
  refine hret _ _ _ _ _ _ _ (by k_asm) (by assumption) (by k_asm) (by k_asm) (by walk_at "t_ro") ?_
  exact rfl
end
end
section
theorem top_off_Fg_tbl : True := by
  w_top off
  trivial
section
variable {w : World}
set_option maxRecDepth 100000 in
set_option maxHeartbeats 8000000 in
theorem t_get_tbl {x' d' x d : Addr} {j num : Int} {o1 o2 o3 : Obj} {ed pd b q : Addr} {o4 : Obj} (h0 : 0 ≤ j) (h1 : j < 3) {vs : List Value} {u v : Value} (hv : vs[j.toNat]? = some (.ref q)) {ro : List (Addr × Obj)} (m1 : (x', instObj 117 d') ∈ ro) (i1 : IsName w "item" x j o1) (m2 : (d', o1) ∈ ro) (m3 : (x, instObj 227 d) ∈ ro) (i2 : IsTab w num ed pd b o2) (m4 : (d, o2) ∈ ro)
    (i3 : IsLst vs o3) (m5 : (b, o3) ∈ ro) (i4 : IsLst [u, v] o4) (m6 : (q, o4) ∈ ro) : Tell w 309 [.ref x'] [] ro (fun _ r _ => r = v) := by
  obtain ⟨_, _, rfl⟩ := i1
  obtain ⟨_, _, rfl⟩ := i2
  obtain ⟨_, rfl⟩ := i3
  obtain ⟨_, rfl⟩ := i4
  walk_at "t_start"
  k_steps
  refine hret _ _ _ _ _ _ _ (by k_asm) (by assumption) (by k_asm) (by k_asm) (by walk_at "t_ro") ?_
  exact rfl
end
end
section
theorem top_off_Fg_dat : True := by
  w_top off
  trivial
section
variable {w : World}
set_option maxRecDepth 100000 in
set_option maxHeartbeats 8000000 in
theorem t_get_dat {x' d' x d : Addr} {j num : Int} {o1 o2 o3 : Obj} {fl b : Addr} (h0 : 0 ≤ j) (h1 : j < 3) {vs : List Value} {v : Value} (hv : vs[j.toNat]? = some v) {ro : List (Addr × Obj)} (m1 : (x', instObj 117 d') ∈ ro) (i1 : IsName w "field" x j o1) (m2 : (d', o1) ∈ ro) (m3 : (x, instObj 246 d) ∈ ro) (i2 : IsDat w num fl b o2) (m4 : (d, o2) ∈ ro)
    (i3 : IsLst vs o3) (m5 : (b, o3) ∈ ro) : Tell w 309 [.ref x'] [] ro (fun _ r _ => r = v) := by
  obtain ⟨_, _, rfl⟩ := i1
  obtain ⟨_, _, rfl⟩ := i2
  obtain ⟨_, rfl⟩ := i3
  walk_at "t_start"
  k_steps
  refine hret _ _ _ _ _ _ _ (by k_asm) (by assumption) (by k_asm) (by k_asm) (by walk_at "t_ro") ?_
  exact rfl
end
end
section
theorem top_off_Fs_arr : True := by
  w_top off
  trivial
section
variable {w : World}
set_option maxRecDepth 100000 in
set_option maxHeartbeats 8000000 in
theorem t_set_arr {x' d' x d : Addr} {j num : Int} {o1 o2 o3 : Obj} {bl b : Addr} (h0 : 0 ≤ j) (h1 : j < 3) {vs : List Value} {v : Value} (hl : vs.length = 3) {ro : List (Addr × Obj)} (m1 : (x', instObj 117 d') ∈ ro) (i1 : IsName w "item" x j o1) (m2 : (d', o1) ∈ ro) (m3 : (x, instObj 208 d) ∈ ro) (i2 : IsArr w num bl b o2) (m4 : (d, o2) ∈ ro)
    {e : Nat} (hb : ∀ p ∈ ro, p.1 ≠ b) : Tell w 316 [.ref x', v] [(b, listOf vs.toArray e)] ro (fun _ r h' => h'.get? b = some (listOf (vs.set j.toNat v).toArray e)) := by
  obtain ⟨_, _, rfl⟩ := i1
  obtain ⟨_, _, rfl⟩ := i2
  walk_at "t_start"
  k_steps
  refine hret _ _ _ _ _ _ _ (by k_asm) (by assumption) (by k_asm) (by k_asm) (by walk_at "t_ro") ?_
  exact (News.get (by assumption) (List.mem_cons_self ..))
end
end
section
theorem top_off_Fs_tbl : True := by
  w_top off
  trivial
section
variable {w : World}
set_option maxRecDepth 100000 in
set_option maxHeartbeats 8000000 in
theorem t_set_tbl {x' d' x d : Addr} {j num : Int} {o1 o2 o3 : Obj} {ed pd b q : Addr} {o4 : Obj} (h0 : 0 ≤ j) (h1 : j < 3) {vs : List Value} {u u' v : Value} (hv : vs[j.toNat]? = some (.ref q)) {ro : List (Addr × Obj)} (m1 : (x', instObj 117 d') ∈ ro) (i1 : IsName w "item" x j o1) (m2 : (d', o1) ∈ ro) (m3 : (x, instObj 227 d) ∈ ro) (i2 : IsTab w num ed pd b o2) (m4 : (d, o2) ∈ ro)
    (i3 : IsLst vs o3) (m5 : (b, o3) ∈ ro) {e : Nat} (hb : ∀ p ∈ ro, p.1 ≠ q) : Tell w 316 [.ref x', v] [(q, listOf [u, u'].toArray e)] ro (fun _ r h' => h'.get? q = some (listOf [u, v].toArray e)) := by
  obtain ⟨_, _, rfl⟩ := i1
  obtain ⟨_, _, rfl⟩ := i2
  obtain ⟨_, rfl⟩ := i3
  walk_at "t_start"
  k_steps
  refine hret _ _ _ _ _ _ _ (by k_asm) (by assumption) (by k_asm) (by k_asm) (by walk_at "t_ro") ?_
  exact (News.get (by assumption) (List.mem_cons_self ..))
end
end
section
theorem top_off_Fs_dat : True := by
  w_top off
  trivial
section
variable {w : World}
set_option maxRecDepth 100000 in
set_option maxHeartbeats 8000000 in
theorem t_set_dat {x' d' x d : Addr} {j num : Int} {o1 o2 o3 : Obj} {fl b : Addr} (h0 : 0 ≤ j) (h1 : j < 3) {vs : List Value} {v : Value} (hl : vs.length = 3) {ro : List (Addr × Obj)} (m1 : (x', instObj 117 d') ∈ ro) (i1 : IsName w "field" x j o1) (m2 : (d', o1) ∈ ro) (m3 : (x, instObj 246 d) ∈ ro) (i2 : IsDat w num fl b o2) (m4 : (d, o2) ∈ ro)
    {e : Nat} (hb : ∀ p ∈ ro, p.1 ≠ b) : Tell w 316 [.ref x', v] [(b, listOf vs.toArray e)] ro (fun _ r h' => h'.get? b = some (listOf (vs.set j.toNat v).toArray e)) := by
  obtain ⟨_, _, rfl⟩ := i1
  obtain ⟨_, _, rfl⟩ := i2
  walk_at "t_start"
  k_steps
  refine hret _ _ _ _ _ _ _ (by k_asm) (by assumption) (by k_asm) (by k_asm) (by walk_at "t_ro") ?_
  exact (News.get (by assumption) (List.mem_cons_self ..))
end
end
section
theorem top_off_Fw_arr : True := by
  w_top off
  trivial
section
variable {w : World}
set_option maxRecDepth 100000 in
set_option maxHeartbeats 8000000 in
theorem t_shown_arr {x d : Addr} {num : Int} {o2 : Obj} {bl b : Addr} {ro : List (Addr × Obj)} (m3 : (x, instObj 208 d) ∈ ro) (i2 : IsArr w num bl b o2) (m4 : (d, o2) ∈ ro) :
    Tell w 415 [.ref x] [] ro (fun h r h' => ∃ t o u1 u2, r = .ref t ∧ IsTp [.str "number" u1, .int num u2] o ∧ Fresh h h' t o) := by
  obtain ⟨_, _, rfl⟩ := i2
  walk_at "t_start"
  k_steps
  refine hret _ _ _ _ _ _ _ (by k_asm) (by assumption) (by k_asm) (by k_asm) (by walk_at "t_ro") ?_
  exact ⟨_, _, _, _, rfl, ⟨_, rfl⟩, fresh_lt (by assumption) (by assumption) (List.mem_cons_self ..) (by assumption)⟩
end
end
section
theorem top_off_Fw_tbl : True := by
  w_top off
  trivial
section
variable {w : World}
set_option maxRecDepth 100000 in
set_option maxHeartbeats 8000000 in
theorem t_shown_tbl {x d : Addr} {num : Int} {o2 : Obj} {ed pd b q : Addr} {ro : List (Addr × Obj)} (m3 : (x, instObj 227 d) ∈ ro) (i2 : IsTab w num ed pd b o2) (m4 : (d, o2) ∈ ro) :
    Tell w 415 [.ref x] [] ro (fun h r h' => ∃ t o u1 u2, r = .ref t ∧ IsTp [.str "number" u1, .int num u2] o ∧ Fresh h h' t o) := by
  obtain ⟨_, _, rfl⟩ := i2
  walk_at "t_start"
  k_steps
  refine hret _ _ _ _ _ _ _ (by k_asm) (by assumption) (by k_asm) (by k_asm) (by walk_at "t_ro") ?_
  exact ⟨_, _, _, _, rfl, ⟨_, rfl⟩, fresh_lt (by assumption) (by assumption) (List.mem_cons_self ..) (by assumption)⟩
end
end
section
theorem top_off_Fw_dat : True := by
  w_top off
  trivial
section
variable {w : World}
set_option maxRecDepth 100000 in
set_option maxHeartbeats 8000000 in
theorem t_shown_dat {x d : Addr} {num : Int} {o2 : Obj} {fl b : Addr} {ro : List (Addr × Obj)} (m3 : (x, instObj 246 d) ∈ ro) (i2 : IsDat w num fl b o2) (m4 : (d, o2) ∈ ro) :
    Tell w 415 [.ref x] [] ro (fun h r h' => ∃ t o u1 u2, r = .ref t ∧ IsTp [.str "number" u1, .int num u2] o ∧ Fresh h h' t o) := by
  obtain ⟨_, _, rfl⟩ := i2
  walk_at "t_start"
  k_steps
  refine hret _ _ _ _ _ _ _ (by k_asm) (by assumption) (by k_asm) (by k_asm) (by walk_at "t_ro") ?_
  exact ⟨_, _, _, _, rfl, ⟨_, rfl⟩, fresh_lt (by assumption) (by assumption) (List.mem_cons_self ..) (by assumption)⟩
end
end
section
theorem top_off_Fw_str : True := by
  w_top off
  trivial
section
variable {w : World}
set_option maxRecDepth 100000 in
set_option maxHeartbeats 8000000 in
theorem t_shown_str {t : Tok} {x : Str} : Tell w 415 [.str x t] [] [] (fun h r h' => r = .str x t) := by
  walk_at "t_start"
  k_steps
  refine hret _ _ _ _ _ _ _ (by k_asm) (by assumption) (by k_asm) (by k_asm) (by walk_at "t_ro") ?_
  exact rfl
end
end
section
theorem top_off_Fw_int : True := by
  w_top off
  trivial
section
variable {w : World}
set_option maxRecDepth 100000 in
set_option maxHeartbeats 8000000 in
theorem t_shown_int {t : Tok} {x : Int} : Tell w 415 [.int x t] [] [] (fun h r h' => r = .int x t) := by
  walk_at "t_start"
  k_steps
  refine hret _ _ _ _ _ _ _ (by k_asm) (by assumption) (by k_asm) (by k_asm) (by walk_at "t_ro") ?_
  exact rfl
end
end
section
theorem top_off_Hk : True := by
  w_top off
  trivial
section
variable {w : World}
set_option maxRecDepth 100000 in
set_option maxHeartbeats 8000000 in
theorem t_key {j : Int} {tj : Tok} : TellD w 191 [.int j tj] [] [] (fun h r h' => ∃ t o u1 u2, r = .ref t ∧ IsTp [.str "INTEGER" u1, .int j u2] o ∧ Fresh h h' t o) := by
  walk_at "t_start"
  k_steps
  refine hret _ _ _ _ _ _ _ (by k_asm) (by assumption) (by k_asm) (by k_asm) (by walk_at "t_ro") ?_
  exact ⟨_, _, _, _, rfl, ⟨_, rfl⟩, fresh_lt (ro := []) (by assumption) (by assumption) (by walk_at "t_mem") (fun _ h => nomatch h)⟩
end
end
section
theorem top_off_Hr_arr : True := by
  w_top off
  trivial
section
variable {w : World}
local macro_rules | `(tactic| walk_at "exec For Tuple Call cons nil") => `(tactic| (k_here; (rename Fr _ _ _ _ => lF'); (with_unfolding_all refine' For_turns lF' ?_; k_whole)))
set_option maxRecDepth 100000 in
set_option maxHeartbeats 8000000 in
theorem t_ref_arr {x d bl b bt : Addr} {j num : Int} {tj : Tok} {o2 o3 o4 : Obj} (h0 : 0 ≤ j) (h1 : j < 3) (i2 : IsArr w num bl b o2) (i3 : IsLst [.ref bt] o3) {u1 u2 : Tok} (i4 : IsTp [.int 1 u1, .int 3 u2] o4) :
    TellU w 408 [.ref x, .int j tj] [] [(x, instObj 208 d), (d, o2), (bl, o3), (bt, o4)] (fun h r h' => RefP w "item" x j h r h') := by
  obtain ⟨_, _, rfl⟩ := i2
  obtain ⟨_, rfl⟩ := i3
  obtain ⟨_, rfl⟩ := i4
  walk_at "t_start"
  k_steps
  refine hret _ _ _ _ _ _ _ (by k_asm) (by assumption) (by k_asm) (by k_asm) (by walk_at "t_ro") ?_
  refine ⟨_, _, _, rfl, fresh_lt (by assumption) (by assumption) (by walk_at "t_mem") ?f1, isName_of ?f2, fresh_lt (by assumption) (by assumption) (by walk_at "t_mem") ?f3⟩
  case f2 => omega
  all_goals (simp only [List.mem_cons, List.not_mem_nil, or_false, forall_eq_or_imp, forall_eq]; omega)
end
end
section
theorem top_off_Hr_dat0 : True := by
  w_top off
  trivial
section
variable {w : World}
set_option maxRecDepth 100000 in
set_option maxHeartbeats 8000000 in
theorem t_ref_dat0 {x d fl b : Addr} {j num : Int} {tj : Tok} {o2 o3 : Obj} (hj : j = 0) (i2 : IsDat w num fl b o2) {u1 u2 u3 : Tok} (i3 : IsLst [.str "A" u1, .str "B" u2, .str "C" u3] o3) :
    TellU w 408 [.ref x, .int j tj] [] [(x, instObj 246 d), (d, o2), (fl, o3)] (fun h r h' => RefP w "field" x j h r h') := by
  subst hj
  obtain ⟨_, _, rfl⟩ := i2
  obtain ⟨_, rfl⟩ := i3
  walk_at "t_start"
  k_steps
  refine hret _ _ _ _ _ _ _ (by k_asm) (by assumption) (by k_asm) (by k_asm) (by walk_at "t_ro") ?_
  refine ⟨_, _, _, rfl, fresh_lt (by assumption) (by assumption) (by walk_at "t_mem") ?f1, isName_of rfl, fresh_lt (by assumption) (by assumption) (by walk_at "t_mem") ?f3⟩
  all_goals (simp only [List.mem_cons, List.not_mem_nil, or_false, forall_eq_or_imp, forall_eq]; omega)
end
end
section
theorem top_off_Hr_dat1 : True := by
  w_top off
  trivial
section
variable {w : World}
set_option maxRecDepth 100000 in
set_option maxHeartbeats 8000000 in
theorem t_ref_dat1 {x d fl b : Addr} {j num : Int} {tj : Tok} {o2 o3 : Obj} (hj : j = 1) (i2 : IsDat w num fl b o2) {u1 u2 u3 : Tok} (i3 : IsLst [.str "A" u1, .str "B" u2, .str "C" u3] o3) :
    TellU w 408 [.ref x, .int j tj] [] [(x, instObj 246 d), (d, o2), (fl, o3)] (fun h r h' => RefP w "field" x j h r h') := by
  subst hj
  obtain ⟨_, _, rfl⟩ := i2
  obtain ⟨_, rfl⟩ := i3
  walk_at "t_start"
  k_steps
  refine hret _ _ _ _ _ _ _ (by k_asm) (by assumption) (by k_asm) (by k_asm) (by walk_at "t_ro") ?_
  refine ⟨_, _, _, rfl, fresh_lt (by assumption) (by assumption) (by walk_at "t_mem") ?f1, isName_of rfl, fresh_lt (by assumption) (by assumption) (by walk_at "t_mem") ?f3⟩
  all_goals (simp only [List.mem_cons, List.not_mem_nil, or_false, forall_eq_or_imp, forall_eq]; omega)
end
end
section
theorem top_off_Hr_dat2 : True := by
  w_top off
  trivial
section
variable {w : World}
set_option maxRecDepth 100000 in
set_option maxHeartbeats 8000000 in
theorem t_ref_dat2 {x d fl b : Addr} {j num : Int} {tj : Tok} {o2 o3 : Obj} (hj : j = 2) (i2 : IsDat w num fl b o2) {u1 u2 u3 : Tok} (i3 : IsLst [.str "A" u1, .str "B" u2, .str "C" u3] o3) :
    TellU w 408 [.ref x, .int j tj] [] [(x, instObj 246 d), (d, o2), (fl, o3)] (fun h r h' => RefP w "field" x j h r h') := by
  subst hj
  obtain ⟨_, _, rfl⟩ := i2
  obtain ⟨_, rfl⟩ := i3
  walk_at "t_start"
  k_steps
  refine hret _ _ _ _ _ _ _ (by k_asm) (by assumption) (by k_asm) (by k_asm) (by walk_at "t_ro") ?_
  refine ⟨_, _, _, rfl, fresh_lt (by assumption) (by assumption) (by walk_at "t_mem") ?f1, isName_of rfl, fresh_lt (by assumption) (by assumption) (by walk_at "t_mem") ?f3⟩
  all_goals (simp only [List.mem_cons, List.not_mem_nil, or_false, forall_eq_or_imp, forall_eq]; omega)
end
end
section
theorem top_off_Hr_tbl : True := by
  w_top off
  trivial
section
variable {w : World}
set_option maxRecDepth 100000 in
set_option maxHeartbeats 8000000 in
theorem t_ref_tbl {x d b ed pd : Addr} {j num : Int} {tj tk1 : Tok} {o2 : Obj} (h0 : 0 ≤ j) (h1 : j < 3) {xs ys : List (List Mix × Addr × Value)} {ex ey : Nat} {p : Addr × Value} {t1 : Addr} (hx : atKey xs (markK (j + 1)) = some p) (hy : atKey ys (markK (j + 1)) = some (t1, .int j tk1)) {ro : List (Addr × Obj)} (m3 : (x, instObj 227 d) ∈ ro) (i2 : IsTab w num ed pd b o2) (m4 : (d, o2) ∈ ro) (m5 : (ed, tdOf PW w xs ex) ∈ ro) (m6 : (pd, tdOf PW w ys ey) ∈ ro) (kx : KeysOk ro xs) (ky : KeysOk ro ys) :
    TellU w 408 [.ref x, .int j tj] [] ro (fun h r h' => RefP w "item" x j h r h') := by
  obtain ⟨_, _, rfl⟩ := i2
  walk_at "t_start"
  k_steps
  refine Hold.in ?_
  rename News _ _ _ _ => N9
  refine' TellD.use t_key ?p1 ?p2 ?p3 ?p4 ?p5 ?p6 ?p7 (fun p hp => nomatch hp) ?_
  case p1 => ktr_room
  case p2 => ktr_units
  case p3 => k_asm
  case p4 => k_asm
  case p5 => k_asm
  case p6 => k_asm
  case p7 => first | exact rfl | assumption
  intro qk1 hk1 tkk1 Fk1 kk1 Pk1
  obtain ⟨tk1, ok1, ua1, ub1, hqk1, ⟨ek1, hok1⟩, ft1⟩ := Pk1
  subst hqk1 hok1
  have N1 := fresh_news (by assumption) (News.grown N9 (fun b o e => kk1 b o e (fun h => nomatch h))) ft1
  clear N9 kk1
  k_steps
  refine Hold.in ?_
  rename News _ _ _ _ => N9
  refine' TellD.use t_key ?p1 ?p2 ?p3 ?p4 ?p5 ?p6 ?p7 (fun p hp => nomatch hp) ?_
  case p1 => ktr_room
  case p2 => ktr_units
  case p3 => k_asm
  case p4 => k_asm
  case p5 => k_asm
  case p6 => k_asm
  case p7 => first | exact rfl | assumption
  intro qk2 hk2 tkk2 Fk2 kk2 Pk2
  obtain ⟨tk2, ok2, ua2, ub2, hqk2, ⟨ek2, hok2⟩, ft2⟩ := Pk2
  subst hqk2 hok2
  have N2 := fresh_news (by assumption) (News.grown N9 (fun b o e => kk2 b o e (fun h => nomatch h))) ft2
  clear N9 kk2
  k_steps
  refine hret _ _ _ _ _ _ _ (by k_asm) (by assumption) (by k_asm) (by k_asm) (by walk_at "t_ro") ?_
  refine ⟨_, _, _, rfl, fresh_lt (by assumption) (by assumption) (by walk_at "t_mem") ?f1, isName_of ?f2, fresh_lt (by assumption) (by assumption) (by walk_at "t_mem") ?f3⟩
  case f2 => rfl
  case f3 => exact fun p hp => allLt_mem (by walk_at "t_all") p hp
  case f1 => exact fun p hp => lt_tr (by assumption) (allLt_mem (by walk_at "t_all") p hp)
end
end
section
section
variable {w : World} {F ro : FX} {H : HR}
theorem three {j : Int} (h0 : 0 ≤ j) (h1 : j < 3) : j = 0 ∨ j = 1 ∨ j = 2 := by omega
theorem u_get {j : Int} {r v : Value} (hH : HolOk w F H) (hr : RefOk w F H.kd H.x j r) (h0 : 0 ≤ j) (h1 : j < 3) (hv : H.vs[j.toNat]? = some v) (hF : ∀ p ∈ F, p ∈ ro) (hc : ∀ p ∈ H.cs, p ∈ ro) : Tell w 309 [r] [] ro (fun _ r' _ => r' = v) := by
  obtain ⟨x', d', o1, rfl, n1, n2, i1⟩ := hr
  rcases hH with ⟨k, b, o, v0, v1, v2, ⟨d, o2, bl, o3, bt, o4, u1, u2, m1, i, m2, _⟩, hvs, il, hcs⟩ | ⟨k, e0, e1, e2, o0, oo1, oo2, ⟨d, o2', ed, pd, b, ex, ey, er, u0, u1, u2, a0, a1, a2, m1, i, m2, m3, m4, m5, kx, q0, q1, q2, _⟩, hvs, il0, il1, il2, hcs⟩ | ⟨k, b, o, v0, v1, v2, ⟨d, o2, fl, o3, u1, u2, u3, m1, i, m2, _⟩, hvs, il, hcs⟩
  · rw [k] at i1
    rw [hvs] at hv
    exact t_get_arr h0 h1 hv (hF _ n1) i1 (hF _ n2) (hF _ m1) i (hF _ m2) il (hc _ (by rw [hcs]; exact List.mem_cons_self ..))
  · rw [k] at i1
    rw [hvs] at hv
    rw [hcs] at hc
    rcases three h0 h1 with rfl | rfl | rfl
    · obtain rfl : e0.v = v := by simpa using hv
      exact t_get_tbl (by decide) (by decide) (vs := [.ref e0.q, .ref e1.q, .ref e2.q]) (q := e0.q) rfl (hF _ n1) i1 (hF _ n2) (hF _ m1) i (hF _ m2) ⟨_, rfl⟩ (hF _ m5) il0 (hc _ (List.mem_cons_self ..))
    · obtain rfl : e1.v = v := by simpa using hv
      exact t_get_tbl (by decide) (by decide) (vs := [.ref e0.q, .ref e1.q, .ref e2.q]) (q := e1.q) rfl (hF _ n1) i1 (hF _ n2) (hF _ m1) i (hF _ m2) ⟨_, rfl⟩ (hF _ m5) il1 (hc _ (List.mem_cons_of_mem _ (List.mem_cons_self ..)))
    · obtain rfl : e2.v = v := by simpa using hv
      exact t_get_tbl (by decide) (by decide) (vs := [.ref e0.q, .ref e1.q, .ref e2.q]) (q := e2.q) rfl (hF _ n1) i1 (hF _ n2) (hF _ m1) i (hF _ m2) ⟨_, rfl⟩ (hF _ m5) il2 (hc _ (List.mem_cons_of_mem _ (List.mem_cons_of_mem _ (List.mem_cons_self ..))))
  · rw [k] at i1
    rw [hvs] at hv
    exact t_get_dat h0 h1 hv (hF _ n1) i1 (hF _ n2) (hF _ m1) i (hF _ m2) il (hc _ (by rw [hcs]; exact List.mem_cons_self ..))
theorem u_set {j : Int} {r : Value} (v : Value) (hH : HolOk w F H) (hr : RefOk w F H.kd H.x j r) (h0 : 0 ≤ j) (h1 : j < 3) :
    ∃ a b q old new, H.cs = a ++ (q, old) :: b ∧ HolOk w F { H with vs := H.vs.set j.toNat v, cs := a ++ (q, new) :: b } ∧ ∀ ro, (∀ p ∈ F, p ∈ ro) → (∀ p ∈ ro, p.1 ≠ q) → Tell w 316 [r, v] [(q, old)] ro (fun _ _ h' => h'.get? q = some new) := by
  obtain ⟨x', d', o1, rfl, n1, n2, i1⟩ := hr
  rcases hH with ⟨k, b, o, v0, v1, v2, hd, hvs, ⟨e, rfl⟩, hcs⟩ | ⟨k, e0, e1, e2, o0, oo1, oo2, hd, hvs, ⟨f0, rfl⟩, ⟨f1, rfl⟩, ⟨f2, rfl⟩, hcs⟩ | ⟨k, b, o, v0, v1, v2, hd, hvs, ⟨e, rfl⟩, hcs⟩
  · rw [k] at i1
    have hd' := hd
    obtain ⟨d, o2, bl, o3, bt, o4, u1, u2, m1, i, m2, _⟩ := hd'
    have hs : ∃ w0 w1 w2, [v0, v1, v2].set j.toNat v = [w0, w1, w2] := by rcases three h0 h1 with rfl | rfl | rfl <;> exact ⟨_, _, _, rfl⟩
    obtain ⟨w0, w1, w2, hw⟩ := hs
    refine ⟨[], [], b, _, _, hcs, (.arr k b _ w0 w1 w2 hd (by show H.vs.set _ _ = _; rw [hvs, hw]) ⟨e, rfl⟩ rfl), fun ro hF hq => ?_⟩
    have := t_set_arr (v := v) (o3 := o3) (vs := [v0, v1, v2]) (e := e) h0 h1 rfl (hF _ n1) i1 (hF _ n2) (hF _ m1) i (hF _ m2) hq
    rw [hw] at this
    exact this
  · rw [k] at i1
    have hd' := hd
    obtain ⟨d, o2', ed, pd, b, ex, ey, er, u0, u1, u2, a0, a1, a2, m1, i, m2, m3, m4, m5, kx, q0, q1, q2, _⟩ := hd'
    rcases three h0 h1 with rfl | rfl | rfl
    · refine ⟨[], [(e1.q, _), (e2.q, _)], e0.q, _, _, hcs, (.tbl k { e0 with v := v } e1 e2 _ _ _ (hd.like v e1.v e2.v) (by show H.vs.set _ _ = _; rw [hvs]; rfl) ⟨f0, rfl⟩ ⟨f1, rfl⟩ ⟨f2, rfl⟩ rfl), fun ro hF hq => ?_⟩
      exact t_set_tbl (o3 := listOf [.ref e0.q, .ref e1.q, .ref e2.q].toArray er) (o4 := o2') (by decide) (by decide) (vs := [.ref e0.q, .ref e1.q, .ref e2.q]) (q := e0.q) rfl (hF _ n1) i1 (hF _ n2) (hF _ m1) i (hF _ m2) ⟨_, rfl⟩ (hF _ m5) hq
    · refine ⟨[(e0.q, _)], [(e2.q, _)], e1.q, _, _, hcs, (.tbl k e0 { e1 with v := v } e2 _ _ _ (hd.like e0.v v e2.v) (by show H.vs.set _ _ = _; rw [hvs]; rfl) ⟨f0, rfl⟩ ⟨f1, rfl⟩ ⟨f2, rfl⟩ rfl), fun ro hF hq => ?_⟩
      exact t_set_tbl (o3 := listOf [.ref e0.q, .ref e1.q, .ref e2.q].toArray er) (o4 := o2') (by decide) (by decide) (vs := [.ref e0.q, .ref e1.q, .ref e2.q]) (q := e1.q) rfl (hF _ n1) i1 (hF _ n2) (hF _ m1) i (hF _ m2) ⟨_, rfl⟩ (hF _ m5) hq
    · refine ⟨[(e0.q, _), (e1.q, _)], [], e2.q, _, _, hcs, (.tbl k e0 e1 { e2 with v := v } _ _ _ (hd.like e0.v e1.v v) (by show H.vs.set _ _ = _; rw [hvs]; rfl) ⟨f0, rfl⟩ ⟨f1, rfl⟩ ⟨f2, rfl⟩ rfl), fun ro hF hq => ?_⟩
      exact t_set_tbl (o3 := listOf [.ref e0.q, .ref e1.q, .ref e2.q].toArray er) (o4 := o2') (by decide) (by decide) (vs := [.ref e0.q, .ref e1.q, .ref e2.q]) (q := e2.q) rfl (hF _ n1) i1 (hF _ n2) (hF _ m1) i (hF _ m2) ⟨_, rfl⟩ (hF _ m5) hq
  · rw [k] at i1
    have hd' := hd
    obtain ⟨d, o2, fl, o3, u1, u2, u3, m1, i, m2, _⟩ := hd'
    have hs : ∃ w0 w1 w2, [v0, v1, v2].set j.toNat v = [w0, w1, w2] := by rcases three h0 h1 with rfl | rfl | rfl <;> exact ⟨_, _, _, rfl⟩
    obtain ⟨w0, w1, w2, hw⟩ := hs
    refine ⟨[], [], b, _, _, hcs, (.dat k b _ w0 w1 w2 hd (by show H.vs.set _ _ = _; rw [hvs, hw]) ⟨e, rfl⟩ rfl), fun ro hF hq => ?_⟩
    have := t_set_dat (v := v) (o3 := o3) (vs := [v0, v1, v2]) (e := e) h0 h1 rfl (hF _ n1) i1 (hF _ n2) (hF _ m1) i (hF _ m2) hq
    rw [hw] at this
    exact this
theorem keys_pl {e0 e1 e2 : El} {u0 u1 u2 : Tok} (k : KeysOk F (elX [e0, e1, e2])) : KeysOk F (plY e0 e1 e2 u0 u1 u2) := by
  refine ⟨fun x hx => ?_, k.2⟩
  rcases List.mem_cons.mp hx with rfl | hx
  · exact k.1 (markK e0.n, e0.t, .ref e0.q) (List.mem_cons_self ..)
  rcases List.mem_cons.mp hx with rfl | hx
  · exact k.1 (markK e1.n, e1.t, .ref e1.q) (List.mem_cons_of_mem _ (List.mem_cons_self ..))
  · rw [List.mem_singleton.mp hx]
    exact k.1 (markK e2.n, e2.t, .ref e2.q) (List.mem_cons_of_mem _ (List.mem_cons_of_mem _ (List.mem_cons_self ..)))
theorem u_ref {j : Int} {tj : Tok} (hH : HolOk w F H) (h0 : 0 ≤ j) (h1 : j < 3) (hF : ∀ p ∈ F, p ∈ ro) :
    TellU w 408 [.ref H.x, .int j tj] [] ro (fun h r h' => RefP w (kRef H.kd) H.x j h r h') := by
  rcases hH with ⟨k, b, o, v0, v1, v2, ⟨d, o2, bl, o3, bt, o4, u1, u2, m1, i, m2, i3, m3, i4, m4⟩, hvs, il, hcs⟩ | ⟨k, e0, e1, e2, o0, oo1, oo2, ⟨d, o2', ed, pd, b, ex, ey, er, u0, u1, u2, a0, a1, a2, m1, i, m2, m3, m4, m5, kx, q0, q1, q2, _⟩, hvs, il0, il1, il2, hcs⟩ | ⟨k, b, o, v0, v1, v2, ⟨d, o2, fl, o3, u1, u2, u3, m1, i, m2, i3, m3⟩, hvs, il, hcs⟩
  · rw [k]
    refine (t_ref_arr (d := d) h0 h1 i i3 i4).wide fun p hp => hF _ ?_
    simp only [List.mem_cons, List.not_mem_nil, or_false] at hp
    rcases hp with rfl | rfl | rfl | rfl <;> assumption
  · rw [k]
    have ky := keys_pl (u0 := u0) (u1 := u1) (u2 := u2) kx
    rcases three h0 h1 with rfl | rfl | rfl
    · exact t_ref_tbl (by decide) (by decide) (p := (e0.t, .ref e0.q)) (t1 := e0.t) (tk1 := u0) (by simp [atKey, q0]) (by simp [atKey, plY, q0]) (hF _ m1) i (hF _ m2) (hF _ m3) (hF _ m4) (kx.mono hF) (ky.mono hF)
    · exact t_ref_tbl (by decide) (by decide) (p := (e1.t, .ref e1.q)) (t1 := e1.t) (tk1 := u1) (by simp [atKey, q0, q1]) (by simp [atKey, plY, q0, q1]) (hF _ m1) i (hF _ m2) (hF _ m3) (hF _ m4) (kx.mono hF) (ky.mono hF)
    · exact t_ref_tbl (by decide) (by decide) (p := (e2.t, .ref e2.q)) (t1 := e2.t) (tk1 := u2) (by simp [atKey, q0, q1, q2]) (by simp [atKey, plY, q0, q1, q2]) (hF _ m1) i (hF _ m2) (hF _ m3) (hF _ m4) (kx.mono hF) (ky.mono hF)
  · rw [k]
    have sub : ∀ p ∈ [(H.x, instObj 246 d), (d, o2), (fl, o3)], p ∈ ro := fun p hp => hF _ (by
      simp only [List.mem_cons, List.not_mem_nil, or_false] at hp
      rcases hp with rfl | rfl | rfl <;> assumption)
    rcases three h0 h1 with e | e | e
    · exact (t_ref_dat0 (d := d) e i i3).wide sub
    · exact (t_ref_dat1 (d := d) e i i3).wide sub
    · exact (t_ref_dat2 (d := d) e i i3).wide sub
theorem u_shown {v : Value} {sv : PyData} (hv : ValOk w F v sv) (hF : ∀ p ∈ F, p ∈ ro) :
    Tell w 415 [v] [] ro (fun h r h' => ∃ fx : FX, (∀ p ∈ fx, Fresh h h' p.1 p.2) ∧ ShOk fx r sv) := by
  have fin : ∀ {num : Int}, (∀ h r h', (∃ t o u1 u2, r = .ref t ∧ IsTp [.str "number" u1, .int num u2] o ∧ Fresh h h' t o) → ∃ fx : FX, (∀ p ∈ fx, Fresh h h' p.1 p.2) ∧ ShOk fx r (numD num)) := fun h r h' ⟨t, o, u1, u2, e, i, f⟩ =>
    ⟨[(t, o)], fun p hp => by rw [List.mem_singleton.mp hp]; exact f, .inr (.inr ⟨t, o, u1, u2, _, e, List.mem_cons_self .., i, rfl⟩)⟩
  rcases hv with ⟨t, rfl, rfl⟩ | ⟨k, t, rfl, rfl⟩ | ⟨x, num, rfl, ⟨d, o2, m2, hh⟩, rfl⟩
  · exact ((t_shown_str (w := w)).wide fun _ h => nomatch h).post fun _ r _ e => ⟨[], fun _ h => (nomatch h), .inl ⟨t, e, rfl⟩⟩
  · exact ((t_shown_int (w := w)).wide fun _ h => nomatch h).post fun _ r _ e => ⟨[], fun _ h => (nomatch h), .inr (.inl ⟨k, t, e, rfl⟩)⟩
  · rcases hh with ⟨m1, bl, b, i⟩ | ⟨m1, ed, pd, b, i⟩ | ⟨m1, fl, b, i⟩
    · exact (t_shown_arr (hF _ m1) i (hF _ m2)).post (fin (num := num))
    · exact (t_shown_tbl (q := 0) (hF _ m1) i (hF _ m2)).post (fin (num := num))
    · exact (t_shown_dat (hF _ m1) i (hF _ m2)).post (fin (num := num))
end
end
section
theorem top_off_Hc_arr : True := by
  w_top off
  trivial
section
variable {w : World}
set_option maxRecDepth 100000 in
set_option maxHeartbeats 8000000 in
theorem t_copyof_arr {x d bl b bt : Addr} {num m : Int} {tm : Tok} {o2 o3 o4 o5 : Obj} {v1 v2 v3 : Value} (i2 : IsArr w num bl b o2) (i3 : IsLst [.ref bt] o3) {u1 u2 : Tok} (i4 : IsTp [.int 1 u1, .int 3 u2] o4) (i5 : IsLst [v1, v2, v3] o5) :
    Tell w 330 [.ref x, .int m tm] [] [(x, instObj 208 d), (d, o2), (bl, o3), (bt, o4), (b, o5)] (fun h r h' => ∃ x' d' b' o2' o3', r = .ref x' ∧ Fresh h h' x' (instObj 208 d') ∧ IsArr w m bl b' o2' ∧ Fresh h h' d' o2' ∧ IsLst [v1, v2, v3] o3' ∧ Fresh h h' b' o3') := by
  obtain ⟨_, _, rfl⟩ := i2
  obtain ⟨_, rfl⟩ := i3
  obtain ⟨_, rfl⟩ := i4
  obtain ⟨_, rfl⟩ := i5
  walk_at "t_start"
  k_steps
  refine hret _ _ _ _ _ _ _ (by k_asm) (by assumption) (by k_asm) (by k_asm) (by walk_at "t_ro") ?_
  refine ⟨_, _, _, _, _, rfl, fresh_lt (by assumption) (by assumption) (by walk_at "t_mem") ?f1, isArr_of, fresh_lt (by assumption) (by assumption) (by walk_at "t_mem") ?f2, ⟨_, rfl⟩, fresh_lt (by assumption) (by assumption) (by walk_at "t_mem") ?f3⟩
  all_goals (simp only [List.mem_cons, List.not_mem_nil, or_false, forall_eq_or_imp, forall_eq]; omega)
end
end
section
theorem top_off_Hc_dat : True := by
  w_top off
  trivial
section
variable {w : World}
set_option maxRecDepth 100000 in
set_option maxHeartbeats 8000000 in
theorem t_copyof_dat {x d fl b : Addr} {num m : Int} {tm : Tok} {o2 o5 : Obj} {v1 v2 v3 : Value} (i2 : IsDat w num fl b o2) (i5 : IsLst [v1, v2, v3] o5) :
    Tell w 330 [.ref x, .int m tm] [] [(x, instObj 246 d), (d, o2), (b, o5)] (fun h r h' => ∃ x' d' b' o2' o3', r = .ref x' ∧ Fresh h h' x' (instObj 246 d') ∧ IsDat w m fl b' o2' ∧ Fresh h h' d' o2' ∧ IsLst [v1, v2, v3] o3' ∧ Fresh h h' b' o3') := by
  obtain ⟨_, _, rfl⟩ := i2
  obtain ⟨_, rfl⟩ := i5
  walk_at "t_start"
  k_steps
  refine hret _ _ _ _ _ _ _ (by k_asm) (by assumption) (by k_asm) (by k_asm) (by walk_at "t_ro") ?_
  refine ⟨_, _, _, _, _, rfl, fresh_lt (by assumption) (by assumption) (by walk_at "t_mem") ?f1, isDat_of, fresh_lt (by assumption) (by assumption) (by walk_at "t_mem") ?f2, ⟨_, rfl⟩, fresh_lt (by assumption) (by assumption) (by walk_at "t_mem") ?f3⟩
  all_goals (simp only [List.mem_cons, List.not_mem_nil, or_false, forall_eq_or_imp, forall_eq]; omega)
end
end
section
theorem top_off_Hp : True := by
  w_top off
  trivial
section
variable {w : World}
set_option maxRecDepth 100000 in
set_option maxHeartbeats 8000000 in
theorem t_put {x d b ed pd t q : Addr} {num n : Int} {o2 : Obj} {xs ys : List (List Mix × Addr × Value)} {ex ey er et : Nat} {rs : List Value} {u1 u2 : Tok} (hx : atKey xs (markK n) = none) (hy : atKey ys (markK n) = none) (zx : xs.length < 50) (zy : ys.length < 50) (zr : rs.length < 50) {ro : List (Addr × Obj)} (m3 : (x, instObj 227 d) ∈ ro) (i2 : IsTab w num ed pd b o2) (m4 : (d, o2) ∈ ro) (mt : (t, tup [.str "INTEGER" u1, .int n u2] et) ∈ ro) (kx : KeysOk ro xs) (ky : KeysOk ro ys)
    (n1 : ed ≠ pd) (n2 : ed ≠ b) (n3 : pd ≠ b) (r1 : ∀ p ∈ ro, p.1 ≠ ed) (r2 : ∀ p ∈ ro, p.1 ≠ pd) (r3 : ∀ p ∈ ro, p.1 ≠ b) :
    TellD w 290 [.ref x, .ref t, .ref q] [(ed, tdOf PW w xs ex), (pd, tdOf PW w ys ey), (b, listOf rs.toArray er)] ro (fun h r h' => ∃ ex' ey' er' u, h'.get? ed = some (tdOf PW w (xs ++ [(markK n, t, Value.ref q)]) ex') ∧ h'.get? pd = some (tdOf PW w (ys ++ [(markK n, t, Value.int rs.length u)]) ey') ∧ h'.get? b = some (listOf (rs ++ [Value.ref q]).toArray er')) := by
  obtain ⟨_, _, rfl⟩ := i2
  walk_at "t_start"
  k_steps
  refine hret _ _ _ _ _ _ _ (by k_asm) (by assumption) (by k_asm) (by k_asm) (by walk_at "t_ro") ?_
  exact ⟨_, _, _, _, by walk_at "t_at", by walk_at "t_at", by rw [← List.push_toArray]; walk_at "t_at"⟩
end
end
section
theorem top_off_Hc_tbl : True := by
  w_top off
  trivial
section
variable {w : World}
set_option maxRecDepth 100000 in
set_option maxHeartbeats 8000000 in
theorem t_copyof_tbl {x d ed pd b : Addr} {num m : Int} {tm : Tok} {o2 : Obj} {l : List El} {ex : Nat} {ro : List (Addr × Obj)} (hl : l.length = 3) (m3 : (x, instObj 227 d) ∈ ro) (i2 : IsTab w num ed pd b o2) (m4 : (d, o2) ∈ ro) (m5 : (ed, tdOf PW w (elX l) ex) ∈ ro) (kx : KeysOk ro (elX l)) (hq : ∀ e ∈ l, ∃ o, IsLst [e.a, e.v] o ∧ (e.q, o) ∈ ro) :
    Tell w 330 [.ref x, .int m tm] [] ro (fun h r h' => TabP w l m h r h') := by
  have hS10 : Stop 10 := .mk
  obtain ⟨_, _, rfl⟩ := i2
  walk_at "t_start"
  k_steps
  refine Hold.in ?_
  rename Obj.IsDictOf (intKind _ _) _ [] => hi1
  obtain ⟨ep1, hh1⟩ := td_nil hi1
  subst hh1
  clear hi1
  rename Obj.IsDictOf (intKind _ _) _ [] => hi1
  obtain ⟨ep2, hh2⟩ := td_nil hi1
  subst hh2
  clear hi1
  rename Fr _ _ _ _ => lF9
  refine' For_invF lF9 ?hx ?hp ?_ ?hs ?hE
  case hx => rfl
  case hp => rfl
  case hs => (intro _; rfl)
  case hE => passes_own
  k_steps
  refine' tbl_loop (l := l) (ed := ed) ?h1 ?F ?N ?me ?hm ?r1 ?r2 ?r3 ?step ?done
  case h1 => rfl
  case F => k_asm
  case N => k_asm
  case me => walk_at "t_mem"
  case hm => exact not_mods (by assumption) (News.fresh (by assumption) (by walk_at "t_mem"))
  case r1 => (rename _ ∧ _ ∧ _ ∧ _ ∧ AllLt _ _ => hz; intro p hp; refine Nat.ne_of_lt (allLt_mem ?_ p hp); exact hz.2.2)
  case r2 => (rename _ ∧ _ ∧ _ ∧ AllLt _ _ => hz; intro p hp; refine Nat.ne_of_lt (allLt_mem ?_ p hp); exact hz.2)
  case r3 => (rename _ ∧ _ ∧ AllLt _ _ => hz; intro p hp; refine Nat.ne_of_lt (allLt_mem ?_ p hp); exact hz)
  case step =>
    intro i e X Y R Nn rest h tk ex' ey' er' K hle hC hbr q1 q2 q3 F1 N1 cont
    have hr : ∀ p ∈ ro, p ∈ rest := fun p hp => hbr p (List.mem_cons_of_mem _ (List.mem_cons_of_mem _ hp))
    have f1 := hbr _ (List.mem_cons_self ..)
    have f2 := hbr _ (List.mem_cons_of_mem _ (List.mem_cons_self ..))
    have hel : e ∈ l := List.mem_of_getElem? hle
    have m3' := hr _ m3
    have m4' := hr _ m4
    have m5' := hr _ m5
    obtain ⟨nk, uk1, uk2, ek9, hk1, hk2⟩ := kx.1 (markK e.n, e.t, Value.ref e.q) (List.mem_map.mpr ⟨e, hel, rfl⟩)
    have hkn : nk = e.n := by
      injection hk1 with _ h2
      injection h2 with h3 _
      injection h3 with h4
      exact h4.symm
    subst hkn
    have mt' := hr _ hk2
    obtain ⟨oq, hoq, mq⟩ := hq e hel
    obtain ⟨eq9, rfl⟩ := hoq
    have mq' := hr _ mq
    have kX := (keysOk_of kx (i := i) hC.keys.1).mono hr
    have kY := (keysOk_of kx (i := i) hC.keys.2.1).mono hr
    have kx' := kx.mono hr
    have aX := key_new kx hle hC.keys.1
    have aY := key_new kx hle hC.keys.2.1
    have ax := key_at kx.2 hle
    have lX := hC.keys.2.2.1
    have lY := hC.keys.2.2.2.1
    have lR := hC.keys.2.2.2.2
    have lT : (l.take i).length ≤ 3 := by rw [← hl]; exact List.length_take_le' ..
    k_steps
    rename _ ∧ _ ∧ _ ∧ AllLt _ _ => hz
    rename News _ _ _ _ => N9
    have z1 := Nat.ne_of_gt hz.1
    have z2 := Nat.ne_of_gt hz.2.1
    have z3 := Nat.ne_of_gt hz.2.2.1
    have zr := fun p hp => Nat.ne_of_lt (allLt_mem hz.2.2.2 p hp)
    refine Hold.in ?_
    refine' TellD.use (t_put (n := e.n) (xs := X) (ys := Y) (rs := R) (ro := _ :: rest) aX aY (by omega) (by omega) (by omega) (List.mem_cons_of_mem _ f1) isTab_of (List.mem_cons_of_mem _ f2) (List.mem_cons_of_mem _ mt') (kX.mono fun p hp => List.mem_cons_of_mem _ hp) (kY.mono fun p hp => List.mem_cons_of_mem _ hp) ?n1 ?n2 ?n3 (ne_cons z3 q3) (ne_cons z2 q2) (ne_cons z1 q1)) ?p1 ?p2 ?p3 ?p4 ?p5 ?p6 ?p7 (put_before N9) ?_
    case p1 => ktr_room
    case p2 => ktr_units
    case p3 => k_asm
    case p4 => k_asm
    case p5 => k_asm
    case p6 => k_asm
    case p7 => first | exact rfl | assumption
    case n1 => (refine Nat.ne_of_lt ?_; show @LT.lt Nat _ _ _; omega)
    case n2 => (refine Nat.ne_of_lt ?_; show @LT.lt Nat _ _ _; omega)
    case n3 => (refine Nat.ne_of_lt ?_; show @LT.lt Nat _ _ _; omega)
    intro rT hT tkT FT kT PT
    obtain ⟨ex2, ey2, er2, u2, g1, g2, g3⟩ := PT
    have N2 := put_after N9 kT z3 z2 z1 q1 q2 q3 g1 g2 g3
    k_steps
    exact cont _ _ _ _ _ _ _ _ _ ⟨_, rfl⟩ (fun z hz => if_neg hz) zr z1 z2 z3 (by k_asm) (by k_asm)
  case done =>
    intro h' tk X Y R Nn u ex' ey' er' hC hNb F1 N1
    k_steps
    refine hret _ _ _ _ _ _ _ (by k_asm) (by assumption) (by k_asm) (by k_asm) (fun p hp => by repeat (first | exact List.mem_append_right _ (List.mem_cons_of_mem _ (List.mem_cons_of_mem _ hp)) | refine List.mem_cons_of_mem _ ?_)) ?_
    refine tab_done (by assumption) N1 hC hNb isTab_of ?a1 ?a2 ?a3 ?a4 ?a5
    case a1 => (rename _ ∧ _ ∧ _ ∧ _ ∧ AllLt _ _ => hz; intro p hp; refine Nat.ne_of_lt (allLt_mem ?_ p hp); exact hz.2.2.2.2)
    case a2 => (rename _ ∧ _ ∧ _ ∧ AllLt _ _ => hz; intro p hp; refine Nat.ne_of_lt (allLt_mem ?_ p hp); exact hz.2.2.2)
    case a3 => (rename _ ∧ _ ∧ AllLt _ _ => hz; intro p hp; refine Nat.ne_of_lt (allLt_mem ?_ p hp); exact hz.2.2)
    all_goals (rename ∀ p ∈ ro, p.1 < _ => hz)
    case a5 => exact fun p hp => Nat.ne_of_lt (hz p hp)
    case a4 => exact fun p hp => Nat.ne_of_lt (Nat.lt_trans (hz p hp) (by assumption))
end
end
section
theorem top_off_Hn : True := by
  w_top off
  trivial
section
variable {w : World}
set_option maxRecDepth 100000 in
set_option maxHeartbeats 8000000 in
theorem t_next {x d hl : Addr} {n : Int} {tn : Tok} {yw : Nat → Tok} {vw : Nat → Value} (h0 : 0 ≤ n) (h1 : n < 100) (hne : d ≠ x) :
    Tell w 359 [.ref x] [(d, wdO w yw vw n tn hl)] [(x, instObj 348 d)] (fun h r h' => ∃ t, r = .int (n + 1) t ∧ h'.get? d = some (wdO w yw vw (n + 1) t hl)) := by
  walk_at "t_start"
  k_steps
  refine hret _ _ _ _ _ _ _ (by k_asm) (by assumption) (by k_asm) (by k_asm) (by intro p hp; rw [List.mem_singleton.mp hp]; walk_at "t_mem") ?_
  exact ⟨_, rfl, by walk_at "t_at"⟩
end
end
section
theorem top_off_Hh : True := by
  w_top off
  trivial
section
variable {w : World}
set_option maxRecDepth 100000 in
set_option maxHeartbeats 8000000 in
theorem t_held {wx wdd hl : Addr} {n : Int} {tn : Tok} {yw : Nat → Tok} {vw : Nat → Value} {hs : List Value} {v : Value} {eh : Nat} (zh : hs.length < 50) {ro : List (Addr × Obj)} (mw : (wx, instObj 348 wdd) ∈ ro) (md : (wdd, wdO w yw vw n tn hl) ∈ ro) (r2 : ∀ p ∈ ro, p.1 ≠ hl) :
    Tell w 366 [.ref wx, v] [(hl, listOf hs.toArray eh)] ro (fun h r h' => r = v ∧ ∃ eh', h'.get? hl = some (listOf (hs ++ [v]).toArray eh')) := by
  walk_at "t_start"
  k_steps
  refine hret _ _ _ _ _ _ _ (by k_asm) (by assumption) (by k_asm) (by k_asm) (by walk_at "t_ro") ?_
  exact ⟨rfl, _, by rw [← List.push_toArray]; walk_at "t_at"⟩
end
end
section
theorem top_off_Hm_arr : True := by
  w_top off
  trivial
section
variable {w : World}
set_option maxRecDepth 100000 in
set_option maxHeartbeats 8000000 in
theorem t_made_arr {x d wx wdd hl : Addr} {n : Int} {tn : Tok} {yw : Nat → Tok} {vw : Nat → Value} {hs : List Value} {eh : Nat} (h0 : 0 ≤ n) (h1 : n < 90) (zh : hs.length < 50) {ro : List (Addr × Obj)} {Po : Heap → Value → Heap → Prop} (pm : ∀ h1 r h2 h h', (∀ a o, Fresh h1 h2 a o → Fresh h h' a o) → Po h1 r h2 → Po h r h') (mx : (x, instObj 208 d) ∈ ro) {des : List DictEntry} {dee : Nat} (md : (d, dictOf des dee) ∈ ro)
    (c : ∀ tm, Tell w 330 [.ref x, .int (n + 1) tm] [] ro Po) (mw : (wx, instObj 348 wdd) ∈ ro)
    (n1 : wdd ≠ wx) (n2 : wdd ≠ hl) (r1 : ∀ p ∈ ro, p.1 ≠ wdd) (r2 : ∀ p ∈ ro, p.1 ≠ hl) :
    TellU w 394 [.ref wx, .ref x] [(wdd, wdO w yw vw n tn hl), (hl, listOf hs.toArray eh)] ro (fun h r h' => (∃ t, h'.get? wdd = some (wdO w yw vw (n + 1) t hl)) ∧ (∃ eh', h'.get? hl = some (listOf (hs ++ [r]).toArray eh')) ∧ Po h r h') := by
  walk_at "t_start"
  k_steps
  have kE := kept_ro (tp := []) (by assumption) (by assumption) (by assumption) N (fun p hp => hp)
  rename News _ _ _ _ => N9
  refine Hold.in ?_
  refine' Tell.use (t_next (x := wx) (d := wdd) h0 (by omega) n1) ?p1 ?p2 ?p3 ?p4 ?p5 ?p6 ?p7 (two_of N9 (List.mem_cons_self ..) (List.mem_cons_of_mem _ (List.mem_cons_of_mem _ mw))) ?_
  case p1 => ktr_room
  case p2 => ktr_units
  case p3 => k_asm
  case p4 => k_asm
  case p5 => k_asm
  case p6 => k_asm
  case p7 => first | exact rfl | assumption
  intro q1 h1 tk1 F1 k1 P1
  obtain ⟨t1, hq1, g1⟩ := P1
  subst hq1
  have N1 := head_after N9 k1 (ne_cons n2.symm r1) g1
  clear N9
  k_steps
  refine Hold.in ?_
  refine' Tell.use (c t1) ?p1 ?p2 ?p3 ?p4 ?p5 ?p6 ?p7 (fun p hp => N1 p (List.mem_cons_of_mem _ (List.mem_cons_of_mem _ hp))) ?_
  case p1 => ktr_room
  case p2 => ktr_units
  case p3 => k_asm
  case p4 => k_asm
  case p5 => k_asm
  case p6 => k_asm
  case p7 => first | exact rfl | assumption
  intro q2 h2 tk2 F2 k2 P2
  have N2 := News.grown N1 (fun b o e => k2 b o e (fun h => nomatch h))
  k_steps
  refine Hold.in ?_
  refine' Tell.use (t_held (v := q2) (hl := hl) (ro := _ :: ro) zh (List.mem_cons_of_mem _ mw) (List.mem_cons_self ..) (ne_cons n2 r2)) ?p1 ?p2 ?p3 ?p4 ?p5 ?p6 ?p7 (swap_of N2) ?_
  case p1 => ktr_room
  case p2 => ktr_units
  case p3 => k_asm
  case p4 => k_asm
  case p5 => k_asm
  case p6 => k_asm
  case p7 => first | exact rfl | assumption
  intro q3 h3 tk3 F3 k3 P3
  obtain ⟨hq3, eh', g3⟩ := P3
  subst hq3
  have N3 := head_after (swap_of N2) k3 (ne_cons n2 r2) g3
  k_steps
  refine hret _ _ _ _ _ _ _ (by k_asm) (by assumption) (by k_asm) (by k_asm) (by walk_at "t_ro") ?_
  refine ⟨⟨t1, by walk_at "t_at"⟩, ⟨eh', by walk_at "t_at"⟩, pm _ _ _ _ _ (fun a o f => fresh_trans (GSub.trans kE k1) ?_ k3 ?_ f) P2⟩
  · intro b hb
    rw [List.mem_singleton.mp hb]
    exact ⟨_, g1⟩
  · intro b hb
    rw [List.mem_singleton.mp hb]
    exact ⟨_, (N1 _ (List.mem_cons_of_mem _ (List.mem_cons_self ..))).1⟩
end
end
section
theorem top_off_Hm_tbl : True := by
  w_top off
  trivial
section
variable {w : World}
set_option maxRecDepth 100000 in
set_option maxHeartbeats 8000000 in
theorem t_made_tbl {x d wx wdd hl : Addr} {n : Int} {tn : Tok} {yw : Nat → Tok} {vw : Nat → Value} {hs : List Value} {eh : Nat} (h0 : 0 ≤ n) (h1 : n < 90) (zh : hs.length < 50) {ro : List (Addr × Obj)} {Po : Heap → Value → Heap → Prop} (pm : ∀ h1 r h2 h h', (∀ a o, Fresh h1 h2 a o → Fresh h h' a o) → Po h1 r h2 → Po h r h') (mx : (x, instObj 227 d) ∈ ro) {des : List DictEntry} {dee : Nat} (md : (d, dictOf des dee) ∈ ro)
    (c : ∀ tm, Tell w 330 [.ref x, .int (n + 1) tm] [] ro Po) (mw : (wx, instObj 348 wdd) ∈ ro)
    (n1 : wdd ≠ wx) (n2 : wdd ≠ hl) (r1 : ∀ p ∈ ro, p.1 ≠ wdd) (r2 : ∀ p ∈ ro, p.1 ≠ hl) :
    TellU w 394 [.ref wx, .ref x] [(wdd, wdO w yw vw n tn hl), (hl, listOf hs.toArray eh)] ro (fun h r h' => (∃ t, h'.get? wdd = some (wdO w yw vw (n + 1) t hl)) ∧ (∃ eh', h'.get? hl = some (listOf (hs ++ [r]).toArray eh')) ∧ Po h r h') := by
  walk_at "t_start"
  k_steps
  have kE := kept_ro (tp := []) (by assumption) (by assumption) (by assumption) N (fun p hp => hp)
  rename News _ _ _ _ => N9
  refine Hold.in ?_
  refine' Tell.use (t_next (x := wx) (d := wdd) h0 (by omega) n1) ?p1 ?p2 ?p3 ?p4 ?p5 ?p6 ?p7 (two_of N9 (List.mem_cons_self ..) (List.mem_cons_of_mem _ (List.mem_cons_of_mem _ mw))) ?_
  case p1 => ktr_room
  case p2 => ktr_units
  case p3 => k_asm
  case p4 => k_asm
  case p5 => k_asm
  case p6 => k_asm
  case p7 => first | exact rfl | assumption
  intro q1 h1 tk1 F1 k1 P1
  obtain ⟨t1, hq1, g1⟩ := P1
  subst hq1
  have N1 := head_after N9 k1 (ne_cons n2.symm r1) g1
  clear N9
  k_steps
  refine Hold.in ?_
  refine' Tell.use (c t1) ?p1 ?p2 ?p3 ?p4 ?p5 ?p6 ?p7 (fun p hp => N1 p (List.mem_cons_of_mem _ (List.mem_cons_of_mem _ hp))) ?_
  case p1 => ktr_room
  case p2 => ktr_units
  case p3 => k_asm
  case p4 => k_asm
  case p5 => k_asm
  case p6 => k_asm
  case p7 => first | exact rfl | assumption
  intro q2 h2 tk2 F2 k2 P2
  have N2 := News.grown N1 (fun b o e => k2 b o e (fun h => nomatch h))
  k_steps
  refine Hold.in ?_
  refine' Tell.use (t_held (v := q2) (hl := hl) (ro := _ :: ro) zh (List.mem_cons_of_mem _ mw) (List.mem_cons_self ..) (ne_cons n2 r2)) ?p1 ?p2 ?p3 ?p4 ?p5 ?p6 ?p7 (swap_of N2) ?_
  case p1 => ktr_room
  case p2 => ktr_units
  case p3 => k_asm
  case p4 => k_asm
  case p5 => k_asm
  case p6 => k_asm
  case p7 => first | exact rfl | assumption
  intro q3 h3 tk3 F3 k3 P3
  obtain ⟨hq3, eh', g3⟩ := P3
  subst hq3
  have N3 := head_after (swap_of N2) k3 (ne_cons n2 r2) g3
  k_steps
  refine hret _ _ _ _ _ _ _ (by k_asm) (by assumption) (by k_asm) (by k_asm) (by walk_at "t_ro") ?_
  refine ⟨⟨t1, by walk_at "t_at"⟩, ⟨eh', by walk_at "t_at"⟩, pm _ _ _ _ _ (fun a o f => fresh_trans (GSub.trans kE k1) ?_ k3 ?_ f) P2⟩
  · intro b hb
    rw [List.mem_singleton.mp hb]
    exact ⟨_, g1⟩
  · intro b hb
    rw [List.mem_singleton.mp hb]
    exact ⟨_, (N1 _ (List.mem_cons_of_mem _ (List.mem_cons_self ..))).1⟩
end
end
section
theorem top_off_Hm_dat : True := by
  w_top off
  trivial
section
variable {w : World}
set_option maxRecDepth 100000 in
set_option maxHeartbeats 8000000 in
theorem t_made_dat {x d wx wdd hl : Addr} {n : Int} {tn : Tok} {yw : Nat → Tok} {vw : Nat → Value} {hs : List Value} {eh : Nat} (h0 : 0 ≤ n) (h1 : n < 90) (zh : hs.length < 50) {ro : List (Addr × Obj)} {Po : Heap → Value → Heap → Prop} (pm : ∀ h1 r h2 h h', (∀ a o, Fresh h1 h2 a o → Fresh h h' a o) → Po h1 r h2 → Po h r h') (mx : (x, instObj 246 d) ∈ ro) {des : List DictEntry} {dee : Nat} (md : (d, dictOf des dee) ∈ ro)
    (c : ∀ tm, Tell w 330 [.ref x, .int (n + 1) tm] [] ro Po) (mw : (wx, instObj 348 wdd) ∈ ro)
    (n1 : wdd ≠ wx) (n2 : wdd ≠ hl) (r1 : ∀ p ∈ ro, p.1 ≠ wdd) (r2 : ∀ p ∈ ro, p.1 ≠ hl) :
    TellU w 394 [.ref wx, .ref x] [(wdd, wdO w yw vw n tn hl), (hl, listOf hs.toArray eh)] ro (fun h r h' => (∃ t, h'.get? wdd = some (wdO w yw vw (n + 1) t hl)) ∧ (∃ eh', h'.get? hl = some (listOf (hs ++ [r]).toArray eh')) ∧ Po h r h') := by
  walk_at "t_start"
  k_steps
  have kE := kept_ro (tp := []) (by assumption) (by assumption) (by assumption) N (fun p hp => hp)
  rename News _ _ _ _ => N9
  refine Hold.in ?_
  refine' Tell.use (t_next (x := wx) (d := wdd) h0 (by omega) n1) ?p1 ?p2 ?p3 ?p4 ?p5 ?p6 ?p7 (two_of N9 (List.mem_cons_self ..) (List.mem_cons_of_mem _ (List.mem_cons_of_mem _ mw))) ?_
  case p1 => ktr_room
  case p2 => ktr_units
  case p3 => k_asm
  case p4 => k_asm
  case p5 => k_asm
  case p6 => k_asm
  case p7 => first | exact rfl | assumption
  intro q1 h1 tk1 F1 k1 P1
  obtain ⟨t1, hq1, g1⟩ := P1
  subst hq1
  have N1 := head_after N9 k1 (ne_cons n2.symm r1) g1
  clear N9
  k_steps
  refine Hold.in ?_
  refine' Tell.use (c t1) ?p1 ?p2 ?p3 ?p4 ?p5 ?p6 ?p7 (fun p hp => N1 p (List.mem_cons_of_mem _ (List.mem_cons_of_mem _ hp))) ?_
  case p1 => ktr_room
  case p2 => ktr_units
  case p3 => k_asm
  case p4 => k_asm
  case p5 => k_asm
  case p6 => k_asm
  case p7 => first | exact rfl | assumption
  intro q2 h2 tk2 F2 k2 P2
  have N2 := News.grown N1 (fun b o e => k2 b o e (fun h => nomatch h))
  k_steps
  refine Hold.in ?_
  refine' Tell.use (t_held (v := q2) (hl := hl) (ro := _ :: ro) zh (List.mem_cons_of_mem _ mw) (List.mem_cons_self ..) (ne_cons n2 r2)) ?p1 ?p2 ?p3 ?p4 ?p5 ?p6 ?p7 (swap_of N2) ?_
  case p1 => ktr_room
  case p2 => ktr_units
  case p3 => k_asm
  case p4 => k_asm
  case p5 => k_asm
  case p6 => k_asm
  case p7 => first | exact rfl | assumption
  intro q3 h3 tk3 F3 k3 P3
  obtain ⟨hq3, eh', g3⟩ := P3
  subst hq3
  have N3 := head_after (swap_of N2) k3 (ne_cons n2 r2) g3
  k_steps
  refine hret _ _ _ _ _ _ _ (by k_asm) (by assumption) (by k_asm) (by k_asm) (by walk_at "t_ro") ?_
  refine ⟨⟨t1, by walk_at "t_at"⟩, ⟨eh', by walk_at "t_at"⟩, pm _ _ _ _ _ (fun a o f => fresh_trans (GSub.trans kE k1) ?_ k3 ?_ f) P2⟩
  · intro b hb
    rw [List.mem_singleton.mp hb]
    exact ⟨_, g1⟩
  · intro b hb
    rw [List.mem_singleton.mp hb]
    exact ⟨_, (N1 _ (List.mem_cons_of_mem _ (List.mem_cons_self ..))).1⟩
end
end
section
theorem fresh_diff {h h' : Heap} {a b : Addr} {o x : Obj} (f : Fresh h h' a o) (g : Fresh h h' b x) (n : o ≠ x) : a ≠ b := fun e => by
  have q := f.2
  rw [e, g.2] at q
  exact n (Option.some.inj q).symm
theorem ne_cls {o x : Obj} (h : o.cls ≠ x.cls) : o ≠ x := fun e => h (congrArg Obj.cls e)
inductive CpI (X Y : List (List Mix × Addr × Value)) (R : List Value) (N : List (Addr × Obj)) (l : List El) (e : El) : Prop
  | mk (X' Y' : List (List Mix × Addr × Value)) (R' : List Value) (N' : List (Addr × Obj)) (q : Addr) (o : Obj) (u : Tok) (c : Cp l X' Y' R' N') (i : IsLst [e.a, e.v] o) (eX : X = X' ++ [(markK e.n, e.t, Value.ref q)]) (eY : Y = Y' ++ [(markK e.n, e.t, Value.int R'.length u)]) (eR : R = R' ++ [Value.ref q]) (eN : N = (q, o) :: N')
theorem Cp.inv {L : List El} {X Y : List (List Mix × Addr × Value)} {R : List Value} {N : List (Addr × Obj)} (c : Cp L X Y R N) {l : List El} {e : El} (h : L = l ++ [e]) :
    CpI X Y R N l e := by
  cases c with
  | nil => simp at h
  | snoc c e' q o u i =>
    obtain ⟨rfl, h2⟩ := List.append_inj' h rfl
    obtain rfl : e' = e := by simpa using h2
    exact ⟨_, _, _, _, q, o, u, c, i, rfl, rfl, rfl, rfl⟩
theorem Cp.inv0 {X Y : List (List Mix × Addr × Value)} {R : List Value} {N : List (Addr × Obj)} (c : Cp [] X Y R N) : X = [] ∧ Y = [] ∧ R = [] ∧ N = [] := by
  generalize hL : ([] : List El) = L at c
  cases c with
  | nil => exact ⟨rfl, rfl, rfl, rfl⟩
  | snoc c e q o u i => simp at hL
theorem Cp.inv3 {e0 e1 e2 : El} {X Y : List (List Mix × Addr × Value)} {R : List Value} {N : List (Addr × Obj)} (c : Cp [e0, e1, e2] X Y R N) :
    ∃ q0 q1 q2 o0 o1 o2 u0 u1 u2, IsLst [e0.a, e0.v] o0 ∧ IsLst [e1.a, e1.v] o1 ∧ IsLst [e2.a, e2.v] o2 ∧ X = elX [{ e0 with q := q0 }, { e1 with q := q1 }, { e2 with q := q2 }] ∧ Y = plY e0 e1 e2 u0 u1 u2 ∧ R = [.ref q0, .ref q1, .ref q2] ∧ N = [(q2, o2), (q1, o1), (q0, o0)] := by
  obtain ⟨X1, Y1, R1, N1, q2, o2, u2, c1, i2, a1, a2, a3, a4⟩ := c.inv (l := [e0, e1]) rfl
  obtain ⟨X2, Y2, R2, N2, q1, o1, u1, c2, i1, b1, b2, b3, b4⟩ := c1.inv (l := [e0]) rfl
  obtain ⟨X3, Y3, R3, N3, q0, o0, u0, c3, i0, d1, d2, d3, d4⟩ := c2.inv (l := []) rfl
  obtain ⟨z1, z2, z3, z4⟩ := c3.inv0
  refine ⟨q0, q1, q2, o0, o1, o2, u0, u1, u2, i0, i1, i2, ?_, ?_, ?_, ?_⟩
  · rw [a1, b1, d1, z1]; rfl
  · rw [a2, b2, b3, d2, d3, z2, z3]; rfl
  · rw [a3, b3, d3, z3]; rfl
  · rw [a4, b4, d4, z4]
section
variable {w : World} {F ro : FX} {H : HR}
inductive CopyPost (w : World) (F : FX) (H : HR) (m : Int) (h : Heap) (r : Value) (h' : Heap) : Prop
  | mk (H' : HR) (fx : FX) (e : r = .ref H'.x) (k : H'.kd = H.kd) (n : H'.num = m) (v : H'.vs = H.vs) (a : ∀ p ∈ fx, Fresh h h' p.1 p.2) (b : ∀ p ∈ H'.cs, Fresh h h' p.1 p.2) (ok : ∀ F' : FX, (∀ p ∈ F, p ∈ F') → (∀ p ∈ fx, p ∈ F') → HolOk w F' H') (nd : (H'.cs.map (·.1)).Nodup) (sp : ∀ p ∈ fx, p.1 ∉ H'.cs.map (·.1))
theorem CopyPost.mono {m : Int} {h1 h2 h h' : Heap} {r : Value} (f : ∀ a o, Fresh h1 h2 a o → Fresh h h' a o) : CopyPost w F H m h1 r h2 → CopyPost w F H m h r h' := fun ⟨H', fx, e, k, n, v, a, b, c, d, g⟩ => ⟨H', fx, e, k, n, v, fun p hp => f _ _ (a p hp), fun p hp => f _ _ (b p hp), c, d, g⟩
theorem u_copyof {m : Int} {tm : Tok} (hH : HolOk w F H) (hF : ∀ p ∈ F, p ∈ ro) (hc : ∀ p ∈ H.cs, p ∈ ro) : Tell w 330 [.ref H.x, .int m tm] [] ro (CopyPost w F H m) := by
  rcases hH with ⟨k, b, o, v0, v1, v2, ⟨d, o2, bl, o3, bt, o4, u1, u2, m1, i, m2, i3, m3, i4, m4⟩, hvs, il, hcs⟩ | ⟨k, e0, e1, e2, o0, oo1, oo2, ⟨d, o2', ed, pd, b, ex, ey, er, u0, u1, u2, a0, a1, a2, m1, i, m2, m3, m4, m5, kx, q0, q1, q2, z0, z1, z2⟩, hvs, il0, il1, il2, hcs⟩ | ⟨k, b, o, v0, v1, v2, ⟨d, o2, fl, o3, u1, u2, u3, m1, i, m2, i3, m3⟩, hvs, il, hcs⟩
  · rw [hcs] at hc
    refine ((t_copyof_arr (m := m) (tm := tm) (d := d) (b := b) (v1 := v0) (v2 := v1) (v3 := v2) i i3 i4 il).wide (ro' := ro) fun p hp => ?_).post fun h r h' => ?_
    · simp only [List.mem_cons, List.not_mem_nil, or_false] at hp
      rcases hp with rfl | rfl | rfl | rfl | rfl
      · exact hF _ m1
      · exact hF _ m2
      · exact hF _ m3
      · exact hF _ m4
      · exact hc _ (List.mem_cons_self ..)
    · rintro ⟨x', d', b', o2', o3', rfl, fx, ia, fd, ib, fb⟩
      refine ⟨⟨0, x', m, [v0, v1, v2], [(b', o3')]⟩, [(x', instObj 208 d'), (d', o2')], rfl, k.symm, rfl, hvs.symm, fun p hp => ?_, fun p hp => ?_, fun F' s1 s2 => ?_, by simp, fun p hp => ?_⟩
      · rcases List.mem_cons.mp hp with rfl | hp
        · exact fx
        · rw [List.mem_singleton.mp hp]; exact fd
      · rw [List.mem_singleton.mp hp]; exact fb
      · exact (.arr rfl b' o3' v0 v1 v2 ⟨d', o2', bl, o3, bt, o4, u1, u2, s2 _ (List.mem_cons_self ..), ia, s2 _ (List.mem_cons_of_mem _ (List.mem_cons_self ..)), i3, s1 _ m3, i4, s1 _ m4⟩ rfl ib rfl)
      · obtain ⟨e', rfl⟩ := ib
        obtain ⟨_, _, rfl⟩ := ia
        simp only [List.map_cons, List.map_nil, List.mem_singleton]
        rcases List.mem_cons.mp hp with rfl | hp
        · exact fresh_diff fx fb (by intro h; cases h)
        · rw [List.mem_singleton.mp hp]; exact fresh_diff fd fb (ne_cls (by simp))
  · rw [hcs] at hc
    refine ((t_copyof_tbl (m := m) (tm := tm) (l := [e0, e1, e2]) (ro := ro) rfl (hF _ m1) i (hF _ m2) (hF _ m3) (kx.mono hF) fun e he => ?_)).post fun h r h' => ?_
    · simp only [List.mem_cons, List.not_mem_nil, or_false] at he
      rcases he with rfl | rfl | rfl
      · exact ⟨_, il0, hc _ (List.mem_cons_self ..)⟩
      · exact ⟨_, il1, hc _ (List.mem_cons_of_mem _ (List.mem_cons_self ..))⟩
      · exact ⟨_, il2, hc _ (List.mem_cons_of_mem _ (List.mem_cons_of_mem _ (List.mem_cons_self ..)))⟩
    · rintro ⟨x', d', ed', pd', b', o2'', X, Y, R, N, ex', ey', er', rfl, fx, ia, fd, c, fe, fp, fb, fN⟩
      obtain ⟨p0, p1, p2, ob0, ob1, ob2, v0, v1, v2, j0, j1, j2, rfl, rfl, rfl, rfl⟩ := c.inv3
      have f2 := fN _ (List.mem_cons_self ..)
      have f1 := fN _ (List.mem_cons_of_mem _ (List.mem_cons_self ..))
      have f0 := fN _ (List.mem_cons_of_mem _ (List.mem_cons_of_mem _ (List.mem_cons_self ..)))
      refine ⟨⟨1, x', m, [e0.v, e1.v, e2.v], [(p0, ob0), (p1, ob1), (p2, ob2)]⟩, [(x', instObj 227 d'), (d', o2''), (ed', tdOf PW w (elX [{ e0 with q := p0 }, { e1 with q := p1 }, { e2 with q := p2 }]) ex'), (pd', tdOf PW w (plY e0 e1 e2 v0 v1 v2) ey'), (b', listOf [Value.ref p0, .ref p1, .ref p2].toArray er')], rfl, k.symm, rfl, hvs.symm, fun p hp => ?_, fun p hp => ?_, fun F' s1 s2 => ?_, ?_, fun p hp => ?_⟩
      · simp only [List.mem_cons, List.not_mem_nil, or_false] at hp
        rcases hp with rfl | rfl | rfl | rfl | rfl
        · exact fx
        · exact fd
        · exact fe
        · exact fp
        · exact fb
      · simp only [List.mem_cons, List.not_mem_nil, or_false] at hp
        rcases hp with rfl | rfl | rfl
        · exact f0
        · exact f1
        · exact f2
      · refine (.tbl rfl { e0 with q := p0 } { e1 with q := p1 } { e2 with q := p2 } ob0 ob1 ob2 ⟨d', o2'', ed', pd', b', ex', ey', er', v0, v1, v2, a0, a1, a2, s2 _ (List.mem_cons_self ..), ia, s2 _ (List.mem_cons_of_mem _ (List.mem_cons_self ..)), s2 _ (List.mem_cons_of_mem _ (List.mem_cons_of_mem _ (List.mem_cons_self ..))), s2 _ (List.mem_cons_of_mem _ (List.mem_cons_of_mem _ (List.mem_cons_of_mem _ (List.mem_cons_self ..)))), s2 _ (List.mem_cons_of_mem _ (List.mem_cons_of_mem _ (List.mem_cons_of_mem _ (List.mem_cons_of_mem _ (List.mem_cons_self ..))))), ?_, q0, q1, q2, z0, z1, z2⟩ rfl j0 j1 j2 rfl)
        have kx' := kx.mono s1
        refine ⟨fun x hx => ?_, kx'.2⟩
        simp only [elX, List.map_cons, List.map_nil, List.mem_cons, List.not_mem_nil, or_false] at hx
        rcases hx with rfl | rfl | rfl
        · exact kx'.1 (markK e0.n, e0.t, .ref e0.q) (List.mem_cons_self ..)
        · exact kx'.1 (markK e1.n, e1.t, .ref e1.q) (List.mem_cons_of_mem _ (List.mem_cons_self ..))
        · exact kx'.1 (markK e2.n, e2.t, .ref e2.q) (List.mem_cons_of_mem _ (List.mem_cons_of_mem _ (List.mem_cons_self ..)))
      · obtain ⟨_, rfl⟩ := j0
        obtain ⟨_, rfl⟩ := j1
        obtain ⟨_, rfl⟩ := j2
        rw [z0] at f0
        rw [z1] at f1
        rw [z2] at f2
        have h01 := fresh_diff f0 f1 (by intro h; simp at h)
        have h02 := fresh_diff f0 f2 (by intro h; simp at h)
        have h12 := fresh_diff f1 f2 (by intro h; simp at h)
        simp only at h01 h02 h12
        simp [h01, h02, h12]
      · obtain ⟨_, rfl⟩ := j0
        obtain ⟨_, rfl⟩ := j1
        obtain ⟨_, rfl⟩ := j2
        obtain ⟨_, _, rfl⟩ := ia
        simp only [List.map_cons, List.map_nil, List.mem_cons, List.not_mem_nil, or_false, not_or]
        simp only [List.mem_cons, List.not_mem_nil, or_false] at hp
        rcases hp with rfl | rfl | rfl | rfl | rfl
        · exact ⟨fresh_diff fx f0 (by intro h; cases h), fresh_diff fx f1 (by intro h; cases h), fresh_diff fx f2 (by intro h; cases h)⟩
        · exact ⟨fresh_diff fd f0 (ne_cls (by simp)), fresh_diff fd f1 (ne_cls (by simp)), fresh_diff fd f2 (ne_cls (by simp))⟩
        · exact ⟨fresh_diff fe f0 (ne_cls (by simp)), fresh_diff fe f1 (ne_cls (by simp)), fresh_diff fe f2 (ne_cls (by simp))⟩
        · exact ⟨fresh_diff fp f0 (ne_cls (by simp)), fresh_diff fp f1 (ne_cls (by simp)), fresh_diff fp f2 (ne_cls (by simp))⟩
        · exact ⟨fresh_diff fb f0 (by intro h; simp at h), fresh_diff fb f1 (by intro h; simp at h), fresh_diff fb f2 (by intro h; simp at h)⟩
  · rw [hcs] at hc
    refine ((t_copyof_dat (m := m) (tm := tm) (d := d) (b := b) (v1 := v0) (v2 := v1) (v3 := v2) i il).wide (ro' := ro) fun p hp => ?_).post fun h r h' => ?_
    · simp only [List.mem_cons, List.not_mem_nil, or_false] at hp
      rcases hp with rfl | rfl | rfl
      · exact hF _ m1
      · exact hF _ m2
      · exact hc _ (List.mem_cons_self ..)
    · rintro ⟨x', d', b', o2', o3', rfl, fx, ia, fd, ib, fb⟩
      refine ⟨⟨2, x', m, [v0, v1, v2], [(b', o3')]⟩, [(x', instObj 246 d'), (d', o2')], rfl, k.symm, rfl, hvs.symm, fun p hp => ?_, fun p hp => ?_, fun F' s1 s2 => ?_, by simp, fun p hp => ?_⟩
      · rcases List.mem_cons.mp hp with rfl | hp
        · exact fx
        · rw [List.mem_singleton.mp hp]; exact fd
      · rw [List.mem_singleton.mp hp]; exact fb
      · exact (.dat rfl b' o3' v0 v1 v2 ⟨d', o2', fl, o3, u1, u2, u3, s2 _ (List.mem_cons_self ..), ia, s2 _ (List.mem_cons_of_mem _ (List.mem_cons_self ..)), i3, s1 _ m3⟩ rfl ib rfl)
      · obtain ⟨e', rfl⟩ := ib
        obtain ⟨_, _, rfl⟩ := ia
        simp only [List.map_cons, List.map_nil, List.mem_singleton]
        rcases List.mem_cons.mp hp with rfl | hp
        · exact fresh_diff fx fb (by intro h; cases h)
        · rw [List.mem_singleton.mp hp]; exact fresh_diff fd fb (ne_cls (by simp))
theorem u_copy {wx wdd hl : Addr} {n : Int} {ow : Obj} {hs : List Value} {eh : Nat} (hH : HolOk w F H) (h0 : 0 ≤ n) (h1 : n < 90) (zh : hs.length < 50) (iw : IsWd w n hl ow) (hF : ∀ p ∈ F, p ∈ ro) (hc : ∀ p ∈ H.cs, p ∈ ro) (mw : (wx, instObj 348 wdd) ∈ ro)
    (n1 : wdd ≠ wx) (n2 : wdd ≠ hl) (r1 : ∀ p ∈ ro, p.1 ≠ wdd) (r2 : ∀ p ∈ ro, p.1 ≠ hl) :
    TellU w 394 [.ref wx, .ref H.x] [(wdd, ow), (hl, listOf hs.toArray eh)] ro (fun h r h' => (∃ o', IsWd w (n + 1) hl o' ∧ h'.get? wdd = some o') ∧ (∃ eh', h'.get? hl = some (listOf (hs ++ [r]).toArray eh')) ∧ CopyPost w F H (n + 1) h r h') := by
  have c := fun tm => u_copyof (m := n + 1) (tm := tm) hH hF hc
  obtain ⟨_, _, _, rfl⟩ := iw
  obtain ⟨d, o2, m2, hh⟩ := hH.head
  rcases hh with ⟨m1, bl, b, i⟩ | ⟨m1, ed, pd, b, i⟩ | ⟨m1, fl, b, i⟩
  · obtain ⟨_, _, rfl⟩ := i
    refine (t_made_arr (Po := CopyPost w F H (n + 1)) h0 h1 zh (fun _ _ _ _ _ f => CopyPost.mono f) (hF _ m1) (hF _ m2) c mw n1 n2 r1 r2).post fun h r h' => ?_
    rintro ⟨⟨t, g⟩, e, p⟩
    exact ⟨⟨_, ⟨_, _, _, rfl⟩, g⟩, e, p⟩
  · obtain ⟨_, _, rfl⟩ := i
    refine (t_made_tbl (Po := CopyPost w F H (n + 1)) h0 h1 zh (fun _ _ _ _ _ f => CopyPost.mono f) (hF _ m1) (hF _ m2) c mw n1 n2 r1 r2).post fun h r h' => ?_
    rintro ⟨⟨t, g⟩, e, p⟩
    exact ⟨⟨_, ⟨_, _, _, rfl⟩, g⟩, e, p⟩
  · obtain ⟨_, _, rfl⟩ := i
    refine (t_made_dat (Po := CopyPost w F H (n + 1)) h0 h1 zh (fun _ _ _ _ _ f => CopyPost.mono f) (hF _ m1) (hF _ m2) c mw n1 n2 r1 r2).post fun h r h' => ?_
    rintro ⟨⟨t, g⟩, e, p⟩
    exact ⟨⟨_, ⟨_, _, _, rfl⟩, g⟩, e, p⟩
end
end
section
theorem top_off_Gt_nil : True := by
  w_top off
  trivial
section
variable {w : World}
set_option maxRecDepth 100000 in
set_option maxHeartbeats 8000000 in
theorem t_take_nil {bx ib : Addr} {n wd : Int} {tn tw : Tok} {e1 e2 : Nat} (hne : bx ≠ ib) (h0 : 0 ≤ n) (h1 : n < 100) (w0 : 0 < wd) (w1 : wd < 100) {vs : List Value} (hv : vs = []) :
    Tell w 401 [.ref bx, .int wd tw] [(bx, listOf [.ref ib, .int n tn].toArray e1), (ib, listOf vs.toArray e2)] [] (fun _ r h' => TakeP bx ib n wd vs.length r h') := by
  subst hv
  walk_at "t_start"
  k_steps
  all_goals (refine hret _ _ _ _ _ _ _ (by k_asm) (by assumption) (by k_asm) (by k_asm) (by intro p hp; cases hp) ?_)
  all_goals exact ⟨_, _, [], _, _, _, rfl, Int.fmod_nonneg_of_pos _ w0, Int.fmod_lt_of_pos _ w0, ⟨_, rfl⟩, by walk_at "t_at", ⟨_, rfl⟩, by walk_at "t_at", ⟨_, .nil⟩, Nat.le_refl _⟩
end
end
section
theorem top_off_Gt_cons : True := by
  w_top off
  trivial
section
variable {w : World}
set_option maxRecDepth 100000 in
set_option maxHeartbeats 8000000 in
theorem t_take_cons {bx ib : Addr} {n wd : Int} {tn tw : Tok} {e1 e2 : Nat} (hne : bx ≠ ib) (h0 : 0 ≤ n) (h1 : n < 100) (w0 : 0 < wd) (w1 : wd < 100) {x : Int} {tx : Tok} {xs : List Int} {vs us : List Value} (hu : us = .int x tx :: vs) (hI : IntsAre (.int x tx :: vs) (x :: xs)) (hI2 : IntsAre vs xs) (hl : vs.length < 63) :
    Tell w 401 [.ref bx, .int wd tw] [(bx, listOf [.ref ib, .int n tn].toArray e1), (ib, listOf us.toArray e2)] [] (fun _ r h' => TakeP bx ib n wd us.length r h') := by
  subst hu
  walk_at "t_start"
  k_steps
  · exact absurd (of_decide_eq_true (by assumption : decide (x :: xs = []) = true)) (by simp)
  all_goals (refine hret _ _ _ _ _ _ _ (by k_asm) (by assumption) (by k_asm) (by k_asm) (by intro p hp; cases hp) ?_)
  all_goals exact ⟨_, _, vs, _, _, _, rfl, Int.fmod_nonneg_of_pos _ w0, Int.fmod_lt_of_pos _ w0, ⟨_, rfl⟩, by walk_at "t_at", ⟨_, rfl⟩, by walk_at "t_at", ⟨_, hI2⟩, Nat.le_succ _⟩
end
end
section
theorem top_off_Gt_take : True := by
  w_top off
  trivial
section
variable {w : World}
theorem take_down {vs : List Value} {xs : List Int} (h : IntsAre vs xs) : vs = [] ∨ ∃ x tx vs' xs', vs = .int x tx :: vs' ∧ IntsAre (.int x tx :: vs') (x :: xs') ∧ IntsAre vs' xs' := by
  cases h with
  | nil => exact .inl rfl
  | cons k t r => exact .inr ⟨_, _, _, _, rfl, .cons _ _ r, r⟩
theorem t_take {bx ib : Addr} {n wd : Int} {tn tw : Tok} {e1 e2 : Nat} (hne : bx ≠ ib) (h0 : 0 ≤ n) (h1 : n < 100) (w0 : 0 < wd) (w1 : wd < 100) {xs : List Int} {vs : List Value} (hI : IntsAre vs xs) (hl : vs.length < 64) {ro : List (Addr × Obj)} :
    Tell w 401 [.ref bx, .int wd tw] [(bx, listOf [.ref ib, .int n tn].toArray e1), (ib, listOf vs.toArray e2)] ro (fun _ r h' => TakeP bx ib n wd vs.length r h') := by
  rcases take_down hI with e | ⟨x, tx, vs', xs', e, h2, h3⟩
  · exact (t_take_nil hne h0 h1 w0 w1 e).wide fun _ h => nomatch h
  · exact (t_take_cons hne h0 h1 w0 w1 e h2 h3 (by rw [e] at hl; simp at hl; omega)).wide fun _ h => nomatch h
end
end
section
theorem top_off_Gg : True := by
  w_top off
  trivial
section
variable {w : World}
set_option maxRecDepth 100000 in
set_option maxHeartbeats 8000000 in
theorem take_post {bx ib : Addr} {n wd : Int} {vs : List Value} {r : Value} {h₀ h h' : Heap} {L : Addr} {tn : Tok} {e1 e2 : Nat} {ro : List (Addr × Obj)} (N : News h₀ L h ((bx, listOf [.ref ib, .int n tn].toArray e1) :: (ib, listOf vs.toArray e2) :: ro)) (hr : ∀ p ∈ ro, p.1 ≠ bx ∧ p.1 ≠ ib) (k : GSub h h' [bx, ib])
    (P : TakeP bx ib n wd vs.length r h') :
    TakeO h₀ L bx ib n wd vs.length r h' ro := by
  obtain ⟨x, t, vs', o1, o2, t', e, a, b, ⟨e1', rfl⟩, g1, ⟨e2', rfl⟩, g2, ⟨xs', hx⟩, hl⟩ := P
  refine ⟨x, t, vs', e1', e2', t', xs', e, a, b, hx, hl, ?_⟩
  refine News.after (tp := [(bx, listOf [.ref ib, .int n tn].toArray e1), (ib, listOf vs.toArray e2)]) (tp' := [(bx, listOf [.ref ib, .int (n+1) t'].toArray e1'), (ib, listOf vs'.toArray e2')]) N k ?_ rfl ?_
  · intro p hp hm
    rcases List.mem_cons.mp hm with e | hm
    · exact (hr p hp).1 e
    · exact (hr p hp).2 (List.mem_singleton.mp hm)
  · intro p hp
    rcases List.mem_cons.mp hp with e | hp
    · rw [e]; exact g1
    · rw [List.mem_singleton.mp hp]; exact g2
theorem t_given {bx ib al : Addr} {n : Int} {tn : Tok} {e1 e2 e3 : Nat} (hne : bx ≠ ib) (h0 : 0 ≤ n) (h1 : n < 90) {xs : List Int} {vs hs : List Value} (hI : IntsAre vs xs) (hl : vs.length < 64) (hh0 : 0 < hs.length) (hh1 : hs.length < 20) {ro : List (Addr × Obj)} (hr : ∀ p ∈ ro, p.1 ≠ bx ∧ p.1 ≠ ib) (ma : (al, listOf hs.toArray e3) ∈ ro) :
    TellU w 422 [.ref bx, .ref al] [(bx, listOf [.ref ib, .int n tn].toArray e1), (ib, listOf vs.toArray e2)] ro (fun _ r h' => GivenP bx ib n hs vs.length r h') := by
  walk_at "t_start"
  k_steps
  (refine Hold.in ?_; (first | refine' Tell.use (t_take (bx := bx) hne h0 (by omega) (by decide) (by decide) hI hl) ?p1 ?p2 ?p3 ?p4 ?p5 ?p6 ?p7 ?p8 ?_ | refine' TellD.use (t_take (bx := bx) hne h0 (by omega) (by decide) (by decide) hI hl) ?p1 ?p2 ?p3 ?p4 ?p5 ?p6 ?p7 ?p8 ?_ | refine' TellU.use (t_take (bx := bx) hne h0 (by omega) (by decide) (by decide) hI hl) ?p1 ?p2 ?p3 ?p4 ?p5 ?p6 ?p7 ?p8 ?_); (case p1 => ktr_room); (case p2 => ktr_units); (case p3 => k_asm); (case p4 => k_asm); (case p5 => k_asm); (case p6 => k_asm); (case p7 => first | exact rfl | assumption); (case p8 => k_asm); (intro rT hT tkT FT kT PT))
  obtain ⟨x1, t1, vs1, e11, e21, tn1, xs1, rfl, hx0, hx1, hI1, hl1, N1⟩ := take_post (by assumption) hr kT PT
  clear PT kT
  k_steps
  · (refine Hold.in ?_; (first | refine' Tell.use (t_take (bx := bx) (n := n + 1) (wd := (hs.length : Int)) hne (by omega) (by omega) (by omega) (by omega) hI1 (by omega)) ?p1 ?p2 ?p3 ?p4 ?p5 ?p6 ?p7 ?p8 ?_ | refine' TellD.use (t_take (bx := bx) (n := n + 1) (wd := (hs.length : Int)) hne (by omega) (by omega) (by omega) (by omega) hI1 (by omega)) ?p1 ?p2 ?p3 ?p4 ?p5 ?p6 ?p7 ?p8 ?_ | refine' TellU.use (t_take (bx := bx) (n := n + 1) (wd := (hs.length : Int)) hne (by omega) (by omega) (by omega) (by omega) hI1 (by omega)) ?p1 ?p2 ?p3 ?p4 ?p5 ?p6 ?p7 ?p8 ?_); (case p1 => ktr_room); (case p2 => ktr_units); (case p3 => k_asm); (case p4 => k_asm); (case p5 => k_asm); (case p6 => k_asm); (case p7 => first | exact rfl | assumption); (case p8 => k_asm); (intro rT hT tkT FT kT PT))
    obtain ⟨x2, t2, vs2, e12, e22, tn2, xs2, rfl, hy0, hy1, hI2, hl2, N2⟩ := take_post (by assumption) hr kT PT
    clear PT kT
    have hx9 : hs[x2.toNat]? = some (hs[x2.toNat]'(by omega)) := List.getElem?_eq_getElem _
    k_steps
    refine hret _ _ _ _ _ _ _ (by k_asm) (by assumption) (by k_asm) (by k_asm) (by walk_at "t_ro") ?_
    exact ⟨vs2, n + 1 + 1, _, _, _, (0 : Tok), .inl (List.mem_of_getElem? hx9), by omega, by omega, ⟨_, rfl⟩, by walk_at "t_at", ⟨_, rfl⟩, by walk_at "t_at", ⟨_, hI2⟩, by omega⟩
  · refine hret _ _ _ _ _ _ _ (by k_asm) (by assumption) (by k_asm) (by k_asm) (by walk_at "t_ro") ?_
    exact ⟨vs1, n + 1, _, _, _, _, .inr (.inl rfl), by omega, by omega, ⟨_, rfl⟩, by walk_at "t_at", ⟨_, rfl⟩, by walk_at "t_at", ⟨_, hI1⟩, by omega⟩
  · refine hret _ _ _ _ _ _ _ (by k_asm) (by assumption) (by k_asm) (by k_asm) (by walk_at "t_ro") ?_
    exact ⟨vs1, n + 1, _, _, _, _, .inr (.inr ⟨n + 1, by omega, by omega, rfl⟩), by omega, by omega, ⟨_, rfl⟩, by walk_at "t_at", ⟨_, rfl⟩, by walk_at "t_at", ⟨_, hI1⟩, by omega⟩
end
end
section
theorem and_cons {P : Addr → Prop} {q : Addr × Obj} {rest : List (Addr × Obj)} (h : P q.1) (r : ∀ p ∈ rest, P p.1) : ∀ p ∈ q :: rest, P p.1 := fun p hp => by
  rcases List.mem_cons.mp hp with e | hp
  · rw [e]; exact h
  · exact r p hp
theorem off_pair {x y : Addr} {news : List (Addr × Obj)} (h : ∀ p ∈ news, p.1 ≠ x ∧ p.1 ≠ y) : ∀ p ∈ news, p.1 ∉ [x, y] := fun p hp hm => by
  rcases List.mem_cons.mp hm with e | hm
  · exact (h p hp).1 e
  · exact (h p hp).2 (List.mem_singleton.mp hm)
theorem news_tl {h₀ h : Heap} {L : Addr} {p : Addr × Obj} {news : List (Addr × Obj)} (N : News h₀ L h (p :: news)) : News h₀ L h news := fun q hq => N q (List.mem_cons_of_mem _ hq)
inductive HotNe (bx ib wdd hl nm du c1 c2 c3 : Addr) : Prop
  | mk (n0 : bx ≠ ib) (n1 : bx ≠ wdd) (n2 : bx ≠ hl) (n3 : bx ≠ nm) (n4 : bx ≠ du) (n5 : bx ≠ c1) (n6 : bx ≠ c2) (n7 : bx ≠ c3) (n8 : ib ≠ wdd) (n9 : ib ≠ hl) (n10 : ib ≠ nm) (n11 : ib ≠ du) (n12 : ib ≠ c1) (n13 : ib ≠ c2) (n14 : ib ≠ c3) (n15 : wdd ≠ hl) (n16 : wdd ≠ nm) (n17 : wdd ≠ du) (n18 : wdd ≠ c1) (n19 : wdd ≠ c2) (n20 : wdd ≠ c3) (n21 : hl ≠ nm) (n22 : hl ≠ du) (n23 : hl ≠ c1) (n24 : hl ≠ c2) (n25 : hl ≠ c3) (n26 : nm ≠ du) (n27 : nm ≠ c1) (n28 : nm ≠ c2) (n29 : nm ≠ c3) (n30 : du ≠ c1) (n31 : du ≠ c2) (n32 : du ≠ c3) (n33 : c1 ≠ c2) (n34 : c1 ≠ c3) (n35 : c2 ≠ c3)
theorem hot_ne {bx ib wdd hl nm du c1 c2 c3 : Addr} (nd : [bx, ib, wdd, hl, nm, du, c1, c2, c3].Nodup) :
    HotNe bx ib wdd hl nm du c1 c2 c3 := by
  simp only [List.nodup_cons, List.mem_cons, List.not_mem_nil, or_false, not_or, List.nodup_nil, and_true, not_false_eq_true] at nd
  obtain ⟨⟨a1, a2, a3, a4, a5, a6, a7, a8⟩, ⟨b1, b2, b3, b4, b5, b6, b7⟩, ⟨d1, d2, d3, d4, d5, d6⟩, ⟨e1, e2, e3, e4, e5⟩, ⟨f1, f2, f3, f4⟩, ⟨g1, g2, g3⟩, ⟨i1, i2⟩, j1⟩ := nd
  exact ⟨a1, a2, a3, a4, a5, a6, a7, a8, b1, b2, b3, b4, b5, b6, b7, d1, d2, d3, d4, d5, d6, e1, e2, e3, e4, e5, f1, f2, f3, f4, g1, g2, g3, i1, i2, j1⟩
noncomputable def OffHot (bx ib wdd hl nm du c1 c2 c3 : Addr) (G : FX) : Prop := ∀ p ∈ G, p.1 ∉ [bx, ib, wdd, hl, nm, du, c1, c2, c3]
section
variable {bx ib wdd hl nm du c1 c2 c3 : Addr} {G : FX} (o : OffHot bx ib wdd hl nm du c1 c2 c3 G)
include o
theorem off_bx : ∀ p ∈ G, p.1 ≠ bx := fun p hp e => o p hp (by simp [e])
theorem off_ib : ∀ p ∈ G, p.1 ≠ ib := fun p hp e => o p hp (by simp [e])
theorem off_wdd : ∀ p ∈ G, p.1 ≠ wdd := fun p hp e => o p hp (by simp [e])
theorem off_hl : ∀ p ∈ G, p.1 ≠ hl := fun p hp e => o p hp (by simp [e])
theorem off_nm : ∀ p ∈ G, p.1 ≠ nm := fun p hp e => o p hp (by simp [e])
theorem off_du : ∀ p ∈ G, p.1 ≠ du := fun p hp e => o p hp (by simp [e])
theorem off_c1 : ∀ p ∈ G, p.1 ≠ c1 := fun p hp e => o p hp (by simp [e])
theorem off_c2 : ∀ p ∈ G, p.1 ≠ c2 := fun p hp e => o p hp (by simp [e])
theorem off_c3 : ∀ p ∈ G, p.1 ≠ c3 := fun p hp e => o p hp (by simp [e])
end
theorem after_call {h₀ h h' : Heap} {L : Addr} {m : Str → Option Value} {tch : List Addr} {news new : List (Addr × Obj)} (F : Fr h₀ L h m) (N : News h₀ L h news) (k : GSub h h' tch) (hn : ∀ p ∈ news, p.1 ∉ tch) (hf : ∀ p ∈ new, Fresh h h' p.1 p.2) : News h₀ L h' (new ++ news) := fun p hp => by
  rcases List.mem_append.mp hp with hp | hp
  · have f := hf p hp
    obtain ⟨oL, _, _, hL, _⟩ := F.ns
    refine ⟨f.2, fun e => ?_, ?_⟩
    · have q := f.1
      rw [e, hL] at q
      cases q
    · cases q : h₀.get? p.1 with
      | none => rfl
      | some x =>
        have := F.keep _ x q
        rw [f.1] at this
        cases this
  · have z := N p hp
    exact ⟨k _ _ z.1 (hn p hp), z.2⟩
theorem fresh_off {h h' : Heap} {new : List (Addr × Obj)} (hf : ∀ p ∈ new, Fresh h h' p.1 p.2) {a : Addr} {o : Obj} (e : h.get? a = some o) : ∀ p ∈ new, p.1 ≠ a := fun p hp => fresh_ne (hf p hp) e
open LCg in
theorem comp_end {h₀ h0 h1 : Heap} {L I C D : Addr} {m : Str → Option Value} {s₁ : Shared} {oI oC oD : Obj} {S : List (Addr × Obj) → Prop} {rest : Value → List (Addr × Obj) → Prop} {y : Value} {tk : Nat} {K : FX}
    (F0 : Fr h₀ L h0 m) (F1 : Fr h₀ L h1 m) (N0 : News h₀ L h0 ((I, oI) :: (C, oC) :: (D, oD) :: K)) (k : GSub h0 h1 []) (off : Off3 I C D K) (fx : FX) (hf : ∀ p ∈ fx, Fresh h0 h1 p.1 p.2) (hS : S (fx ++ K)) (R : (∀ p ∈ fx, ∀ q ∈ K, q.1 ≠ p.1) → rest y (fx ++ K)) :
    CompEnd h₀ L m s₁ I oI C oC D oD S rest y { s₁ with heap := h1, toks := tk } := by
  have N1 := after_call F0 N0 k (fun _ _ h => nomatch h) hf
  refine CompEnd.intro F1 N1 (fx ++ K) (fun p hp => ?_) (Off3.of fun p hp => ?_) hS (R fun p hp q hq => (fresh_ne (hf p hp) (N0 q (List.mem_cons_of_mem _ (List.mem_cons_of_mem _ (List.mem_cons_of_mem _ hq)))).1).symm)
  · exact sb_use hp (by walk_at "t_sub")
  · rcases List.mem_append.mp hp with h | h
    · exact ⟨fresh_ne (hf p h) (N0 (I, oI) (List.mem_cons_self ..)).1, fresh_ne (hf p h) (N0 (C, oC) (List.mem_cons_of_mem _ (List.mem_cons_self ..))).1, fresh_ne (hf p h) (N0 (D, oD) (List.mem_cons_of_mem _ (List.mem_cons_of_mem _ (List.mem_cons_self ..)))).1⟩
    · exact off.mem p h
theorem off1_mem {D : Addr} : ∀ {l : List (Addr × Obj)}, LCg.Off1 D l → ∀ p ∈ l, p.1 ≠ D
  | [], _, _, h => nomatch h
  | _ :: _, x, p, h => by
    rcases List.mem_cons.mp h with rfl | h
    · exact x.1
    · exact off1_mem x.2 p h
end
section
theorem top_off_V6 : True := by
  w_top off
  trivial
section
noncomputable def checkComp : Expr := match checkBody with | .If (.Compare (.Call _ (e :: _) _ _) _ _ _) _ _ _ :: _ => e | _ => .Constant .none 0 ⟨0, 0, 0, 0⟩
set_option maxRecDepth 100000 in
set_option maxHeartbeats 8000000 in
theorem c_shown {w : World} {mean : ExcName → Option Value} {mg mb : Str → Option Value} {fa : Addr} {cd : Value} {base h₀ : Heap} {L : Addr} {m : Str → Option Value} {s : Shared} {Q : Value → Shared → Prop} {E : Value → Shared → Prop} {sc : Scope} {ex : Expr} (hsc : lawScope = sc) (B : Below callerA base [] h₀) (X : (hd.heap_1 w.params).In h₀) (T : Top lawView Loose mean mg mb h₀) (hex : checkComp = ex) {rl : Addr} (F : Fr h₀ L s.heap (fun y => if y = "refs" then some (.ref rl) else m y)) {K Fx : FX} (N : News h₀ L s.heap K) {H : HR} {w0 w1 w2 : Value} {s0 s1 s2 : PyData} (hH : HolOk w Fx H) (hF : ∀ p ∈ Fx, p ∈ K) (hc : ∀ p ∈ H.cs, p ∈ K) (hvs : H.vs = [w0, w1, w2]) (ok0 : ValOk w Fx w0 s0) (ok1 : ValOk w Fx w1 s1) (ok2 : ValOk w Fx w2 s2) {r0 r1 r2 : Value} {er : Nat} (mr : (rl, listOf [r0, r1, r2].toArray er) ∈ K) (q0 : RefOk w Fx H.kd H.x 0 r0) (q1 : RefOk w Fx H.kd H.x 1 r1) (q2 : RefOk w Fx H.kd H.x 2 r2)
    (done : ∀ h' tk D n y0 y1 y2 (fx : FX), Fr h₀ L h' (fun y => if y = "refs" then some (.ref rl) else m y) → News h₀ L h' ((D, listOf [y0, y1, y2].toArray n) :: (fx ++ K)) → (∀ p ∈ fx, ∀ q ∈ K, q.1 ≠ p.1) → (∀ q ∈ K, q.1 ≠ D) → ShOk fx y0 s0 → ShOk fx y1 s1 → ShOk fx y2 s2 → Q (.ref D) { s with heap := h', toks := tk }) :
    wpAny (model PW w) (callerA.deeper (envOfC "law" sc L fa cd)) (eval ex (envOfC "law" sc L fa cd)) Q E s := by
  have hS2 : Stop 2 := .mk
  conv at hsc => lhs; whnf
  conv at hex => lhs; whnf
  subst hsc hex
  refine LCg.ListComp_U (F₀ := F) (by with_unfolding_all rfl) (by decide) (by rfl) (by decide) (by rfl) ?_
  k_steps
  refine Hold.in ?_
  refine LCg.CompSrc.ledger rfl F N mr (show 3 ≤ sizeLine by decide) ?_
  clear F N
  intro g2
  refine LCg.CompRest.succ ?_
  intro v0 I0 oI0 C0 oC0 D0 m0 h0 tk0 E0 hv0 hC0 hx0 F0 N0 off0 ne0
  obtain rfl : r0 = v0 := Option.some.inj hv0
  k_steps
  refine Hold.in ?_
  refine' Tell.use (u_get (ro := ((I0, oI0) :: (C0, oC0) :: (D0, LCg.lst []) :: K)) hH q0 (by decide) (by decide) (v := w0) (by rw [hvs]; rfl) (fun p hp => List.mem_cons_of_mem _ (List.mem_cons_of_mem _ (List.mem_cons_of_mem _ (hF p hp)))) (fun p hp => List.mem_cons_of_mem _ (List.mem_cons_of_mem _ (List.mem_cons_of_mem _ (hc p hp))))) ?p1 ?p2 ?p3 ?p4 ?p5 ?p6 ?p7 N0 ?_
  case p1 => ktr_room
  case p2 => exact Nat.le_of_ble_eq_true rfl
  case p3 => k_asm
  case p4 => k_asm
  case p5 => k_asm
  case p6 => k_asm
  case p7 => first | exact rfl | assumption
  intro z0 g0 tg0 Fg0 k0 P0
  subst P0
  have Ng0 := after_call F0 N0 k0 (fun _ _ h => nomatch h) (new := []) (fun _ h => nomatch h)
  rw [List.nil_append] at Ng0
  clear k0 N0 F0
  k_steps
  refine Hold.in ?_
  refine' Tell.use (u_shown (ro := ((I0, oI0) :: (C0, oC0) :: (D0, LCg.lst []) :: K)) ok0 (fun p hp => List.mem_cons_of_mem _ (List.mem_cons_of_mem _ (List.mem_cons_of_mem _ (hF p hp))))) ?p1 ?p2 ?p3 ?p4 ?p5 ?p6 ?p7 Ng0 ?_
  case p1 => ktr_room
  case p2 => exact Nat.le_of_ble_eq_true rfl
  case p3 => k_asm
  case p4 => k_asm
  case p5 => k_asm
  case p6 => k_asm
  case p7 => first | exact rfl | assumption
  intro y0 j0 tj0 Fj0 k0 P0
  obtain ⟨fx0, ff0, sh0⟩ := P0
  refine comp_end Fg0 Fj0 Ng0 k0 off0 fx0 ff0 (.inr ⟨_, List.mem_append_right _ (mr), rfl, _, rfl⟩) (fun sep0 => ?_)
  clear k0 ff0 Ng0 Fg0 Fj0 off0 hx0 hC0 ne0
  obtain ⟨K1, eK1⟩ : ∃ K', K' = fx0 ++ K := ⟨_, rfl⟩
  rw [← eK1]
  have hK1 : ∀ p ∈ K, p ∈ K1 := fun p hp => by rw [eK1]; exact List.mem_append_right _ (hp)
  skip
  refine LCg.CompRest.succ ?_
  intro v1 I1 oI1 C1 oC1 D1 m1 h1 tk1 E1 hv1 hC1 hx1 F1 N1 off1 ne1
  obtain rfl : r1 = v1 := Option.some.inj hv1
  k_steps
  refine Hold.in ?_
  refine' Tell.use (u_get (ro := ((I1, oI1) :: (C1, oC1) :: (D1, LCg.lst ([] ++ [y0])) :: K1)) hH q1 (by decide) (by decide) (v := w1) (by rw [hvs]; rfl) (fun p hp => List.mem_cons_of_mem _ (List.mem_cons_of_mem _ (List.mem_cons_of_mem _ (hK1 _ (hF p hp))))) (fun p hp => List.mem_cons_of_mem _ (List.mem_cons_of_mem _ (List.mem_cons_of_mem _ (hK1 _ (hc p hp)))))) ?p1 ?p2 ?p3 ?p4 ?p5 ?p6 ?p7 N1 ?_
  case p1 => ktr_room
  case p2 => exact Nat.le_of_ble_eq_true rfl
  case p3 => k_asm
  case p4 => k_asm
  case p5 => k_asm
  case p6 => k_asm
  case p7 => first | exact rfl | assumption
  intro z1 g1 tg1 Fg1 k1 P1
  subst P1
  have Ng1 := after_call F1 N1 k1 (fun _ _ h => nomatch h) (new := []) (fun _ h => nomatch h)
  rw [List.nil_append] at Ng1
  clear k1 N1 F1
  k_steps
  refine Hold.in ?_
  refine' Tell.use (u_shown (ro := ((I1, oI1) :: (C1, oC1) :: (D1, LCg.lst ([] ++ [y0])) :: K1)) ok1 (fun p hp => List.mem_cons_of_mem _ (List.mem_cons_of_mem _ (List.mem_cons_of_mem _ (hK1 _ (hF p hp)))))) ?p1 ?p2 ?p3 ?p4 ?p5 ?p6 ?p7 Ng1 ?_
  case p1 => ktr_room
  case p2 => exact Nat.le_of_ble_eq_true rfl
  case p3 => k_asm
  case p4 => k_asm
  case p5 => k_asm
  case p6 => k_asm
  case p7 => first | exact rfl | assumption
  intro y1 j1 tj1 Fj1 k1 P1
  obtain ⟨fx1, ff1, sh1⟩ := P1
  refine comp_end Fg1 Fj1 Ng1 k1 off1 fx1 ff1 (.inr ⟨_, List.mem_append_right _ (hK1 _ (mr)), rfl, _, rfl⟩) (fun sep1 => ?_)
  clear k1 ff1 Ng1 Fg1 Fj1 off1 hx1 hC1 ne1
  obtain ⟨K2, eK2⟩ : ∃ K', K' = fx1 ++ K1 := ⟨_, rfl⟩
  rw [← eK2]
  have hK2 : ∀ p ∈ K, p ∈ K2 := fun p hp => by rw [eK2]; exact List.mem_append_right _ (hK1 _ (hp))
  skip
  refine LCg.CompRest.succ ?_
  intro v2 I2 oI2 C2 oC2 D2 m2 h2 tk2 E2 hv2 hC2 hx2 F2 N2 off2 ne2
  obtain rfl : r2 = v2 := Option.some.inj hv2
  k_steps
  refine Hold.in ?_
  refine' Tell.use (u_get (ro := ((I2, oI2) :: (C2, oC2) :: (D2, LCg.lst ([] ++ [y0] ++ [y1])) :: K2)) hH q2 (by decide) (by decide) (v := w2) (by rw [hvs]; rfl) (fun p hp => List.mem_cons_of_mem _ (List.mem_cons_of_mem _ (List.mem_cons_of_mem _ (hK2 _ (hF p hp))))) (fun p hp => List.mem_cons_of_mem _ (List.mem_cons_of_mem _ (List.mem_cons_of_mem _ (hK2 _ (hc p hp)))))) ?p1 ?p2 ?p3 ?p4 ?p5 ?p6 ?p7 N2 ?_
  case p1 => ktr_room
  case p2 => exact Nat.le_of_ble_eq_true rfl
  case p3 => k_asm
  case p4 => k_asm
  case p5 => k_asm
  case p6 => k_asm
  case p7 => first | exact rfl | assumption
  intro z2 g2 tg2 Fg2 k2 P2
  subst P2
  have Ng2 := after_call F2 N2 k2 (fun _ _ h => nomatch h) (new := []) (fun _ h => nomatch h)
  rw [List.nil_append] at Ng2
  clear k2 N2 F2
  k_steps
  refine Hold.in ?_
  refine' Tell.use (u_shown (ro := ((I2, oI2) :: (C2, oC2) :: (D2, LCg.lst ([] ++ [y0] ++ [y1])) :: K2)) ok2 (fun p hp => List.mem_cons_of_mem _ (List.mem_cons_of_mem _ (List.mem_cons_of_mem _ (hK2 _ (hF p hp)))))) ?p1 ?p2 ?p3 ?p4 ?p5 ?p6 ?p7 Ng2 ?_
  case p1 => ktr_room
  case p2 => exact Nat.le_of_ble_eq_true rfl
  case p3 => k_asm
  case p4 => k_asm
  case p5 => k_asm
  case p6 => k_asm
  case p7 => first | exact rfl | assumption
  intro y2 j2 tj2 Fj2 k2 P2
  obtain ⟨fx2, ff2, sh2⟩ := P2
  refine comp_end Fg2 Fj2 Ng2 k2 off2 fx2 ff2 (.inr ⟨_, List.mem_append_right _ (hK2 _ (mr)), rfl, _, rfl⟩) (fun sep2 => ?_)
  clear k2 ff2 Ng2 Fg2 Fj2 off2 hx2 hC2 ne2
  obtain ⟨K3, eK3⟩ : ∃ K', K' = fx2 ++ K2 := ⟨_, rfl⟩
  rw [← eK3]
  have hK3 : ∀ p ∈ K, p ∈ K3 := fun p hp => by rw [eK3]; exact List.mem_append_right _ (hK2 _ (hp))
  skip
  refine LCg.CompRest.zero ?_
  intro D9 h9 tk9 F9 N9 o9
  have oK := off1_mem o9
  subst eK3 eK2 eK1
  refine done h9 tk9 D9 3 y0 y1 y2 (fx2 ++ (fx1 ++ fx0)) F9 (by rw [List.append_assoc, List.append_assoc]; exact N9) (fun p hp q hq => ?_) (fun q hq => oK q (hK3 _ hq)) (sh0.mono fun p hp => List.mem_append_right _ (List.mem_append_right _ hp)) (sh1.mono fun p hp => List.mem_append_right _ (List.mem_append_left _ hp)) (sh2.mono fun p hp => List.mem_append_left _ hp)
  rcases List.mem_append.mp hp with hp | hp
  · exact sep2 p hp q (hK2 _ hq)
  rcases List.mem_append.mp hp with hp | hp
  · exact sep1 p hp q (hK1 _ hq)
  · exact sep0 p hp q hq
end
end
section
theorem top_off_V7 : True := by
  w_top off
  trivial
section
noncomputable def endComp : Expr := match endBody with | .If (.Compare (.Call _ (e :: _) _ _) _ _ _) _ _ _ :: _ => e | _ => .Constant .none 0 ⟨0, 0, 0, 0⟩
set_option maxRecDepth 100000 in
set_option maxHeartbeats 8000000 in
theorem c_end {w : World} {mean : ExcName → Option Value} {mg mb : Str → Option Value} {fa : Addr} {cd : Value} {base h₀ : Heap} {L : Addr} {m : Str → Option Value} {s : Shared} {Q : Value → Shared → Prop} {E : Value → Shared → Prop} {sc : Scope} {ex : Expr} (hsc : lawScope = sc) (B : Below callerA base [] h₀) (X : (hd.heap_1 w.params).In h₀) (T : Top lawView Loose mean mg mb h₀) (hex : endComp = ex) (F : Fr h₀ L s.heap m) {K Fx : FX} (N : News h₀ L s.heap K) {H : HR} {w0 w1 w2 : Value} {s0 s1 s2 : PyData} (hH : HolOk w Fx H) (hF : ∀ p ∈ Fx, p ∈ K) (hc : ∀ p ∈ H.cs, p ∈ K) (hvs : H.vs = [w0, w1, w2]) (ok0 : ValOk w Fx w0 s0) (ok1 : ValOk w Fx w1 s1) (ok2 : ValOk w Fx w2 s2) {oc : Obj} (mc : (L + 1 + 1, oc) ∈ K) (dc : oc.data = .cell (some (.ref H.x)))
    (done : ∀ h' tk D n y0 y1 y2 (fx : FX), Fr h₀ L h' m → News h₀ L h' ((D, listOf [y0, y1, y2].toArray n) :: (fx ++ K)) → (∀ p ∈ fx, ∀ q ∈ K, q.1 ≠ p.1) → (∀ q ∈ K, q.1 ≠ D) → ShOk fx y0 s0 → ShOk fx y1 s1 → ShOk fx y2 s2 → Q (.ref D) { s with heap := h', toks := tk }) :
    wpAny (model PW w) (callerA.deeper (envOfC "law" sc L fa cd)) (eval ex (envOfC "law" sc L fa cd)) Q E s := by
  have hS2 : Stop 2 := .mk
  conv at hsc => lhs; whnf
  conv at hex => lhs; whnf
  subst hsc hex
  refine LCg.ListComp_U (F₀ := F) (by with_unfolding_all rfl) (by decide) (by rfl) (by decide) (by rfl) ?_
  k_steps
  refine Hold.in ?_
  rename IsRange _ _ _ _ _ _ _ _ => rg
  rename Fr _ _ _ _ => F2
  rename News _ _ _ _ => N2
  refine LCg.CompSrc.range (n := 3) rfl F2 N2 rg (by decide) (by rfl) (by decide) ?_
  clear F2 N2 rg
  intro g2
  refine LCg.CompRest.succ ?_
  intro v0 I0 oI0 C0 oC0 D0 m0 h0 tk0 E0 hv0 hC0 hx0 F0 N0 off0 ne0
  obtain ⟨tv0, rfl⟩ := hv0
  k_steps
  refine Hold.in ?_
  refine' TellU.use (u_ref (ro := ((I0, oI0) :: (C0, oC0) :: (D0, LCg.lst []) :: K)) hH (by decide) (by decide) (fun p hp => List.mem_cons_of_mem _ (List.mem_cons_of_mem _ (List.mem_cons_of_mem _ (hF p hp))))) ?p1 ?p2 ?p3 ?p4 ?p5 ?p6 ?p7 N0 ?_
  case p1 => ktr_room
  case p2 => exact Nat.le_of_ble_eq_true rfl
  case p3 => k_asm
  case p4 => k_asm
  case p5 => k_asm
  case p6 => k_asm
  case p7 => first | exact rfl | assumption
  intro r0 f0 tf0 Ff0 kf0 Pf0
  obtain ⟨x0, d0, o0, rfl, fx0, i0, fd0⟩ := Pf0
  have NN0 := after_call F0 N0 kf0 (fun _ _ h => nomatch h) (new := [(x0, instObj 117 d0), (d0, o0)]) (by intro p hp; rcases List.mem_cons.mp hp with rfl | hp; (· exact fx0); (· rw [List.mem_singleton.mp hp]; exact fd0))
  have gg0 : GSub h0 f0 [] := kf0
  clear kf0 fx0 fd0
  have q0 : RefOk w ((x0, instObj 117 d0) :: (d0, o0) :: Fx) H.kd H.x 0 (.ref x0) := ⟨x0, d0, o0, rfl, List.mem_cons_self .., List.mem_cons_of_mem _ (List.mem_cons_self ..), i0⟩
  have hH0 := hH.mono (F' := (x0, instObj 117 d0) :: (d0, o0) :: Fx) (fun p hp => List.mem_cons_of_mem _ (List.mem_cons_of_mem _ hp))
  k_steps
  refine Hold.in ?_
  refine' Tell.use (u_get (ro := ((x0, instObj 117 d0) :: (d0, o0) :: ((I0, oI0) :: (C0, oC0) :: (D0, LCg.lst []) :: K))) hH0 q0 (by decide) (by decide) (v := w0) (by rw [hvs]; rfl) (by intro p hp; rcases List.mem_cons.mp hp with rfl | hp; (· exact List.mem_cons_self ..); rcases List.mem_cons.mp hp with rfl | hp; (· exact List.mem_cons_of_mem _ (List.mem_cons_self ..)); exact List.mem_cons_of_mem _ (List.mem_cons_of_mem _ (List.mem_cons_of_mem _ (List.mem_cons_of_mem _ (List.mem_cons_of_mem _ (hF p hp)))))) (fun p hp => List.mem_cons_of_mem _ (List.mem_cons_of_mem _ (List.mem_cons_of_mem _ (List.mem_cons_of_mem _ (List.mem_cons_of_mem _ (hc p hp))))))) ?p1 ?p2 ?p3 ?p4 ?p5 ?p6 ?p7 NN0 ?_
  case p1 => ktr_room
  case p2 => exact Nat.le_of_ble_eq_true rfl
  case p3 => k_asm
  case p4 => k_asm
  case p5 => k_asm
  case p6 => k_asm
  case p7 => first | exact rfl | assumption
  intro z0 g0 tg0 Fg0 k0 P0
  subst P0
  have Ng0 := after_call Ff0 NN0 k0 (fun _ _ h => nomatch h) (new := []) (fun _ h => nomatch h)
  rw [List.nil_append] at Ng0
  replace Ng0 : News _ _ _ ((I0, oI0) :: (C0, oC0) :: (D0, LCg.lst []) :: K) := fun p hp => Ng0 p (List.mem_cons_of_mem _ (List.mem_cons_of_mem _ hp))
  clear Ff0 NN0 gg0
  clear k0 N0 F0
  k_steps
  refine Hold.in ?_
  refine' Tell.use (u_shown (ro := ((I0, oI0) :: (C0, oC0) :: (D0, LCg.lst []) :: K)) ok0 (fun p hp => List.mem_cons_of_mem _ (List.mem_cons_of_mem _ (List.mem_cons_of_mem _ (hF p hp))))) ?p1 ?p2 ?p3 ?p4 ?p5 ?p6 ?p7 Ng0 ?_
  case p1 => ktr_room
  case p2 => exact Nat.le_of_ble_eq_true rfl
  case p3 => k_asm
  case p4 => k_asm
  case p5 => k_asm
  case p6 => k_asm
  case p7 => first | exact rfl | assumption
  intro y0 j0 tj0 Fj0 k0 P0
  obtain ⟨fx0, ff0, sh0⟩ := P0
  refine comp_end Fg0 Fj0 Ng0 k0 off0 fx0 ff0 trivial (fun sep0 => ?_)
  clear k0 ff0 Ng0 Fg0 Fj0 off0 hx0 hC0 ne0
  obtain ⟨K1, eK1⟩ : ∃ K', K' = fx0 ++ K := ⟨_, rfl⟩
  rw [← eK1]
  have hK1 : ∀ p ∈ K, p ∈ K1 := fun p hp => by rw [eK1]; exact List.mem_append_right _ (hp)
  have mc1 := hK1 _ mc
  refine LCg.CompRest.succ ?_
  intro v1 I1 oI1 C1 oC1 D1 m1 h1 tk1 E1 hv1 hC1 hx1 F1 N1 off1 ne1
  obtain ⟨tv1, rfl⟩ := hv1
  k_steps
  refine Hold.in ?_
  refine' TellU.use (u_ref (ro := ((I1, oI1) :: (C1, oC1) :: (D1, LCg.lst ([] ++ [y0])) :: K1)) hH (by decide) (by decide) (fun p hp => List.mem_cons_of_mem _ (List.mem_cons_of_mem _ (List.mem_cons_of_mem _ (hK1 _ (hF p hp)))))) ?p1 ?p2 ?p3 ?p4 ?p5 ?p6 ?p7 N1 ?_
  case p1 => ktr_room
  case p2 => exact Nat.le_of_ble_eq_true rfl
  case p3 => k_asm
  case p4 => k_asm
  case p5 => k_asm
  case p6 => k_asm
  case p7 => first | exact rfl | assumption
  intro r1 f1 tf1 Ff1 kf1 Pf1
  obtain ⟨x1, d1, o1, rfl, fx1, i1, fd1⟩ := Pf1
  have NN1 := after_call F1 N1 kf1 (fun _ _ h => nomatch h) (new := [(x1, instObj 117 d1), (d1, o1)]) (by intro p hp; rcases List.mem_cons.mp hp with rfl | hp; (· exact fx1); (· rw [List.mem_singleton.mp hp]; exact fd1))
  have gg1 : GSub h1 f1 [] := kf1
  clear kf1 fx1 fd1
  have q1 : RefOk w ((x1, instObj 117 d1) :: (d1, o1) :: Fx) H.kd H.x 1 (.ref x1) := ⟨x1, d1, o1, rfl, List.mem_cons_self .., List.mem_cons_of_mem _ (List.mem_cons_self ..), i1⟩
  have hH1 := hH.mono (F' := (x1, instObj 117 d1) :: (d1, o1) :: Fx) (fun p hp => List.mem_cons_of_mem _ (List.mem_cons_of_mem _ hp))
  k_steps
  refine Hold.in ?_
  refine' Tell.use (u_get (ro := ((x1, instObj 117 d1) :: (d1, o1) :: ((I1, oI1) :: (C1, oC1) :: (D1, LCg.lst ([] ++ [y0])) :: K1))) hH1 q1 (by decide) (by decide) (v := w1) (by rw [hvs]; rfl) (by intro p hp; rcases List.mem_cons.mp hp with rfl | hp; (· exact List.mem_cons_self ..); rcases List.mem_cons.mp hp with rfl | hp; (· exact List.mem_cons_of_mem _ (List.mem_cons_self ..)); exact List.mem_cons_of_mem _ (List.mem_cons_of_mem _ (List.mem_cons_of_mem _ (List.mem_cons_of_mem _ (List.mem_cons_of_mem _ (hK1 _ (hF p hp))))))) (fun p hp => List.mem_cons_of_mem _ (List.mem_cons_of_mem _ (List.mem_cons_of_mem _ (List.mem_cons_of_mem _ (List.mem_cons_of_mem _ (hK1 _ (hc p hp)))))))) ?p1 ?p2 ?p3 ?p4 ?p5 ?p6 ?p7 NN1 ?_
  case p1 => ktr_room
  case p2 => exact Nat.le_of_ble_eq_true rfl
  case p3 => k_asm
  case p4 => k_asm
  case p5 => k_asm
  case p6 => k_asm
  case p7 => first | exact rfl | assumption
  intro z1 g1 tg1 Fg1 k1 P1
  subst P1
  have Ng1 := after_call Ff1 NN1 k1 (fun _ _ h => nomatch h) (new := []) (fun _ h => nomatch h)
  rw [List.nil_append] at Ng1
  replace Ng1 : News _ _ _ ((I1, oI1) :: (C1, oC1) :: (D1, LCg.lst ([] ++ [y0])) :: K1) := fun p hp => Ng1 p (List.mem_cons_of_mem _ (List.mem_cons_of_mem _ hp))
  clear Ff1 NN1 gg1
  clear k1 N1 F1
  k_steps
  refine Hold.in ?_
  refine' Tell.use (u_shown (ro := ((I1, oI1) :: (C1, oC1) :: (D1, LCg.lst ([] ++ [y0])) :: K1)) ok1 (fun p hp => List.mem_cons_of_mem _ (List.mem_cons_of_mem _ (List.mem_cons_of_mem _ (hK1 _ (hF p hp)))))) ?p1 ?p2 ?p3 ?p4 ?p5 ?p6 ?p7 Ng1 ?_
  case p1 => ktr_room
  case p2 => exact Nat.le_of_ble_eq_true rfl
  case p3 => k_asm
  case p4 => k_asm
  case p5 => k_asm
  case p6 => k_asm
  case p7 => first | exact rfl | assumption
  intro y1 j1 tj1 Fj1 k1 P1
  obtain ⟨fx1, ff1, sh1⟩ := P1
  refine comp_end Fg1 Fj1 Ng1 k1 off1 fx1 ff1 trivial (fun sep1 => ?_)
  clear k1 ff1 Ng1 Fg1 Fj1 off1 hx1 hC1 ne1
  obtain ⟨K2, eK2⟩ : ∃ K', K' = fx1 ++ K1 := ⟨_, rfl⟩
  rw [← eK2]
  have hK2 : ∀ p ∈ K, p ∈ K2 := fun p hp => by rw [eK2]; exact List.mem_append_right _ (hK1 _ (hp))
  have mc2 := hK2 _ mc
  refine LCg.CompRest.succ ?_
  intro v2 I2 oI2 C2 oC2 D2 m2 h2 tk2 E2 hv2 hC2 hx2 F2 N2 off2 ne2
  obtain ⟨tv2, rfl⟩ := hv2
  k_steps
  refine Hold.in ?_
  refine' TellU.use (u_ref (ro := ((I2, oI2) :: (C2, oC2) :: (D2, LCg.lst ([] ++ [y0] ++ [y1])) :: K2)) hH (by decide) (by decide) (fun p hp => List.mem_cons_of_mem _ (List.mem_cons_of_mem _ (List.mem_cons_of_mem _ (hK2 _ (hF p hp)))))) ?p1 ?p2 ?p3 ?p4 ?p5 ?p6 ?p7 N2 ?_
  case p1 => ktr_room
  case p2 => exact Nat.le_of_ble_eq_true rfl
  case p3 => k_asm
  case p4 => k_asm
  case p5 => k_asm
  case p6 => k_asm
  case p7 => first | exact rfl | assumption
  intro r2 f2 tf2 Ff2 kf2 Pf2
  obtain ⟨x2, d2, o2, rfl, fx2, i2, fd2⟩ := Pf2
  have NN2 := after_call F2 N2 kf2 (fun _ _ h => nomatch h) (new := [(x2, instObj 117 d2), (d2, o2)]) (by intro p hp; rcases List.mem_cons.mp hp with rfl | hp; (· exact fx2); (· rw [List.mem_singleton.mp hp]; exact fd2))
  have gg2 : GSub h2 f2 [] := kf2
  clear kf2 fx2 fd2
  have q2 : RefOk w ((x2, instObj 117 d2) :: (d2, o2) :: Fx) H.kd H.x 2 (.ref x2) := ⟨x2, d2, o2, rfl, List.mem_cons_self .., List.mem_cons_of_mem _ (List.mem_cons_self ..), i2⟩
  have hH2 := hH.mono (F' := (x2, instObj 117 d2) :: (d2, o2) :: Fx) (fun p hp => List.mem_cons_of_mem _ (List.mem_cons_of_mem _ hp))
  k_steps
  refine Hold.in ?_
  refine' Tell.use (u_get (ro := ((x2, instObj 117 d2) :: (d2, o2) :: ((I2, oI2) :: (C2, oC2) :: (D2, LCg.lst ([] ++ [y0] ++ [y1])) :: K2))) hH2 q2 (by decide) (by decide) (v := w2) (by rw [hvs]; rfl) (by intro p hp; rcases List.mem_cons.mp hp with rfl | hp; (· exact List.mem_cons_self ..); rcases List.mem_cons.mp hp with rfl | hp; (· exact List.mem_cons_of_mem _ (List.mem_cons_self ..)); exact List.mem_cons_of_mem _ (List.mem_cons_of_mem _ (List.mem_cons_of_mem _ (List.mem_cons_of_mem _ (List.mem_cons_of_mem _ (hK2 _ (hF p hp))))))) (fun p hp => List.mem_cons_of_mem _ (List.mem_cons_of_mem _ (List.mem_cons_of_mem _ (List.mem_cons_of_mem _ (List.mem_cons_of_mem _ (hK2 _ (hc p hp)))))))) ?p1 ?p2 ?p3 ?p4 ?p5 ?p6 ?p7 NN2 ?_
  case p1 => ktr_room
  case p2 => exact Nat.le_of_ble_eq_true rfl
  case p3 => k_asm
  case p4 => k_asm
  case p5 => k_asm
  case p6 => k_asm
  case p7 => first | exact rfl | assumption
  intro z2 g2 tg2 Fg2 k2 P2
  subst P2
  have Ng2 := after_call Ff2 NN2 k2 (fun _ _ h => nomatch h) (new := []) (fun _ h => nomatch h)
  rw [List.nil_append] at Ng2
  replace Ng2 : News _ _ _ ((I2, oI2) :: (C2, oC2) :: (D2, LCg.lst ([] ++ [y0] ++ [y1])) :: K2) := fun p hp => Ng2 p (List.mem_cons_of_mem _ (List.mem_cons_of_mem _ hp))
  clear Ff2 NN2 gg2
  clear k2 N2 F2
  k_steps
  refine Hold.in ?_
  refine' Tell.use (u_shown (ro := ((I2, oI2) :: (C2, oC2) :: (D2, LCg.lst ([] ++ [y0] ++ [y1])) :: K2)) ok2 (fun p hp => List.mem_cons_of_mem _ (List.mem_cons_of_mem _ (List.mem_cons_of_mem _ (hK2 _ (hF p hp)))))) ?p1 ?p2 ?p3 ?p4 ?p5 ?p6 ?p7 Ng2 ?_
  case p1 => ktr_room
  case p2 => exact Nat.le_of_ble_eq_true rfl
  case p3 => k_asm
  case p4 => k_asm
  case p5 => k_asm
  case p6 => k_asm
  case p7 => first | exact rfl | assumption
  intro y2 j2 tj2 Fj2 k2 P2
  obtain ⟨fx2, ff2, sh2⟩ := P2
  refine comp_end Fg2 Fj2 Ng2 k2 off2 fx2 ff2 trivial (fun sep2 => ?_)
  clear k2 ff2 Ng2 Fg2 Fj2 off2 hx2 hC2 ne2
  obtain ⟨K3, eK3⟩ : ∃ K', K' = fx2 ++ K2 := ⟨_, rfl⟩
  rw [← eK3]
  have hK3 : ∀ p ∈ K, p ∈ K3 := fun p hp => by rw [eK3]; exact List.mem_append_right _ (hK2 _ (hp))
  have mc3 := hK3 _ mc
  refine LCg.CompRest.zero ?_
  intro D9 h9 tk9 F9 N9 o9
  have oK := off1_mem o9
  subst eK3 eK2 eK1
  refine done h9 tk9 D9 3 y0 y1 y2 (fx2 ++ (fx1 ++ fx0)) F9 (by rw [List.append_assoc, List.append_assoc]; exact N9) (fun p hp q hq => ?_) (fun q hq => oK q (hK3 _ hq)) (sh0.mono fun p hp => List.mem_append_right _ (List.mem_append_right _ hp)) (sh1.mono fun p hp => List.mem_append_right _ (List.mem_append_left _ hp)) (sh2.mono fun p hp => List.mem_append_left _ hp)
  rcases List.mem_append.mp hp with hp | hp
  · exact sep2 p hp q (hK2 _ hq)
  rcases List.mem_append.mp hp with hp | hp
  · exact sep1 p hp q (hK1 _ hq)
  · exact sep0 p hp q hq
end
end
section
open PySem PySem.W PyProof.Rows PyProof.V PySem.Spec
section
variable {F K : FX} {r : Value} {sv : PyData} {h₀ h : Heap} {L : Addr}
theorem sh_reads (N : News h₀ L h K) (s : ShOk F r sv) (hF : ∀ p ∈ F, p ∈ K) : ∃ as, Reads h r sv as := by
  rcases s with ⟨t, rfl, rfl⟩ | ⟨k, t, rfl, rfl⟩ | ⟨t, o, u1, u2, k, rfl, m, ⟨e, rfl⟩, rfl⟩
  · exact ⟨_, .str _ _⟩
  · exact ⟨_, .int _ _⟩
  · exact ⟨_, reads_tuple_at (N _ (hF _ m)).1 rfl rfl (.cons (.str _ _) (.cons (.int _ _) .nil))⟩
theorem sh_good (s : ShOk F r sv) : PyData.eqv sv sv = true ∧ sv.canLay0 = true ∧ sv.depth ≤ 1 := by
  rcases s with ⟨t, rfl, rfl⟩ | ⟨k, t, rfl, rfl⟩ | ⟨t, o, u1, u2, k, rfl, m, ⟨e, rfl⟩, rfl⟩
  · exact ⟨by simp [PyData.eqv], by simp only [PyData.canLay0]; decide +kernel, by simp [PyData.depth]⟩
  · exact ⟨by simp [PyData.eqv], by simp [PyData.canLay0], by simp [PyData.depth]⟩
  · exact ⟨by simp [numD, PyData.eqv, PyData.eqvAll], by simp only [numD, PyData.canLay0, PyData.canLayAll0, Bool.and_true]; decide +kernel, by simp [numD, PyData.depth, PyData.depthAll]⟩
theorem ne_shown {prog : Program} {w : World} {A : Around} {E : Value → Shared → Prop} {s : Shared} {a b : Addr} {e1 e2 : Nat} {F1 F2 : FX} {y0 y1 y2 z0 z1 z2 : Value} {s0 s1 s2 : PyData} {Q : Value → Shared → Prop} (hu : A.units + 64 < cLine)
    (N : News h₀ L s.heap K) (ma : (a, tup [y0, y1, y2] e1) ∈ K) (mb : (b, tup [z0, z1, z2] e2) ∈ K) (h1 : ∀ p ∈ F1, p ∈ K) (h2 : ∀ p ∈ F2, p ∈ K) (a0 : ShOk F1 y0 s0) (a1 : ShOk F1 y1 s1) (a2 : ShOk F1 y2 s2) (b0 : ShOk F2 z0 s0) (b1 : ShOk F2 z1 s1) (b2 : ShOk F2 z2 s2) (q : Q (.bool false) s) :
    wpAny (model prog w) A (compareOp .NotEq (.ref a) (.ref b)) Q E s := by
  obtain ⟨_, r0⟩ := sh_reads N a0 h1
  obtain ⟨_, r1⟩ := sh_reads N a1 h1
  obtain ⟨_, r2⟩ := sh_reads N a2 h1
  obtain ⟨_, t0⟩ := sh_reads N b0 h2
  obtain ⟨_, t1⟩ := sh_reads N b1 h2
  obtain ⟨_, t2⟩ := sh_reads N b2 h2
  obtain ⟨q0, c0, d0⟩ := sh_good a0
  obtain ⟨q1, c1, d1⟩ := sh_good a1
  obtain ⟨q2, c2, d2⟩ := sh_good a2
  have hs : PySem.SeqAt.shaped (.tuple [s0, s1, s2]) = true := by
    simp only [SeqAt.shaped, PyData.canLay0, PyData.canLayAll0, c0, c1, c2, PyData.depth, PyData.depthAll, Bool.and_true, Bool.true_and]
    exact decide_eq_true (by omega)
  refine ne_dataH (reads_tuple_at (N _ ma).1 rfl rfl (.cons r0 (.cons r1 (.cons r2 .nil)))) (reads_tuple_at (N _ mb).1 rfl rfl (.cons t0 (.cons t1 (.cons t2 .nil)))) hs hs hu ?_
  simp only [PyData.eqv, PyData.eqvAll, q0, q1, q2, Bool.and_true, Bool.not_true]
  exact q
end
end
section
theorem top_off_V8 : True := by
  w_top off
  trivial
section
noncomputable def one_k : Nat := 0
set_option maxRecDepth 100000 in
set_option maxHeartbeats 8000000 in
theorem check_body {w : World} {mean : ExcName → Option Value} {mg mb : Str → Option Value} {fa : Addr} {cd : Value} {base h₀ : Heap} {L : Addr} {m : Str → Option Value} {s : Shared} {Q : Flow → Shared → Prop} {E : Value → Shared → Prop} {sc : Scope} {bd : List Stmt} (hsc : lawScope = sc) (B : Below callerA base [] h₀) (X : (hd.heap_1 w.params).In h₀) (T : Top lawView Loose mean mg mb h₀) (hbd : checkBody = bd) {rl du dt : Addr} {i : Int} {ti : Tok} (F : Fr h₀ L s.heap (fun y => if y = "refs" then some (.ref rl) else if y = "spot" then some (.int i ti) else if y = "due" then some (.ref du) else m y)) {K Fx : FX} (N : News h₀ L s.heap K) {H : HR} {w0 w1 w2 : Value} {s0 s1 s2 : PyData} (hH : HolOk w Fx H) (hF : ∀ p ∈ Fx, p ∈ K) (hc : ∀ p ∈ H.cs, p ∈ K) (hvs : H.vs = [w0, w1, w2]) (ok0 : ValOk w Fx w0 s0) (ok1 : ValOk w Fx w1 s1) (ok2 : ValOk w Fx w2 s2) {r0 r1 r2 z0 z1 z2 : Value} {er ed et : Nat} (mr : (rl, listOf [r0, r1, r2].toArray er) ∈ K) (q0 : RefOk w Fx H.kd H.x 0 r0) (q1 : RefOk w Fx H.kd H.x 1 r1) (q2 : RefOk w Fx H.kd H.x 2 r2)
    {dv : List Value} (md : (du, listOf dv.toArray ed) ∈ K) (i0 : 0 ≤ i) (i1 : i < 50) (gd : dv[i.toNat]? = some (.ref dt)) (mt : (dt, tup [z0, z1, z2] et) ∈ K) (b0 : ShOk Fx z0 s0) (b1 : ShOk Fx z1 s1) (b2 : ShOk Fx z2 s2)
    (done : ∀ h' tk, Fr h₀ L h' (fun y => if y = "refs" then some (.ref rl) else if y = "spot" then some (.int i ti) else if y = "due" then some (.ref du) else m y) → News h₀ L h' K → Q .next { s with heap := h', toks := tk }) :
    wpAny (model PW w) (callerA.deeper (envOfC "law" sc L fa cd)) (execs bd (envOfC "law" sc L fa cd)) Q E s := by
  have hS4 : Stop 4 := .mk
  have hS1 : Stop 1 := .mk
  have hsc0 := hsc
  conv at hsc => lhs; whnf
  conv at hbd => lhs; whnf
  subst hsc hbd
  k_steps
  refine Hold.in ?_
  refine c_shown (m := fun y => if y = "spot" then some (.int i ti) else if y = "due" then some (.ref du) else m y) hsc0 B X T rfl F N hH hF hc hvs ok0 ok1 ok2 mr q0 q1 q2 ?_
  intro h1 tk1 D1 n1 y0 y1 y2 fx F1 N1 sep oD a0 a1 a2
  clear N F
  have md' : (du, listOf dv.toArray ed) ∈ fx ++ K := List.mem_append_right _ md
  k_steps
  refine Hold.in ?_
  rename News _ _ _ _ => N2
  refine ne_shown (by first | units_room | exact Nat.le_of_ble_eq_true rfl) N2 (List.mem_cons_self ..) (List.mem_cons_of_mem _ (List.mem_cons_of_mem _ (List.mem_append_right _ mt))) (fun p hp => List.mem_cons_of_mem _ (List.mem_cons_of_mem _ (List.mem_append_left _ hp))) (fun p hp => List.mem_cons_of_mem _ (List.mem_cons_of_mem _ (List.mem_append_right _ (hF p hp)))) a0 a1 a2 b0 b1 b2 ?_
  k_steps
  exact done _ _ (by assumption) (fun p hp => N2 p (List.mem_cons_of_mem _ (List.mem_cons_of_mem _ (List.mem_append_right _ hp))))
end
end
section
theorem top_off_V9 : True := by
  w_top off
  trivial
section
set_option maxRecDepth 100000 in
set_option maxHeartbeats 8000000 in
theorem end_body {w : World} {mean : ExcName → Option Value} {mg mb : Str → Option Value} {fa : Addr} {cd : Value} {base h₀ : Heap} {L : Addr} {m : Str → Option Value} {s : Shared} {Q : Flow → Shared → Prop} {E : Value → Shared → Prop} {sc : Scope} {bd : List Stmt} (hsc : lawScope = sc) (B : Below callerA base [] h₀) (X : (hd.heap_1 w.params).In h₀) (T : Top lawView Loose mean mg mb h₀) (hbd : endBody = bd) {du dt : Addr} {i : Int} {ti : Tok} (F : Fr h₀ L s.heap (fun y => if y = "at" then some (.int i ti) else if y = "due" then some (.ref du) else m y)) {K Fx : FX} (N : News h₀ L s.heap K) {H : HR} {w0 w1 w2 : Value} {s0 s1 s2 : PyData} (hH : HolOk w Fx H) (hF : ∀ p ∈ Fx, p ∈ K) (hc : ∀ p ∈ H.cs, p ∈ K) (hvs : H.vs = [w0, w1, w2]) (ok0 : ValOk w Fx w0 s0) (ok1 : ValOk w Fx w1 s1) (ok2 : ValOk w Fx w2 s2) {z0 z1 z2 : Value} {ed et : Nat} {oc : Obj} (mc : (L + 1 + 1, oc) ∈ K) (dc : oc.data = .cell (some (.ref H.x)))
    {dv : List Value} (md : (du, listOf dv.toArray ed) ∈ K) (i0 : 0 ≤ i) (i1 : i < 50) (gd : dv[i.toNat]? = some (.ref dt)) (mt : (dt, tup [z0, z1, z2] et) ∈ K) (b0 : ShOk Fx z0 s0) (b1 : ShOk Fx z1 s1) (b2 : ShOk Fx z2 s2)
    (done : ∀ h' tk, Fr h₀ L h' (fun y => if y = "at" then some (.int i ti) else if y = "due" then some (.ref du) else m y) → News h₀ L h' K → Q .next { s with heap := h', toks := tk }) :
    wpAny (model PW w) (callerA.deeper (envOfC "law" sc L fa cd)) (execs bd (envOfC "law" sc L fa cd)) Q E s := by
  have hS4 : Stop 4 := .mk
  have hS1 : Stop 1 := .mk
  have hsc0 := hsc
  conv at hsc => lhs; whnf
  conv at hbd => lhs; whnf
  subst hsc hbd
  k_steps
  refine Hold.in ?_
  refine c_end hsc0 B X T rfl F N hH hF hc hvs ok0 ok1 ok2 mc dc ?_
  intro h1 tk1 D1 n1 y0 y1 y2 fx F1 N1 sep oD a0 a1 a2
  clear N F
  have md' : (du, listOf dv.toArray ed) ∈ fx ++ K := List.mem_append_right _ md
  k_steps
  refine Hold.in ?_
  rename News _ _ _ _ => N2
  refine ne_shown (by first | units_room | exact Nat.le_of_ble_eq_true rfl) N2 (List.mem_cons_self ..) (List.mem_cons_of_mem _ (List.mem_cons_of_mem _ (List.mem_append_right _ mt))) (fun p hp => List.mem_cons_of_mem _ (List.mem_cons_of_mem _ (List.mem_append_left _ hp))) (fun p hp => List.mem_cons_of_mem _ (List.mem_cons_of_mem _ (List.mem_append_right _ (hF p hp)))) a0 a1 a2 b0 b1 b2 ?_
  k_steps
  exact done _ _ (by assumption) (fun p hp => N2 p (List.mem_cons_of_mem _ (List.mem_cons_of_mem _ (List.mem_append_right _ hp))))
end
end
section
open PySem PySem.W PyProof.Rows PyProof.V PySem.Spec
section
variable {prog : Program} {w : World} {A : Around} {E : Value → Shared → Prop} {s : Shared} {env : Env} {h₀ : Heap}
theorem enum_loop {elts : List Expr} {k : Nat} {pos : Pos} {body : List Stmt} {Q : Flow → Shared → Prop} {l : Addr} {vs : List Value} {n : Nat} {m₀ : Str → Option Value} {news : List (Addr × Obj)}
    (hh : A.handled = none) (F : Fr h₀ env.locals s.heap m₀) (N : News h₀ env.locals s.heap news) (J : Nat → (Str → Option Value) → List (Addr × Obj) → Prop) (hJ : ∀ i m₁ n₁, J i m₁ n₁ → (l, listOf vs.toArray n) ∈ n₁) (h0 : J 0 m₀ news)
    (step : ∀ i v m₁ news₁ h₁ tk₁ T t own (K : Flow → Shared → Prop), vs[i]? = some v → J i m₁ news₁ → IsTup h₁ T #[.int ((i : Nat) : Int) t, v] → (∀ p ∈ own, p.1 = l ∨ ∀ q ∈ news₁, q.1 ≠ p.1) →
      Fr h₀ env.locals h₁ m₁ → News h₀ env.locals h₁ (own ++ news₁) →
      (∀ h' tk' m' news', J (i + 1) m' news' → (∀ p ∈ news', ∃ q ∈ news₁, q.1 = p.1) → Fr h₀ env.locals h' m' → News h₀ env.locals h' (own ++ news') → K .next { s with heap := h', toks := tk' }) →
      wpAny (model prog w) A (assign (.Tuple elts k pos) env (.ref T)) (fun _ s₂ => wpAny (model prog w) A (execs body env) K E s₂) E { s with heap := h₁, toks := tk₁ })
    (done : ∀ h' tk m' news', J vs.length m' news' → Fr h₀ env.locals h' m' → News h₀ env.locals h' news' → Q .next { s with heap := h', toks := tk }) :
    wpAny (model prog w) A (call (.type "enumerate") [.ref l]) (fun xv s₁ => wpAny (model prog w) A (pyIter xv) (fun it s₂ => TurnsAt prog w A h₀ env (.Tuple elts k pos) body Q E it s₂) E s₁) E s := by
  have hm := hJ _ _ _ h0
  have hax := N _ hm
  have hl : s.heap.IsList l vs.toArray := ⟨_, hax.1, rfl, n, rfl⟩
  have hlt : l < s.heap.objs.size := Heap.lt_size hax.1
  have hLs : env.locals < s.heap.objs.size := F.ns.lt
  refine call_enumerate_list hl fun h' hE hI hsz hk => ?_
  refine wpAny_pyIter_enum hE ?_
  refine ⟨s.heap.objs.size + 1, _, _, _, _, _, _, m₀, news, J, rfl, KTurns.ofWalksU (WalksT.enumerate hh (s.heap.objs.size + 1) s.heap.objs.size l (Nat.succ_ne_self _) (ktu_ne 1 hlt) (Nat.ne_of_lt hlt) vs.toArray).toU, ?_, ?_, ?_, ⟨⟨.none, hE⟩, hI, hl.at fun o e => hk l o e⟩, F.keeps hk, N.grown hk, h0, ?_, ?_⟩
  · intro hI'
    have hb' : env.locals = s.heap.objs.size + 1 ∨ env.locals = s.heap.objs.size ∨ env.locals = l := by simpa using hI'
    rcases hb' with e | e | e
    · exact ktu_ne 1 hLs e
    · exact Nat.ne_of_lt hLs e
    · exact hax.2.1 e.symm
  · intro b hb
    have hb' : b = s.heap.objs.size + 1 ∨ b = s.heap.objs.size := by simpa using hb
    rcases hb' with rfl | rfl
    · exact ktu_new F (Nat.le_add_right _ _)
    · exact ktu_new F (Nat.le_refl _)
  · intro p hp hI'
    have hb' : p.1 = s.heap.objs.size + 1 ∨ p.1 = s.heap.objs.size := by simpa using hI'
    have hlp := Heap.lt_size (N p hp).1
    rcases hb' with e | e
    · exact ktu_ne 1 hlp e
    · exact Nat.ne_of_lt hlp e
  · rintro i v m₁ news₁ h₁ tk₁ own hin ⟨T, vals, rfl, ⟨t, x, hx, rfl⟩, hT⟩ hJi hoff hown hget hall hst₁ F₁ N₁
    refine wpAny_mono (step i x m₁ news₁ h₁ tk₁ T t own (LoopStepV h₀ env.locals _ own (J (i + 1)) { s with heap := h₁, toks := tk₁ } (fun v s' => Q (.ret v) s') fun s' => Q .next s') (by simpa using hx) hJi ?_ ?_ F₁ N₁ ?_) (fun _ _ e => e) fun _ _ e => e
    · exact hT
    · intro p hp
      have hb' : p.1 = s.heap.objs.size + 1 ∨ p.1 = s.heap.objs.size ∨ p.1 = l := by simpa using hown p hp
      rcases hb' with e | e | e
      · exact .inr fun q hq e' => hoff q hq (by rw [e', e]; simp)
      · exact .inr fun q hq e' => hoff q hq (by rw [e', e]; simp)
      · exact .inl e
    · intro h'' tk'' m' news' hJ' hsub F' N'
      refine .next ⟨rfl, h'', tk'', m', news', rfl, F', N', fun p hp hI' => ?_, hJ'⟩
      obtain ⟨q, hq, e⟩ := hsub p hp
      exact hoff q hq (e ▸ hI')
  · intro h'' tk'' m' news' F' N' _ hJ'
    have : vs.toArray.size = vs.length := by simp
    exact done h'' tk'' m' news' (this ▸ hJ') F' N'
end
end
section
structure RW where
  H : HR
  nl : Addr
  dt : Addr
  wt : Tok
inductive RowOk (w : World) (Fx : FX) (R : RW) : Prop
  | mk (h : HolOk w Fx R.H) (w0 w1 w2 : Value) (s0 s1 s2 : PyData) (r0 r1 r2 z0 z1 z2 : Value) (er et : Nat) (e : R.H.vs = [w0, w1, w2]) (v0 : ValOk w Fx w0 s0) (v1 : ValOk w Fx w1 s1) (v2 : ValOk w Fx w2 s2) (m1 : (R.nl, listOf [r0, r1, r2].toArray er) ∈ Fx) (q0 : RefOk w Fx R.H.kd R.H.x 0 r0) (q1 : RefOk w Fx R.H.kd R.H.x 1 r1) (q2 : RefOk w Fx R.H.kd R.H.x 2 r2) (m2 : (R.dt, tup [z0, z1, z2] et) ∈ Fx) (b0 : ShOk Fx z0 s0) (b1 : ShOk Fx z1 s1) (b2 : ShOk Fx z2 s2)
theorem RowOk.mono {w : World} {F F' : FX} {R : RW} (s : ∀ p ∈ F, p ∈ F') : RowOk w F R → RowOk w F' R := fun x => by
  obtain ⟨h, w0, w1, w2, s0, s1, s2, r0, r1, r2, z0, z1, z2, er, et, e, v0, v1, v2, m1, q0, q1, q2, m2, b0, b1, b2⟩ := x
  exact ⟨h.mono s, w0, w1, w2, s0, s1, s2, r0, r1, r2, z0, z1, z2, er, et, e, v0.mono s, v1.mono s, v2.mono s, s _ m1, q0.mono s, q1.mono s, q2.mono s, s _ m2, b0.mono s, b1.mono s, b2.mono s⟩
theorem upd_self {m : Str → Option Value} {x : Str} {v : Option Value} (h : m x = v) : m = fun y => if y = x then v else m y := by
  funext y
  by_cases e : y = x
  · rw [if_pos e, e, h]
  · rw [if_neg e]
theorem upd_swap {m : Str → Option Value} {a b : Str} {u v : Option Value} (h : a ≠ b) : (fun y => if y = a then u else if y = b then v else m y) = fun y => if y = b then v else if y = a then u else m y := by
  funext y
  by_cases e : y = a
  · by_cases f : y = b
    · exact absurd (e.symm.trans f) h
    · simp only [e, h, if_true, if_false]
  · by_cases f : y = b
    · simp only [f, h.symm, if_true, if_false]
    · simp only [e, f, if_false]
noncomputable abbrev avs (Rs : List RW) : List Value := Rs.map fun R => .ref R.H.x
noncomputable abbrev nvs (Rs : List RW) : List Value := Rs.map fun R => .ref R.nl
noncomputable abbrev dvs (Rs : List RW) : List Value := Rs.map fun R => .ref R.dt
noncomputable abbrev wvs (Rs : List RW) : List Value := Rs.map fun R => .str (kWord R.H.kd) R.wt
end
section
theorem top_off_V11 : True := by
  w_top off
  trivial
section
noncomputable def checkFor : Stmt := match turnBody with | _ :: _ :: x :: _ => x | _ => .Pass ⟨0, 0, 0, 0⟩
set_option maxRecDepth 100000 in
set_option maxHeartbeats 8000000 in
theorem check_loop {w : World} {mean : ExcName → Option Value} {mg mb : Str → Option Value} {fa : Addr} {cd : Value} {base h₀ : Heap} {L : Addr} {m : Str → Option Value} {s : Shared} {Q : Flow → Shared → Prop} {E : Value → Shared → Prop} {sc : Scope} {st : Stmt} (hsc : lawScope = sc) (B : Below callerA base [] h₀) (X : (hd.heap_1 w.params).In h₀) (T : Top lawView Loose mean mg mb h₀) (hst : checkFor = st) (hE : PassesOwn (model PW w) (callerA.deeper (envOfC "law" sc L fa cd)) (envOfC "law" sc L fa cd) E) {nm du : Addr} (F : Fr h₀ L s.heap m) (hn : m "names" = some (.ref nm)) (hdue : m "due" = some (.ref du)) {K Fx : FX} {Rs : List RW} {e4 e5 : Nat} (N : News h₀ L s.heap K) (mn : (nm, listOf (nvs Rs).toArray e4) ∈ K) (md : (du, listOf (dvs Rs).toArray e5) ∈ K) (hF : ∀ p ∈ Fx, p ∈ K) (hC : ∀ R ∈ Rs, ∀ p ∈ R.H.cs, p ∈ K) (ok : ∀ R ∈ Rs, RowOk w Fx R) (hl : Rs.length < 20)
    (done : ∀ h' tk m', (∀ z : Str, z ≠ "spot" → z ≠ "refs" → m' z = m z) → Fr h₀ L h' m' → News h₀ L h' K → Q .next { s with heap := h', toks := tk }) :
    wpAny (model PW w) (callerA.deeper (envOfC "law" sc L fa cd)) (exec st (envOfC "law" sc L fa cd)) Q E s := by
  have hS5 : Stop 5 := .mk
  have hS0 : Stop 0 := .mk
  have hsc0 := hsc
  conv at hsc => lhs; whnf
  conv at hst => lhs; whnf
  subst hsc hst
  refine For_turns F ?_ (fun _ => rfl) hE
  rw [upd_self hn] at F
  k_steps
  refine Hold.in ?_
  rename Fr _ _ _ _ => F2
  rename News _ _ _ _ => N2
  rw [← upd_self hn] at F2
  refine enum_loop (n := e4) (vs := nvs Rs) rfl F2 N2 (fun i m₁ n₁ => (∀ z : Str, z ≠ "spot" → z ≠ "refs" → m₁ z = m z) ∧ n₁ = K) (fun i m₁ n₁ h => h.2 ▸ mn) ⟨fun _ _ _ => rfl, rfl⟩ ?_ ?_
  · clear F2 N2
    rintro i v m₁ news₁ h₁ tk₁ TT t own KK hv ⟨hm, rfl⟩ hT hown F₁ N₁ next
    have hd1 : m₁ "due" = some (.ref du) := (hm _ (by decide) (by decide)).trans hdue
    k_steps
    refine Hold.in ?_
    rename Fr _ _ _ _ => F2
    rename News _ _ _ _ => N2
    obtain ⟨R, hR, rfl⟩ : ∃ R, Rs[i]? = some R ∧ v = Value.ref R.nl := by
      rw [List.getElem?_map] at hv
      obtain ⟨R, hR, e⟩ := Option.map_eq_some_iff.mp hv
      exact ⟨R, hR, e.symm⟩
    have hRm := List.mem_of_getElem? hR
    have hi := (List.getElem?_eq_some_iff.mp hR).1
    obtain ⟨hH, w0, w1, w2, s0, s1, s2, r0, r1, r2, z0, z1, z2, er, et, hvs, v0, v1, v2, mr, q0, q1, q2, mt, b0, b1, b2⟩ := ok R hRm
    have gd : (dvs Rs)[((i : Nat) : Int).toNat]? = some (Value.ref R.dt) := by simp [hR]
    rw [upd_self hd1] at F2
    refine check_body (i := (i : Int)) hsc0 B X T rfl F2 N2 hH (fun p hp => List.mem_append_right _ (hF p hp)) (fun p hp => List.mem_append_right _ (hC R hRm p hp)) hvs v0 v1 v2 (List.mem_append_right _ (hF _ mr)) q0 q1 q2 (List.mem_append_right _ md) (by omega) (by omega) gd (List.mem_append_right _ (hF _ mt)) b0 b1 b2 ?_
    intro h9 tk9 F9 N9
    exact next _ _ _ _ ⟨fun z z1 z2 => by rw [if_neg z2, if_neg z1]; exact (congrFun (upd_self hd1) z).symm.trans (hm z z1 z2), rfl⟩ (fun p hp => ⟨p, hp, rfl⟩) F9 N9
  · rintro h' tk m' news' ⟨hm, rfl⟩ F₁ N₁
    exact done h' tk m' hm F₁ N₁
end
end
section
theorem top_off_V5 : True := by
  w_top off
  trivial
section
noncomputable def copyComp : Expr := match turnBody with | _ :: .If _ (_ :: .Expr (.Call _ (e :: _) _ _) _ :: _) _ _ :: _ => e | _ => .Constant .none 0 ⟨0, 0, 0, 0⟩
set_option maxRecDepth 100000 in
set_option maxHeartbeats 8000000 in
theorem c_refs {w : World} {mean : ExcName → Option Value} {mg mb : Str → Option Value} {fa : Addr} {cd : Value} {base h₀ : Heap} {L : Addr} {m : Str → Option Value} {s : Shared} {Q : Value → Shared → Prop} {E : Value → Shared → Prop} {sc : Scope} {ex : Expr} (hsc : lawScope = sc) (B : Below callerA base [] h₀) (X : (hd.heap_1 w.params).In h₀) (T : Top lawView Loose mean mg mb h₀) (hex : copyComp = ex) (F : Fr h₀ L s.heap m) {K Fx : FX} {H : HR} {oc : Obj} (N : News h₀ L s.heap K) (hH : HolOk w Fx H) (hF : ∀ p ∈ Fx, p ∈ K) (mc : (L + 1 + 1 + 1, oc) ∈ K) (dc : oc.data = .cell (some (.ref H.x)))
    (done : ∀ h' tk D n r0 r1 r2 (fx : FX), Fr h₀ L h' m → News h₀ L h' ((D, listOf [r0, r1, r2].toArray n) :: (fx ++ K)) → (∀ p ∈ fx, ∀ q ∈ K, q.1 ≠ p.1) → (∀ q ∈ K, q.1 ≠ D) → RefOk w fx H.kd H.x 0 r0 → RefOk w fx H.kd H.x 1 r1 → RefOk w fx H.kd H.x 2 r2 → Q (.ref D) { s with heap := h', toks := tk }) :
    wpAny (model PW w) (callerA.deeper (envOfC "law" sc L fa cd)) (eval ex (envOfC "law" sc L fa cd)) Q E s := by
  have hS2 : Stop 2 := .mk
  conv at hsc => lhs; whnf
  conv at hex => lhs; whnf
  subst hsc hex
  refine LCg.ListComp_U (F₀ := F) (by with_unfolding_all rfl) (by decide) (by rfl) (by decide) (by rfl) ?_
  k_steps
  refine Hold.in ?_
  rename IsRange _ _ _ _ _ _ _ _ => rg
  rename Fr _ _ _ _ => F2
  rename News _ _ _ _ => N2
  refine LCg.CompSrc.range (n := 3) rfl F2 N2 rg (by decide) (by rfl) (by decide) ?_
  clear F2 N2 rg
  intro g2
  refine LCg.CompRest.succ ?_
  intro v0 I0 oI0 C0 oC0 D0 m0 h0 tk0 E0 hv0 hC0 hx0 F0 N0 off0 ne0
  obtain ⟨tv0, rfl⟩ := hv0
  k_steps
  refine Hold.in ?_
  refine' TellU.use (u_ref (ro := (I0, oI0) :: (C0, oC0) :: (D0, LCg.lst []) :: K) hH (by decide) (by decide) (fun p hp => List.mem_cons_of_mem _ (List.mem_cons_of_mem _ (List.mem_cons_of_mem _ (hF p hp))))) ?p1 ?p2 ?p3 ?p4 ?p5 ?p6 ?p7 N0 ?_
  case p1 => ktr_room
  case p2 => exact Nat.le_of_ble_eq_true rfl
  case p3 => k_asm
  case p4 => k_asm
  case p5 => k_asm
  case p6 => k_asm
  case p7 => first | exact rfl | assumption
  intro r0 g0 tg0 Fg0 k0 P0
  obtain ⟨x0, d0, o0, rfl, fx0, i0, fd0⟩ := P0
  refine comp_end F0 Fg0 N0 k0 off0 [(x0, instObj 117 d0), (d0, o0)] (by intro p hp; rcases List.mem_cons.mp hp with rfl | hp; (· exact fx0); (· rw [List.mem_singleton.mp hp]; exact fd0)) trivial (fun sep0 => ?_)
  clear k0 fx0 fd0 N0 F0 Fg0 off0 hx0 hC0 ne0
  obtain ⟨K1, eK1⟩ : ∃ K', K' = [(x0, instObj 117 d0), (d0, o0)] ++ K := ⟨_, rfl⟩
  rw [← eK1]
  have hK1 : ∀ p ∈ K, p ∈ K1 := fun p hp => by rw [eK1]; exact List.mem_append_right _ (hp)
  have mc1 := hK1 _ mc
  refine LCg.CompRest.succ ?_
  intro v1 I1 oI1 C1 oC1 D1 m1 h1 tk1 E1 hv1 hC1 hx1 F1 N1 off1 ne1
  obtain ⟨tv1, rfl⟩ := hv1
  k_steps
  refine Hold.in ?_
  refine' TellU.use (u_ref (ro := (I1, oI1) :: (C1, oC1) :: (D1, LCg.lst ([] ++ [Value.ref x0])) :: K1) hH (by decide) (by decide) (fun p hp => List.mem_cons_of_mem _ (List.mem_cons_of_mem _ (List.mem_cons_of_mem _ (hK1 p (hF p hp)))))) ?p1 ?p2 ?p3 ?p4 ?p5 ?p6 ?p7 N1 ?_
  case p1 => ktr_room
  case p2 => exact Nat.le_of_ble_eq_true rfl
  case p3 => k_asm
  case p4 => k_asm
  case p5 => k_asm
  case p6 => k_asm
  case p7 => first | exact rfl | assumption
  intro r1 g1 tg1 Fg1 k1 P1
  obtain ⟨x1, d1, o1, rfl, fx1, i1, fd1⟩ := P1
  refine comp_end F1 Fg1 N1 k1 off1 [(x1, instObj 117 d1), (d1, o1)] (by intro p hp; rcases List.mem_cons.mp hp with rfl | hp; (· exact fx1); (· rw [List.mem_singleton.mp hp]; exact fd1)) trivial (fun sep1 => ?_)
  clear k1 fx1 fd1 N1 F1 Fg1 off1 hx1 hC1 ne1
  obtain ⟨K2, eK2⟩ : ∃ K', K' = [(x1, instObj 117 d1), (d1, o1)] ++ K1 := ⟨_, rfl⟩
  rw [← eK2]
  have hK2 : ∀ p ∈ K, p ∈ K2 := fun p hp => by rw [eK2]; exact List.mem_append_right _ (hK1 p hp)
  have mc2 := hK2 _ mc
  refine LCg.CompRest.succ ?_
  intro v2 I2 oI2 C2 oC2 D2 m2 h2 tk2 E2 hv2 hC2 hx2 F2 N2 off2 ne2
  obtain ⟨tv2, rfl⟩ := hv2
  k_steps
  refine Hold.in ?_
  refine' TellU.use (u_ref (ro := (I2, oI2) :: (C2, oC2) :: (D2, LCg.lst ([] ++ [Value.ref x0] ++ [Value.ref x1])) :: K2) hH (by decide) (by decide) (fun p hp => List.mem_cons_of_mem _ (List.mem_cons_of_mem _ (List.mem_cons_of_mem _ (hK2 p (hF p hp)))))) ?p1 ?p2 ?p3 ?p4 ?p5 ?p6 ?p7 N2 ?_
  case p1 => ktr_room
  case p2 => exact Nat.le_of_ble_eq_true rfl
  case p3 => k_asm
  case p4 => k_asm
  case p5 => k_asm
  case p6 => k_asm
  case p7 => first | exact rfl | assumption
  intro r2 g2 tg2 Fg2 k2 P2
  obtain ⟨x2, d2, o2, rfl, fx2, i2, fd2⟩ := P2
  refine comp_end F2 Fg2 N2 k2 off2 [(x2, instObj 117 d2), (d2, o2)] (by intro p hp; rcases List.mem_cons.mp hp with rfl | hp; (· exact fx2); (· rw [List.mem_singleton.mp hp]; exact fd2)) trivial (fun sep2 => ?_)
  clear k2 fx2 fd2 N2 F2 Fg2 off2 hx2 hC2 ne2
  obtain ⟨K3, eK3⟩ : ∃ K', K' = [(x2, instObj 117 d2), (d2, o2)] ++ K2 := ⟨_, rfl⟩
  rw [← eK3]
  have hK3 : ∀ p ∈ K, p ∈ K3 := fun p hp => by rw [eK3]; exact List.mem_append_right _ (hK2 p hp)
  refine LCg.CompRest.zero ?_
  intro D9 h9 tk9 F9 N9 o9
  have oK := off1_mem o9
  subst eK3 eK2 eK1
  refine done h9 tk9 D9 3 (.ref x0) (.ref x1) (.ref x2) ([(x2, instObj 117 d2), (d2, o2)] ++ ([(x1, instObj 117 d1), (d1, o1)] ++ [(x0, instObj 117 d0), (d0, o0)])) F9 N9 (fun p hp q hq => ?_) (fun q hq => oK q (hK3 _ hq)) ⟨x0, d0, o0, rfl, ?_, ?_, i0⟩ ⟨x1, d1, o1, rfl, ?_, ?_, i1⟩ ⟨x2, d2, o2, rfl, ?_, ?_, i2⟩
  · rcases List.mem_append.mp hp with hp | hp
    · exact sep2 p hp q (hK2 _ hq)
    rcases List.mem_append.mp hp with hp | hp
    · exact sep1 p hp q (hK1 _ hq)
    · exact sep0 p hp q hq
  all_goals simp
end
end
section
noncomputable abbrev Cs (Rs : List RW) : FX := Rs.flatMap fun R => R.H.cs
structure SD where
  Rs : List RW
  al : Addr
  wo : Addr
  du : Addr
  n : Int
  tn : Tok
  vs : List Value
  xs : List Int
  e1 : Nat
  e2 : Nat
  e3 : Nat
  e4 : Nat
  e5 : Nat
  e6 : Nat
  e7 : Nat
  ow : Obj
  oc1 : Obj
  oc2 : Obj
  oc3 : Obj
  Fx : FX
noncomputable abbrev SD.hot (d : SD) (bx ib wdd hl nm L : Addr) (G : FX) : FX := (bx, listOf [.ref ib, .int d.n d.tn].toArray d.e1) :: (ib, listOf d.vs.toArray d.e2) :: (wdd, d.ow) :: (hl, listOf (avs d.Rs).toArray d.e3) :: (nm, listOf (nvs d.Rs).toArray d.e4) :: (d.du, listOf (dvs d.Rs).toArray d.e5) :: (L + 1, d.oc1) :: (L + 1 + 1, d.oc2) :: (L + 1 + 1 + 1, d.oc3) :: G
noncomputable def Apart (O : FX) (hs : List Addr) (C F : FX) : Prop := hs.Nodup ∧ (C.map (·.1)).Nodup ∧ (∀ p ∈ F, p.1 ∉ C.map (·.1)) ∧ (∀ p ∈ C ++ F, p.1 ∉ hs) ∧ ∀ q ∈ O, q.1 ∉ hs ∧ ∀ p ∈ C ++ F, q.1 ≠ p.1
structure SOk (w : World) (O : FX) (bx ib wx wdd hl nm L : Addr) (d : SD) (m : Str → Option Value) : Prop where
  isI : IntsAre d.vs d.xs
  n0 : 0 ≤ d.n
  zv : d.vs.length < 64
  z0 : 0 < d.Rs.length
  wd : IsWd w d.Rs.length hl d.ow
  cw : d.oc1.data = .cell (some (.ref wx))
  ch : ∃ v, d.oc2.data = .cell v
  cc : ∃ v, d.oc3.data = .cell v
  ma : (d.al, listOf (avs d.Rs).toArray d.e6) ∈ d.Fx
  mw : (d.wo, listOf (wvs d.Rs).toArray d.e7) ∈ d.Fx
  mx : (wx, instObj 348 wdd) ∈ d.Fx
  ap : Apart O [bx, ib, wdd, hl, nm, d.du, L + 1, L + 1 + 1, L + 1 + 1 + 1] (Cs d.Rs) d.Fx
  ok : ∀ R ∈ d.Rs, RowOk w d.Fx R
  num : ∀ (i : Nat) (R : RW), d.Rs[i]? = some R → R.H.num = (i : Int) + 1
  mb : m "box" = some (.ref bx)
  mall : m "all_of" = some (.ref d.al)
  mn : m "names" = some (.ref nm)
  md : m "due" = some (.ref d.du)
  mwo : m "words" = some (.ref d.wo)
theorem mem_mid {A B : List Addr} {f x : Addr} (h : x ∈ A ++ f :: B) : x = f ∨ x ∈ A ++ B := by
  rcases List.mem_append.mp h with h | h
  · exact .inr (List.mem_append_left _ h)
  rcases List.mem_cons.mp h with h | h
  · exact .inl h
  · exact .inr (List.mem_append_right _ h)
theorem mid_mem {A B : List Addr} {f x : Addr} (h : x ∈ A ++ B) : x ∈ A ++ f :: B := (List.mem_append.mp h).elim (List.mem_append_left _) (fun h => List.mem_append_right _ (List.mem_cons_of_mem _ h))
theorem nodup_ins {A B : List Addr} {f : Addr} (h : (A ++ B).Nodup) (ne : ∀ x ∈ A ++ B, x ≠ f) : (A ++ f :: B).Nodup :=
  (List.perm_middle.nodup_iff).mpr (List.nodup_cons.mpr ⟨fun hm => ne f hm rfl, h⟩)
theorem nodup_swap {A B : List Addr} {f f' : Addr} (h : (A ++ f :: B).Nodup) (ne : ∀ x ∈ A ++ f :: B, x ≠ f') : (A ++ f' :: B).Nodup :=
  nodup_ins (List.nodup_cons.mp ((List.perm_middle.nodup_iff).mp h)).2 (fun x hx => ne x (mid_mem hx))
section
variable {hs : List Addr} {O C F K new : FX}
theorem Apart.add_fix (h : Apart O hs C F) (hm : ∀ a ∈ hs, ∃ o, (a, o) ∈ K) (hC : ∀ p ∈ C, p ∈ K) (hO : ∀ p ∈ O, p ∈ K) (sep : ∀ p ∈ new, ∀ q ∈ K, q.1 ≠ p.1) : Apart O hs C (new ++ F) := by
  obtain ⟨h1, h2, h3, h4, h5⟩ := h
  refine ⟨h1, h2, fun p hp hc => ?_, fun p hp hh => ?_, fun q hq => ⟨(h5 q hq).1, fun p hp => ?_⟩⟩
  · rcases List.mem_append.mp hp with hp | hp
    · obtain ⟨q, hq, e⟩ := List.mem_map.mp hc
      exact sep p hp q (hC q hq) e
    · exact h3 p hp hc
  · rcases List.mem_append.mp hp with hp | hp
    · exact h4 p (List.mem_append_left _ hp) hh
    rcases List.mem_append.mp hp with hp | hp
    · obtain ⟨o, ho⟩ := hm _ hh
      exact sep p hp _ ho rfl
    · exact h4 p (List.mem_append_right _ hp) hh
  · rcases List.mem_append.mp hp with hp | hp
    · exact (h5 q hq).2 p (List.mem_append_left _ hp)
    rcases List.mem_append.mp hp with hp | hp
    · exact sep p hp q (hO q hq)
    · exact (h5 q hq).2 p (List.mem_append_right _ hp)
theorem Apart.add_cell (h : Apart O hs C F) (hm : ∀ a ∈ hs, ∃ o, (a, o) ∈ K) (hC : ∀ p ∈ C ++ F, p ∈ K) (hO : ∀ p ∈ O, p ∈ K) (nn : (new.map (·.1)).Nodup) (sep : ∀ p ∈ new, ∀ q ∈ K, q.1 ≠ p.1) : Apart O hs (C ++ new) F := by
  obtain ⟨h1, h2, h3, h4, h5⟩ := h
  refine ⟨h1, ?_, fun p hp hc => ?_, fun p hp hh => ?_, fun q hq => ⟨(h5 q hq).1, fun p hp => ?_⟩⟩
  · rw [List.map_append, List.nodup_append]
    refine ⟨h2, nn, fun a ha b hb e => ?_⟩
    obtain ⟨q, hq, rfl⟩ := List.mem_map.mp ha
    obtain ⟨p, hp, rfl⟩ := List.mem_map.mp hb
    exact sep p hp q (hC q (List.mem_append_left _ hq)) e
  · rw [List.map_append] at hc
    rcases List.mem_append.mp hc with hc | hc
    · exact h3 p hp hc
    · obtain ⟨q, hq, e⟩ := List.mem_map.mp hc
      exact sep q hq p (hC p (List.mem_append_right _ hp)) e.symm
  · rcases List.mem_append.mp hp with hp | hp
    · rcases List.mem_append.mp hp with hp | hp
      · exact h4 p (List.mem_append_left _ hp) hh
      · obtain ⟨o, ho⟩ := hm _ hh
        exact sep p hp _ ho rfl
    · exact h4 p (List.mem_append_right _ hp) hh
  · rcases List.mem_append.mp hp with hp | hp
    · rcases List.mem_append.mp hp with hp | hp
      · exact (h5 q hq).2 p (List.mem_append_left _ hp)
      · exact sep p hp q (hO q hq)
    · exact (h5 q hq).2 p (List.mem_append_right _ hp)
theorem Apart.swap {a b c d e f f' g i j : Addr} (h : Apart O [a, b, c, d, e, f, g, i, j] C F) (hm : ∀ x ∈ [a, b, c, d, e, f, g, i, j], ∃ o, (x, o) ∈ K) (hC : ∀ p ∈ C ++ F, p ∈ K) (hO : ∀ p ∈ O, p ∈ K) (sep : ∀ q ∈ K, q.1 ≠ f') : Apart O [a, b, c, d, e, f', g, i, j] C F := by
  obtain ⟨h1, h2, h3, h4, h5⟩ := h
  have ne : ∀ x ∈ [a, b, c, d, e, f, g, i, j], x ≠ f' := fun x hx => by
    obtain ⟨o, ho⟩ := hm x hx
    exact sep _ ho
  have back : ∀ {x : Addr}, x ≠ f' → x ∈ [a, b, c, d, e, f', g, i, j] → x ∈ [a, b, c, d, e, f, g, i, j] := fun hn hx => mid_mem (A := [a, b, c, d, e]) (B := [g, i, j]) ((mem_mid (A := [a, b, c, d, e]) (B := [g, i, j]) hx).resolve_left hn)
  exact ⟨nodup_swap (A := [a, b, c, d, e]) (B := [g, i, j]) h1 ne, h2, h3, fun p hp hh => h4 p hp (back (sep p (hC p hp)) hh), fun q hq => ⟨fun hh => (h5 q hq).1 (back (sep q (hO q hq)) hh), (h5 q hq).2⟩⟩
theorem fresh_sep {h₀ h h' : Heap} {L : Addr} (N : News h₀ L h K) (hf : ∀ p ∈ new, Fresh h h' p.1 p.2) : ∀ p ∈ new, ∀ q ∈ K, q.1 ≠ p.1 := fun p hp q hq => (fresh_ne (hf p hp) (N q hq).1).symm
theorem two_next {h₀ h h' : Heap} {L a b : Addr} {m : Str → Option Value} {o1 o2 p1 p2 : Obj} {ro : FX} (F : Fr h₀ L h m) (N : News h₀ L h ([(a, o1), (b, o2)] ++ ro)) (k : GSub h h' [a, b]) (hn : ∀ p ∈ ro, p.1 ≠ a ∧ p.1 ≠ b) (g1 : h'.get? a = some p1) (g2 : h'.get? b = some p2) (hf : ∀ p ∈ new, Fresh h h' p.1 p.2) :
    News h₀ L h' ((a, p1) :: (b, p2) :: (new ++ ro)) := fun p hp => by
  rcases List.mem_cons.mp hp with rfl | hp
  · exact ⟨g1, (N (a, o1) (List.mem_cons_self ..)).2⟩
  rcases List.mem_cons.mp hp with rfl | hp
  · exact ⟨g2, (N (b, o2) (List.mem_cons_of_mem _ (List.mem_cons_self ..))).2⟩
  · exact after_call F (fun q hq => N q (List.mem_append_right _ hq)) k (off_pair hn) hf p hp
theorem pull_wd {h₀ h : Heap} {L : Addr} {a b c d e f g i j : Addr × Obj} {G : FX} (N : News h₀ L h (a :: b :: c :: d :: e :: f :: g :: i :: j :: G)) : News h₀ L h ([c, d] ++ (a :: b :: e :: f :: g :: i :: j :: G)) := fun p hp => N p (sb_use hp (by walk_at "t_sub"))
theorem push_wd {h₀ h : Heap} {L : Addr} {a b c d e f g i j : Addr × Obj} {G new : FX} (N : News h₀ L h (c :: d :: (new ++ (a :: b :: e :: f :: g :: i :: j :: G)))) : News h₀ L h (a :: b :: c :: d :: e :: f :: g :: i :: j :: (new ++ G)) := fun p hp => N p (sb_use hp (by walk_at "t_sub"))
theorem push_new {h₀ h : Heap} {L : Addr} {x a b c d e f g i j : Addr × Obj} {G new : FX} (N : News h₀ L h (x :: (new ++ (a :: b :: c :: d :: e :: f :: g :: i :: j :: G)))) : News h₀ L h (a :: b :: c :: d :: e :: f :: g :: i :: j :: (x :: (new ++ G))) := fun p hp => N p (sb_use hp (by walk_at "t_sub"))
end
section
variable {prog : Program} {w : World} {A : Around} {E : Value → Shared → Prop} {s : Shared} {h₀ : Heap} {L a b : Addr} {m : Str → Option Value} {news : List (Addr × Obj)} {Q : Value → Shared → Prop}
theorem cat1 {vs : List Value} {x : Value} {n k : Nat} (F : Fr h₀ L s.heap m) (N : News h₀ L s.heap news) (ma : (a, listOf vs.toArray n) ∈ news) (mb : (b, listOf [x].toArray k) ∈ news) (hz : vs.length < 100)
    (h : ∀ D h', Fr h₀ L h' m → News h₀ L h' ((D, listOf (vs ++ [x]).toArray 0) :: news) → (∀ p ∈ news, p.1 < D) → Q (.ref D) { s with heap := h' }) : wpAny (model prog w) A (binaryOp .Add (.ref a) (.ref b)) Q E s :=
  add_lists F N (PySem.IsL.isList (N.get ma)) (PySem.IsL.isList (N.get mb)) (fun h' F' N' => h _ h' F' N' fun p hp => Heap.lt_size (N p hp).1) (by rw [sizeLine_eq]; simp; omega)
end
theorem m7 {a b c d e f g : Addr × Obj} {G : FX} {p : Addr × Obj} (hp : p ∈ G) : p ∈ a :: b :: c :: d :: e :: f :: g :: G := List.mem_cons_of_mem _ (List.mem_cons_of_mem _ (List.mem_cons_of_mem _ (List.mem_cons_of_mem _ (List.mem_cons_of_mem _ (List.mem_cons_of_mem _ (List.mem_cons_of_mem _ hp))))))
theorem mem_Cs {Rs : List RW} {R : RW} (h : R ∈ Rs) {p : Addr × Obj} (hp : p ∈ R.H.cs) : p ∈ Cs Rs := List.mem_flatMap.mpr ⟨R, h, hp⟩
theorem offHot_app {bx ib wdd hl nm du c1 c2 c3 : Addr} {new G : FX} (a : OffHot bx ib wdd hl nm du c1 c2 c3 new) (b : OffHot bx ib wdd hl nm du c1 c2 c3 G) : OffHot bx ib wdd hl nm du c1 c2 c3 (new ++ G) := fun p hp => (List.mem_append.mp hp).elim (a p) (b p)
theorem offHot_of {bx ib wdd hl nm du c1 c2 c3 : Addr} {new K : FX} {o1 o2 o3 o4 o5 o6 o7 o8 o9 : Obj} (sep : ∀ p ∈ new, ∀ q ∈ K, q.1 ≠ p.1) (hk : ∀ p ∈ [(bx, o1), (ib, o2), (wdd, o3), (hl, o4), (nm, o5), (du, o6), (c1, o7), (c2, o8), (c3, o9)], p ∈ K) : OffHot bx ib wdd hl nm du c1 c2 c3 new := fun p hp hm => by
  obtain ⟨q, hq, e⟩ := List.mem_map.mp (show p.1 ∈ [(bx, o1), (ib, o2), (wdd, o3), (hl, o4), (nm, o5), (du, o6), (c1, o7), (c2, o8), (c3, o9)].map (·.1) from hm)
  exact sep p hp q (hk q hq) e
theorem hotmem {bx ib wdd hl nm du c1 c2 c3 : Addr} {K : FX} {o1 o2 o3 o4 o5 o6 o7 o8 o9 : Obj} (hk : ∀ p ∈ [(bx, o1), (ib, o2), (wdd, o3), (hl, o4), (nm, o5), (du, o6), (c1, o7), (c2, o8), (c3, o9)], p ∈ K) : ∀ a ∈ [bx, ib, wdd, hl, nm, du, c1, c2, c3], ∃ o, (a, o) ∈ K := fun a hm => by
  obtain ⟨p, hp, rfl⟩ := List.mem_map.mp (show a ∈ [(bx, o1), (ib, o2), (wdd, o3), (hl, o4), (nm, o5), (du, o6), (c1, o7), (c2, o8), (c3, o9)].map (·.1) from hm)
  exact ⟨p.2, hk p hp⟩
theorem hot9 {a b c d e f g i j : Addr × Obj} {G : FX} : ∀ p ∈ [a, b, c, d, e, f, g, i, j], p ∈ a :: b :: c :: d :: e :: f :: g :: i :: j :: G := by walk_at "t_sub"
theorem in9 {a b c d e f g i j : Addr × Obj} {G : FX} {p : Addr × Obj} (hp : p ∈ G) : p ∈ a :: b :: c :: d :: e :: f :: g :: i :: j :: G := List.mem_cons_of_mem _ (List.mem_cons_of_mem _ (List.mem_cons_of_mem _ (List.mem_cons_of_mem _ (List.mem_cons_of_mem _ (List.mem_cons_of_mem _ (List.mem_cons_of_mem _ (List.mem_cons_of_mem _ (List.mem_cons_of_mem _ hp))))))))
theorem offHot_pull {bx ib wdd hl nm du c1 c2 c3 : Addr} {new G : FX} {o1 o2 o3 o4 o5 o6 o7 o8 o9 : Obj} (sep : ∀ p ∈ new, ∀ q ∈ [(wdd, o3), (hl, o4)] ++ ((bx, o1) :: (ib, o2) :: (nm, o5) :: (du, o6) :: (c1, o7) :: (c2, o8) :: (c3, o9) :: G), q.1 ≠ p.1) : OffHot bx ib wdd hl nm du c1 c2 c3 new :=
  offHot_of (o1 := o1) (o2 := o2) (o3 := o3) (o4 := o4) (o5 := o5) (o6 := o6) (o7 := o7) (o8 := o8) (o9 := o9) sep (by walk_at "t_sub")
theorem offHot_new {bx ib wdd hl nm du c1 c2 c3 : Addr} {new G : FX} {o1 o2 o3 o4 o5 o6 o7 o8 o9 : Obj} (sep : ∀ p ∈ new, ∀ q ∈ (bx, o1) :: (ib, o2) :: (wdd, o3) :: (hl, o4) :: (nm, o5) :: (du, o6) :: (c1, o7) :: (c2, o8) :: (c3, o9) :: G, q.1 ≠ p.1) : OffHot bx ib wdd hl nm du c1 c2 c3 new :=
  offHot_of (o1 := o1) (o2 := o2) (o3 := o3) (o4 := o4) (o5 := o5) (o6 := o6) (o7 := o7) (o8 := o8) (o9 := o9) sep hot9
theorem offHot_one {bx ib wdd hl nm du c1 c2 c3 D : Addr} {o : Obj} {G : FX} {o1 o2 o3 o4 o5 o6 o7 o8 o9 : Obj} (sep : ∀ q ∈ (bx, o1) :: (ib, o2) :: (wdd, o3) :: (hl, o4) :: (nm, o5) :: (du, o6) :: (c1, o7) :: (c2, o8) :: (c3, o9) :: G, q.1 ≠ D) : OffHot bx ib wdd hl nm du c1 c2 c3 [(D, o)] :=
  offHot_new (o1 := o1) (o2 := o2) (o3 := o3) (o4 := o4) (o5 := o5) (o6 := o6) (o7 := o7) (o8 := o8) (o9 := o9) (G := G) fun p hp q hq => by
    rw [List.mem_singleton.mp hp]
    exact sep q hq
theorem collapse {h₀ h : Heap} {L : Addr} {K : FX} (N : News h₀ L h K) : ∃ K', K' = K ∧ News h₀ L h K' := ⟨K, rfl, N⟩
end
section
theorem Cs_snoc (Rs : List RW) (R : RW) : Cs (Rs ++ [R]) = Cs Rs ++ R.H.cs := by simp [Cs]
theorem lt_ne {a b : Addr} (h : @LT.lt Nat instLTNat a b) : a ≠ b := Nat.ne_of_lt h
theorem hotmem_pull {bx ib wdd hl nm du c1 c2 c3 : Addr} {G : FX} {o1 o2 o3 o4 o5 o6 o7 o8 o9 : Obj} : ∀ a ∈ [bx, ib, wdd, hl, nm, du, c1, c2, c3], ∃ o, (a, o) ∈ [(wdd, o3), (hl, o4)] ++ ((bx, o1) :: (ib, o2) :: (nm, o5) :: (du, o6) :: (c1, o7) :: (c2, o8) :: (c3, o9) :: G) :=
  hotmem (o1 := o1) (o2 := o2) (o3 := o3) (o4 := o4) (o5 := o5) (o6 := o6) (o7 := o7) (o8 := o8) (o9 := o9) (by walk_at "t_sub")
theorem copy_final {w : World} {O : FX} {bx ib wx wdd hl nm du L : Addr} {Rs : List RW} {Fx G G4 G6 K7 fx fx2 : FX} {H' : HR} {R : RW} {D a' d' w' t1 t3 t5 t7 : Addr} {u1 u3 u5 u7 ow ow' oc1 oc2 oc3 oc3' : Obj} {n2 : Int} {tn2 : Tok} {vs2 : List Value} {xs2 : List Int} {e3 e4 e5 g1 g2 eh' n6 : Nat} {r0 r1 r2 : Value} {h₀ h' : Heap} {m' : Str → Option Value}
    (hG : G = O ++ (Cs Rs ++ Fx)) (hG4 : G4 = (fx ++ H'.cs) ++ G) (hG6 : G6 = (D, listOf [r0, r1, r2].toArray n6) :: (fx2 ++ G4))
    (hK7 : K7 = (bx, listOf [.ref ib, .int n2 tn2].toArray g1) :: (ib, listOf vs2.toArray g2) :: (wdd, ow') :: (hl, listOf (avs Rs ++ [Value.ref H'.x]).toArray eh') :: (nm, listOf (nvs Rs ++ [Value.ref D]).toArray (e4 + 1)) :: (du, listOf (dvs Rs).toArray e5) :: (L + 1, oc1) :: (L + 1 + 1, oc2) :: (L + 1 + 1 + 1, oc3') :: G6)
    (ap : Apart O [bx, ib, wdd, hl, nm, du, L + 1, L + 1 + 1, L + 1 + 1 + 1] (Cs Rs) Fx) (ok : ∀ R ∈ Rs, RowOk w Fx R) (num : ∀ (i : Nat) (R : RW), Rs[i]? = some R → R.H.num = (i : Int) + 1)
    (sep4 : ∀ p ∈ fx ++ H'.cs, ∀ q ∈ [(wdd, ow), (hl, listOf (avs Rs).toArray e3)] ++ ((bx, listOf [.ref ib, .int n2 tn2].toArray g1) :: (ib, listOf vs2.toArray g2) :: (nm, listOf (nvs Rs).toArray e4) :: (du, listOf (dvs Rs).toArray e5) :: (L + 1, oc1) :: (L + 1 + 1, oc2) :: (L + 1 + 1 + 1, oc3) :: G), q.1 ≠ p.1)
    (ncs : (H'.cs.map (·.1)).Nodup) (sfx : ∀ p ∈ fx, p.1 ∉ H'.cs.map (·.1))
    (sep6 : ∀ p ∈ fx2, ∀ q ∈ (bx, listOf [.ref ib, .int n2 tn2].toArray g1) :: (ib, listOf vs2.toArray g2) :: (wdd, ow') :: (hl, listOf (avs Rs ++ [Value.ref H'.x]).toArray eh') :: (nm, listOf (nvs Rs).toArray e4) :: (du, listOf (dvs Rs).toArray e5) :: (L + 1, oc1) :: (L + 1 + 1, oc2) :: (L + 1 + 1 + 1, oc3') :: G4, q.1 ≠ p.1)
    (oD : ∀ q ∈ (bx, listOf [.ref ib, .int n2 tn2].toArray g1) :: (ib, listOf vs2.toArray g2) :: (wdd, ow') :: (hl, listOf (avs Rs ++ [Value.ref H'.x]).toArray eh') :: (nm, listOf (nvs Rs).toArray e4) :: (du, listOf (dvs Rs).toArray e5) :: (L + 1, oc1) :: (L + 1 + 1, oc2) :: (L + 1 + 1 + 1, oc3') :: G4, q.1 ≠ D)
    (za : ∀ p ∈ K7, @LT.lt Nat instLTNat p.1 a') (zd : ∀ p ∈ K7, @LT.lt Nat instLTNat p.1 d') (zw : ∀ p ∈ K7, @LT.lt Nat instLTNat p.1 w') (had : @LT.lt Nat instLTNat a' d') (hdw : @LT.lt Nat instLTNat d' w')
    (N : News h₀ L h' ((t7, u7) :: (w', listOf (wvs Rs ++ [Value.str (kWord R.H.kd) R.wt]).toArray 0) :: (t5, u5) :: (d', listOf (dvs Rs ++ [Value.ref R.dt]).toArray 0) :: (t3, u3) :: (a', listOf (avs Rs ++ [Value.ref H'.x]).toArray 0) :: (t1, u1) :: K7))
    (hRm : R ∈ Rs) (hkd : H'.kd = R.H.kd) (hnum : H'.num = (Rs.length : Int) + 1) (hvs' : H'.vs = R.H.vs) (hol' : ∀ F' : FX, (∀ p ∈ Fx, p ∈ F') → (∀ p ∈ fx, p ∈ F') → HolOk w F' H')
    (q0 : RefOk w fx2 H'.kd H'.x 0 r0) (q1 : RefOk w fx2 H'.kd H'.x 1 r1) (q2 : RefOk w fx2 H'.kd H'.x 2 r2)
    (hI : IntsAre vs2 xs2) (hn : 0 ≤ n2) (hz : vs2.length < 64) (iw : IsWd w ((Rs.length : Int) + 1) hl ow') (c1 : oc1.data = .cell (some (.ref wx))) (c2 : ∃ v, oc2.data = .cell v) (c3 : ∃ v, oc3'.data = .cell v) (mx : (wx, instObj 348 wdd) ∈ Fx)
    (_F : Fr h₀ L h' m') (mb : m' "box" = some (.ref bx)) (mall : m' "all_of" = some (.ref a')) (mn : m' "names" = some (.ref nm)) (md : m' "due" = some (.ref d')) (mwo : m' "words" = some (.ref w')) :
    ∃ d9 : SD, News h₀ L h' (d9.hot bx ib wdd hl nm L (O ++ (Cs d9.Rs ++ d9.Fx))) ∧ SOk w O bx ib wx wdd hl nm L d9 m' ∧ d9.Rs.length = Rs.length + 1 ∧ d9.n = n2 := by
  let Rn : RW := ⟨H', D, R.dt, R.wt⟩
  let F1 : FX := (D, listOf [r0, r1, r2].toArray n6) :: (fx2 ++ (fx ++ Fx))
  let F2 : FX := (a', listOf (avs Rs ++ [Value.ref H'.x]).toArray 0) :: (w', listOf (wvs Rs ++ [Value.str (kWord R.H.kd) R.wt]).toArray 0) :: F1
  have hRs : Cs (Rs ++ [Rn]) = Cs Rs ++ H'.cs := Cs_snoc _ _
  have ea : avs (Rs ++ [Rn]) = avs Rs ++ [Value.ref H'.x] := List.map_append
  have en : nvs (Rs ++ [Rn]) = nvs Rs ++ [Value.ref D] := List.map_append
  have ed : dvs (Rs ++ [Rn]) = dvs Rs ++ [Value.ref R.dt] := List.map_append
  have ew : wvs (Rs ++ [Rn]) = wvs Rs ++ [Value.str (kWord R.H.kd) R.wt] := by
    rw [← hkd]
    exact List.map_append
  have inF2 : ∀ p ∈ Fx, p ∈ F2 := fun p hp => List.mem_cons_of_mem _ (List.mem_cons_of_mem _ (List.mem_cons_of_mem _ (List.mem_append_right _ (List.mem_append_right _ hp))))
  have inF2x : ∀ p ∈ fx, p ∈ F2 := fun p hp => List.mem_cons_of_mem _ (List.mem_cons_of_mem _ (List.mem_cons_of_mem _ (List.mem_append_right _ (List.mem_append_left _ hp))))
  have inF2y : ∀ p ∈ fx2, p ∈ F2 := fun p hp => List.mem_cons_of_mem _ (List.mem_cons_of_mem _ (List.mem_cons_of_mem _ (List.mem_append_left _ hp)))
  have CG : ∀ p ∈ Cs Rs, p ∈ G := fun p hp => by rw [hG]; exact List.mem_append_right _ (List.mem_append_left _ hp)
  have FG : ∀ p ∈ Fx, p ∈ G := fun p hp => by rw [hG]; exact List.mem_append_right _ (List.mem_append_right _ hp)
  have OG : ∀ p ∈ O, p ∈ G := fun p hp => by rw [hG]; exact List.mem_append_left _ hp
  have G4of : ∀ p ∈ G, p ∈ G4 := fun p hp => by rw [hG4]; exact List.mem_append_right _ hp
  have G4x : ∀ p ∈ fx, p ∈ G4 := fun p hp => by rw [hG4]; exact List.mem_append_left _ (List.mem_append_left _ hp)
  have G4c : ∀ p ∈ H'.cs, p ∈ G4 := fun p hp => by rw [hG4]; exact List.mem_append_left _ (List.mem_append_right _ hp)
  have G6of : ∀ p ∈ G4, p ∈ G6 := fun p hp => by rw [hG6]; exact List.mem_cons_of_mem _ (List.mem_append_right _ hp)
  have G6y : ∀ p ∈ fx2, p ∈ G6 := fun p hp => by rw [hG6]; exact List.mem_cons_of_mem _ (List.mem_append_left _ hp)
  have G6D : (D, listOf [r0, r1, r2].toArray n6) ∈ G6 := by rw [hG6]; exact List.mem_cons_self ..
  have K7of : ∀ p ∈ G6, p ∈ K7 := fun p hp => by rw [hK7]; exact in9 hp
  have hm7 : ∀ a ∈ [bx, ib, wdd, hl, nm, du, L + 1, L + 1 + 1, L + 1 + 1 + 1], ∃ o, (a, o) ∈ K7 := by rw [hK7]; exact hotmem hot9
  have ap1 : Apart O [bx, ib, wdd, hl, nm, du, L + 1, L + 1 + 1, L + 1 + 1 + 1] (Cs Rs) (fx ++ Fx) :=
    ap.add_fix hotmem_pull (fun p hp => List.mem_append_right _ (m7 (CG p hp))) (fun p hp => List.mem_append_right _ (m7 (OG p hp))) (fun p hp => sep4 p (List.mem_append_left _ hp))
  have ap2 : Apart O [bx, ib, wdd, hl, nm, du, L + 1, L + 1 + 1, L + 1 + 1 + 1] (Cs Rs ++ H'.cs) (fx ++ Fx) := by
    refine ap1.add_cell (K := fx ++ ([(wdd, ow), (hl, listOf (avs Rs).toArray e3)] ++ ((bx, listOf [.ref ib, .int n2 tn2].toArray g1) :: (ib, listOf vs2.toArray g2) :: (nm, listOf (nvs Rs).toArray e4) :: (du, listOf (dvs Rs).toArray e5) :: (L + 1, oc1) :: (L + 1 + 1, oc2) :: (L + 1 + 1 + 1, oc3) :: G))) ?_ ?_ (fun p hp => List.mem_append_right _ (List.mem_append_right _ (m7 (OG p hp)))) ncs ?_
    · exact fun a ha => (hotmem_pull a ha).imp fun o ho => List.mem_append_right _ ho
    · intro p hp
      rcases List.mem_append.mp hp with hp | hp
      · exact List.mem_append_right _ (List.mem_append_right _ (m7 (CG p hp)))
      rcases List.mem_append.mp hp with hp | hp
      · exact List.mem_append_left _ hp
      · exact List.mem_append_right _ (List.mem_append_right _ (m7 (FG p hp)))
    · intro p hp q hq
      rcases List.mem_append.mp hq with hq | hq
      · exact fun e => sfx q hq (List.mem_map.mpr ⟨p, hp, e.symm⟩)
      · exact sep4 p (List.mem_append_right _ hp) q hq
  have mem4 : ∀ p ∈ Cs Rs ++ H'.cs, p ∈ G4 := fun p hp => (List.mem_append.mp hp).elim (fun h => G4of _ (CG _ h)) (G4c p)
  have ap3 : Apart O [bx, ib, wdd, hl, nm, du, L + 1, L + 1 + 1, L + 1 + 1 + 1] (Cs Rs ++ H'.cs) (fx2 ++ (fx ++ Fx)) :=
    ap2.add_fix (hotmem hot9) (fun p hp => in9 (mem4 p hp)) (fun p hp => in9 (G4of _ (OG p hp))) sep6
  have ap4 : Apart O [bx, ib, wdd, hl, nm, du, L + 1, L + 1 + 1, L + 1 + 1 + 1] (Cs Rs ++ H'.cs) F1 :=
    ap3.add_fix (new := [(D, listOf [r0, r1, r2].toArray n6)]) (hotmem hot9) (fun p hp => in9 (mem4 p hp)) (fun p hp => in9 (G4of _ (OG p hp))) (fun p hp => by rw [List.mem_singleton.mp hp]; exact oD)
  have ap5 : Apart O [bx, ib, wdd, hl, nm, du, L + 1, L + 1 + 1, L + 1 + 1 + 1] (Cs Rs ++ H'.cs) F2 := by
    refine ap4.add_fix (new := [(a', listOf (avs Rs ++ [Value.ref H'.x]).toArray 0), (w', listOf (wvs Rs ++ [Value.str (kWord R.H.kd) R.wt]).toArray 0)]) hm7 (fun p hp => K7of _ (G6of _ (mem4 p hp))) (fun p hp => K7of _ (G6of _ (G4of _ (OG p hp)))) fun p hp => ?_
    rcases List.mem_cons.mp hp with rfl | hp
    · exact fun q hq => lt_ne (za q hq)
    · rw [List.mem_singleton.mp hp]
      exact fun q hq => lt_ne (zw q hq)
  have F2K : ∀ p ∈ Cs Rs ++ H'.cs ++ F2, p ∈ (a', listOf (avs Rs ++ [Value.ref H'.x]).toArray 0) :: (w', listOf (wvs Rs ++ [Value.str (kWord R.H.kd) R.wt]).toArray 0) :: K7 := fun p hp => by
    rcases List.mem_append.mp hp with hp | hp
    · exact List.mem_cons_of_mem _ (List.mem_cons_of_mem _ (K7of _ (G6of _ (mem4 p hp))))
    rcases List.mem_cons.mp hp with rfl | hp
    · exact List.mem_cons_self ..
    rcases List.mem_cons.mp hp with rfl | hp
    · exact List.mem_cons_of_mem _ (List.mem_cons_self ..)
    refine List.mem_cons_of_mem _ (List.mem_cons_of_mem _ (K7of _ ?_))
    rcases List.mem_cons.mp hp with rfl | hp
    · exact G6D
    rcases List.mem_append.mp hp with hp | hp
    · exact G6y p hp
    rcases List.mem_append.mp hp with hp | hp
    · exact G6of _ (G4x p hp)
    · exact G6of _ (G4of _ (FG p hp))
  have ap6 : Apart O [bx, ib, wdd, hl, nm, d', L + 1, L + 1 + 1, L + 1 + 1 + 1] (Cs Rs ++ H'.cs) F2 := by
    refine ap5.swap (K := (a', listOf (avs Rs ++ [Value.ref H'.x]).toArray 0) :: (w', listOf (wvs Rs ++ [Value.str (kWord R.H.kd) R.wt]).toArray 0) :: K7) (fun a ha => (hm7 a ha).imp fun o ho => List.mem_cons_of_mem _ (List.mem_cons_of_mem _ ho)) F2K (fun p hp => List.mem_cons_of_mem _ (List.mem_cons_of_mem _ (K7of _ (G6of _ (G4of _ (OG p hp)))))) fun q hq => ?_
    rcases List.mem_cons.mp hq with rfl | hq
    · exact lt_ne had
    rcases List.mem_cons.mp hq with rfl | hq
    · exact (lt_ne hdw).symm
    · exact lt_ne (zd q hq)
  have hot7 : ∀ p, p ∈ [(bx, listOf [.ref ib, .int n2 tn2].toArray g1), (ib, listOf vs2.toArray g2), (wdd, ow'), (hl, listOf (avs Rs ++ [Value.ref H'.x]).toArray eh'), (nm, listOf (nvs Rs ++ [Value.ref D]).toArray (e4 + 1)), (du, listOf (dvs Rs).toArray e5), (L + 1, oc1), (L + 1 + 1, oc2), (L + 1 + 1 + 1, oc3')] → p ∈ K7 := fun p hp => by rw [hK7]; exact hot9 p hp
  simp only [List.mem_cons, List.not_mem_nil, or_false, forall_eq_or_imp, forall_eq] at hot7
  obtain ⟨k1, k2, k3, k4, k5, k6, k8, k9, k10⟩ := hot7
  have K7N : ∀ p ∈ K7, p ∈ (t7, u7) :: (w', listOf (wvs Rs ++ [Value.str (kWord R.H.kd) R.wt]).toArray 0) :: (t5, u5) :: (d', listOf (dvs Rs ++ [Value.ref R.dt]).toArray 0) :: (t3, u3) :: (a', listOf (avs Rs ++ [Value.ref H'.x]).toArray 0) :: (t1, u1) :: K7 := fun p hp => m7 hp
  refine ⟨⟨Rs ++ [Rn], a', w', d', n2, tn2, vs2, xs2, g1, g2, eh', e4 + 1, 0, 0, 0, ow', oc1, oc2, oc3', F2⟩, ?_, ⟨hI, hn, hz, by simp, ?_, c1, c2, c3, ?_, ?_, inF2 _ mx, ?_, ?_, ?_, mb, mall, mn, md, mwo⟩, by simp, rfl⟩
  · dsimp only [SD.hot]
    rw [ea, en, ed, hRs]
    intro p hp
    refine N p ?_
    simp only [List.mem_cons] at hp
    rcases hp with rfl | rfl | rfl | rfl | rfl | rfl | rfl | rfl | rfl | hp
    · exact K7N _ k1
    · exact K7N _ k2
    · exact K7N _ k3
    · exact K7N _ k4
    · exact K7N _ k5
    · exact List.mem_cons_of_mem _ (List.mem_cons_of_mem _ (List.mem_cons_of_mem _ (List.mem_cons_self ..)))
    · exact K7N _ k8
    · exact K7N _ k9
    · exact K7N _ k10
    rcases List.mem_append.mp hp with hp | hp
    · exact K7N _ (K7of _ (G6of _ (G4of _ (OG p hp))))
    · rcases List.mem_cons.mp (F2K p hp) with rfl | hp
      · exact List.mem_cons_of_mem _ (List.mem_cons_of_mem _ (List.mem_cons_of_mem _ (List.mem_cons_of_mem _ (List.mem_cons_of_mem _ (List.mem_cons_self ..)))))
      rcases List.mem_cons.mp hp with rfl | hp
      · exact List.mem_cons_of_mem _ (List.mem_cons_self ..)
      · exact K7N _ hp
  · show IsWd w ((Rs ++ [Rn]).length : Int) hl ow'
    rw [List.length_append]
    exact iw
  · show (a', listOf (avs (Rs ++ [Rn])).toArray 0) ∈ F2
    rw [ea]
    exact List.mem_cons_self ..
  · show (w', listOf (wvs (Rs ++ [Rn])).toArray 0) ∈ F2
    rw [ew]
    exact List.mem_cons_of_mem _ (List.mem_cons_self ..)
  · show Apart O _ (Cs (Rs ++ [Rn])) F2
    rw [hRs]
    exact ap6
  · intro R' hR'
    rcases List.mem_append.mp hR' with h | h
    · exact (ok R' h).mono inF2
    · rw [List.mem_singleton.mp h]
      obtain ⟨hH, w0, w1, w2, s0, s1, s2, p0, p1, p2, z0, z1, z2, er, et, e, v0, v1, v2, m1, _, _, _, m2, b0, b1, b2⟩ := ok R hRm
      exact ⟨hol' F2 inF2 inF2x, w0, w1, w2, s0, s1, s2, r0, r1, r2, z0, z1, z2, n6, et, hvs'.trans e, v0.mono inF2, v1.mono inF2, v2.mono inF2, List.mem_cons_of_mem _ (List.mem_cons_of_mem _ (List.mem_cons_self ..)), q0.mono inF2y, q1.mono inF2y, q2.mono inF2y, inF2 _ m2, b0.mono inF2, b1.mono inF2, b2.mono inF2⟩
  · intro i R' hi
    by_cases hlt : i < Rs.length
    · exact num i R' ((List.getElem?_append_left hlt) ▸ hi)
    · have h2 : (Rs ++ [Rn])[i]? = some R' := hi
      rw [List.getElem?_append_right (Nat.le_of_not_lt hlt)] at h2
      have h3 := (List.getElem?_eq_some_iff.mp h2).1
      have h4 : i = Rs.length := by simp at h3; omega
      rw [h4, Nat.sub_self] at h2
      have : Rn = R' := by simpa using h2
      rw [← this, h4]
      exact hnum
end
section
theorem top_off_V13 : True := by
  w_top off
  trivial
section
noncomputable def checkTail : List Stmt := match turnBody with | _ :: _ :: x => x | _ => []
theorem SOk.remap {w : World} {O : FX} {bx ib wx wdd hl nm L : Addr} {d : SD} {m m' : Str → Option Value} (S : SOk w O bx ib wx wdd hl nm L d m) (h : ∀ z : Str, z ≠ "spot" → z ≠ "refs" → m' z = m z) : SOk w O bx ib wx wdd hl nm L d m' := by
  obtain ⟨hI, hn0, zv, z0, iw, dc1, h2, h3, ma, mw, mx, ap, ok, num, mb, mall, mn, md, mwo⟩ := S
  exact ⟨hI, hn0, zv, z0, iw, dc1, h2, h3, ma, mw, mx, ap, ok, num, (h _ (by decide) (by decide)).trans mb, (h _ (by decide) (by decide)).trans mall, (h _ (by decide) (by decide)).trans mn, (h _ (by decide) (by decide)).trans md, (h _ (by decide) (by decide)).trans mwo⟩
set_option maxRecDepth 100000 in
set_option maxHeartbeats 8000000 in
theorem turn_check {w : World} {mean : ExcName → Option Value} {mg mb : Str → Option Value} {fa : Addr} {cd : Value} {base h₀ : Heap} {L : Addr} {m : Str → Option Value} {s : Shared} {Q : Flow → Shared → Prop} {E : Value → Shared → Prop} {sc : Scope} {bd : List Stmt} (hsc : lawScope = sc) (B : Below callerA base [] h₀) (X : (hd.heap_1 w.params).In h₀) (T : Top lawView Loose mean mg mb h₀) (hbd : checkTail = bd) (hE : PassesOwn (model PW w) (callerA.deeper (envOfC "law" sc L fa cd)) (envOfC "law" sc L fa cd) E) {bx ib wx wdd hl nm : Addr} {O : FX} {d : SD} (F : Fr h₀ L s.heap m) (N : News h₀ L s.heap (d.hot bx ib wdd hl nm L (O ++ (Cs d.Rs ++ d.Fx)))) (S : SOk w O bx ib wx wdd hl nm L d m) (hl1 : d.Rs.length < 20)
    (done : ∀ h' tk m', Fr h₀ L h' m' → News h₀ L h' (d.hot bx ib wdd hl nm L (O ++ (Cs d.Rs ++ d.Fx))) → SOk w O bx ib wx wdd hl nm L d m' → Q .next { s with heap := h', toks := tk }) :
    wpAny (model PW w) (callerA.deeper (envOfC "law" sc L fa cd)) (execs bd (envOfC "law" sc L fa cd)) Q E s := by
  conv at hbd => lhs; whnf
  subst hbd
  refine wpAny_execs_cons ?_
  refine check_loop hsc B X T rfl hE F S.mn S.md N (hot9 _ (List.mem_cons_of_mem _ (List.mem_cons_of_mem _ (List.mem_cons_of_mem _ (List.mem_cons_of_mem _ (List.mem_cons_self ..)))))) (hot9 _ (List.mem_cons_of_mem _ (List.mem_cons_of_mem _ (List.mem_cons_of_mem _ (List.mem_cons_of_mem _ (List.mem_cons_of_mem _ (List.mem_cons_self ..))))))) (fun p hp => in9 (List.mem_append_right _ (List.mem_append_right _ hp))) (fun R hR p hp => in9 (List.mem_append_right _ (List.mem_append_left _ (mem_Cs hR hp)))) S.ok hl1 ?_
  intro h' tk m' hm F' N'
  exact wpAny_execs_nil (done h' tk m' F' N' (S.remap hm))
end
end
section
theorem due_pull {h₀ h : Heap} {L : Addr} {a b : Addr × Obj} {new K : FX} (N : News h₀ L h (new ++ (a :: b :: K))) : News h₀ L h (a :: b :: (new ++ K)) := fun p hp => N p (sb_use hp (by walk_at "t_sub"))
theorem due_fin1 {h₀ h : Heap} {L : Addr} {a b c d u : Addr × Obj} {K : FX} (N : News h₀ L h (a :: b :: c :: d :: u :: K)) : News h₀ L h (u :: a :: K) := fun p hp => N p (sb_use hp (by walk_at "t_sub"))
theorem due_fin2 {h₀ h : Heap} {L : Addr} {a b c d e u : Addr × Obj} {K : FX} (N : News h₀ L h (a :: b :: c :: d :: e :: u :: K)) : News h₀ L h (u :: a :: K) := fun p hp => N p (sb_use hp (by walk_at "t_sub"))
theorem due_fin3 {h₀ h : Heap} {L : Addr} {a b c d u : Addr × Obj} {K : FX} (N : News h₀ L h (b :: a :: c :: d :: u :: K)) : News h₀ L h (u :: a :: K) := fun p hp => N p (sb_use hp (by walk_at "t_sub"))
theorem due_lt {u d : Addr} {o : Obj} {K : FX} (h1 : @LT.lt Nat instLTNat u d) (h2 : AllLt d K) : ∀ q ∈ (u, o) :: K, q.1 ≠ d := fun q hq => by
  rcases List.mem_cons.mp hq with rfl | hq
  · exact Nat.ne_of_lt h1
  · exact Nat.ne_of_lt (allLt_mem h2 q hq)
theorem due_sub {d : Addr} {a : Addr × Obj} {K K2 fx : FX} (hK : K2 = fx ++ K) (h : ∀ q ∈ a :: K2, q.1 ≠ d) : ∀ q ∈ a :: K, q.1 ≠ d := fun q hq => by
  rcases List.mem_cons.mp hq with rfl | hq
  · exact h _ (List.mem_cons_self ..)
  · exact h q (List.mem_cons_of_mem _ (by rw [hK]; exact List.mem_append_right _ hq))
section
variable {prog : Program} {w : World} {A : Around} {E : Value → Shared → Prop} {s : Shared} {h₀ : Heap} {L : Addr} {m : Str → Option Value} {news : List (Addr × Obj)}
theorem adjust_upto (b n : Nat) (hb : b ≤ n) : Builtin.Slice.sliceAdjust none (some (b : Int)) 1 (n : Int) = (0, (b : Int)) := by
  unfold Builtin.Slice.sliceAdjust
  have h1 : ¬ ((1 : Int) < 0) := by omega
  have h2 : ¬ ((b : Int) < 0) := by omega
  simp only [h1, h2, if_false]
  congr 1
  omega
theorem places_upto (b : Nat) : Builtin.Slice.slicePlaces 0 (b : Int) 1 = b := by
  unfold Builtin.Slice.slicePlaces
  have h1 : (1 : Int) > 0 := by omega
  simp only [h1, if_true, Int.ediv_one]
  split <;> omega
theorem applied_upto {sl : Addr} {b n : Nat} {u : Tok} {Q : Int × Int × Nat → Shared → Prop} (hs : s.heap.IsSliceOf sl .none (.int b u) .none) (hb : b ≤ n) (h : Q (0, 1, b) s) :
    wpAny (model prog w) A (Builtin.Slice.sliceApplied (.ref sl) (pure (n : Int))) Q E s := by
  obtain ⟨os, hos, _, hds⟩ := id hs
  unfold Builtin.Slice.sliceApplied Builtin.Slice.sliceFields
  refine wpAny_bind (wpAny_bind (wpAny_field hos hds (x := .none) rfl (wpAny_bind (wpAny_field hos hds (x := .int b u) rfl (wpAny_bind (wpAny_field hos hds (x := .none) rfl (wpAny_pure ?_)))))))
  refine wpAny_bind (slicePart_none ?_)
  show wpAny _ _ (if ((1 : Int) == 0) = true then _ else _) _ _ s
  rw [if_neg (by decide)]
  refine wpAny_bind (slicePart_none (wpAny_bind (slicePart_int (wpAny_bind (wpAny_pure ?_)))))
  show wpAny _ _ (match Builtin.Slice.sliceAdjust none (some (b : Int)) 1 (n : Int) with | (lo, hi) => pure (lo, (1 : Int), Builtin.Slice.slicePlaces lo hi 1)) _ _ s
  rw [adjust_upto b n hb]
  show wpAny _ _ (pure ((0 : Int), (1 : Int), Builtin.Slice.slicePlaces 0 (b : Int) 1)) _ _ s
  rw [places_upto b]
  exact wpAny_pure h
theorem pick_upto (xs : Array Value) (b : Nat) : ((List.range b).filterMap fun (k : Nat) => xs[((0 : Int) + (k : Int) * 1).toNat]?).toArray = (xs.toList.take b).toArray := by
  have e : (fun (k : Nat) => xs[((0 : Int) + (k : Int) * 1).toNat]?) = fun k => xs[k]? := by
    funext k
    have : ((0 : Int) + (k : Int) * 1).toNat = k := by omega
    rw [this]
  rw [e]
  have h := pick_run xs 0 b
  have e2 : (List.range b).map (0 + ·) = List.range b := by simp
  rw [e2, List.drop_zero] at h
  rw [← h]
theorem getItem_upto {t sl : Addr} {items : Array Value} {b : Nat} {u : Tok} {Q : Value → Shared → Prop} (ht : IsTup s.heap t items) (hs : s.heap.IsSliceOf sl .none (.int b u) .none) (hb : b < items.size)
    (h : Q (.ref s.heap.objs.size) { s with heap := s.heap.push { cls := .type "tuple", data := .seq (items.toList.take b).toArray } }) (hsz : items.size ≤ sizeLine) : wpAny (model prog w) A (getItem (.ref t) (.ref sl)) Q E s := by
  have htake : sizeOk (.seq (items.toList.take b).toArray) := by
    show (items.toList.take b).toArray.size ≤ sizeLine
    rw [List.size_toArray, List.length_take, Array.length_toList]
    omega
  obtain ⟨os, hos, hcs, _⟩ := id hs
  have hTs : s.TypeIs (.ref sl) "slice" := ⟨os, hos, hcs⟩
  unfold getItem
  try with_reducible refine wpAny_holding ?_
  first | refine wpAny_bind (wpAny_pure ?_) | skip
  refine wpAny_bind (wpAny_sequenceKey ht.typeIs (by decide) ?_)
  refine wpAny_bind (wpAny_callSpecial?_slot (name := Str.ofString "__getitem__") ht.typeIs slot_tuple_getitem
    (wpAny_call_entry slot_tuple_getitem ht.typeIs entry_tuple_getitem ?_ (args_tuple_getitem _ _)))
  show wpAny _ _ (Builtin.Tuple.tupleItemsOf (.ref t) >>= _) _ _ s
  refine wpAny_bind (tupleItemsOf_ ht ?_)
  refine wpAny_bind (wpAny_typeOf hTs ?_)
  rw [if_pos (by decide)]
  refine wpAny_bind (applied_upto hs (Nat.le_of_lt hb) ?_)
  have hno : ¬ (((0 : Int) == 0 && (1 : Int) == 1 && b == items.size) = true) := by
    have : (b == items.size) = false := by rw [beq_eq_false_iff_ne]; omega
    rw [this]; simp
  show wpAny _ _ (if ((0 : Int) == 0 && (1 : Int) == 1 && b == items.size) = true then _ else _) _ _ s
  rw [if_neg hno, pick_upto items b]
  first
    | exact wpAny_bind (m := Builtin.Tuple.tupleExact _) (wpAny_newObj_type (wpAny_pure ⟨_, rfl, wpAny_pure h⟩) htake)
    | exact wpAny_bind (m := Builtin.Tuple.tupleExact _) (wpAny_newObj_type (wpAny_bind (wpAny_pure (wpAny_pure ⟨_, rfl, wpAny_pure h⟩))) htake)
    | exact wpAny_bind (wpAny_bind (m := Builtin.Tuple.tupleExact _) (wpAny_newObj_type (wpAny_pure (wpAny_pure ⟨_, rfl, wpAny_pure h⟩)) htake))
    | exact wpAny_bind (wpAny_bind (m := Builtin.Tuple.tupleExact _) (wpAny_newObj_type (wpAny_pure ⟨_, rfl, wpAny_pure h⟩) htake))
theorem tup_upto {value slice : Expr} {t : Addr} {l zs : List Value} {e b : Nat} {i : Int} {u : Tok} {Q : Value → Shared → Prop} (F : Fr h₀ L s.heap m) (N : News h₀ L s.heap news) (hm : (t, tup l e) ∈ news) (hi : i = Int.ofNat b) (hb1 : Nat.blt b l.length = true) (hz1 : Nat.blt l.length 100 = true) (ez : l.take b = zs)
    (h : ∀ D h', Fr h₀ L h' m → News h₀ L h' ((D, tup zs 0) :: news) → (∀ p ∈ news, p.1 < D) → Q (.ref D) { s with heap := h' })
    (hs : subscripted slice false (.ref t) (.ref s.heap.objs.size) = operate [.ref s.heap.objs.size, .ref t] (getItem (.ref t) (.ref s.heap.objs.size)))
    (hg : ∀ r, letTemporaryGo value (.ref t) r = pure ()) :
    wpAny (model prog w) A (subscriptTail value slice (.ref t) (.ref s.heap.objs.size)) Q E { s with heap := s.heap.push { cls := .type "slice", data := .fields #[.none, .int i u, .none] } } := by
  have hb : b < l.length := Nat.le_of_ble_eq_true hb1
  have hz : l.length < 100 := Nat.le_of_ble_eq_true hz1
  change i = (b : Int) at hi
  subst hi ez
  have ht : IsTup s.heap t l.toArray := News.isTup N hm
  have ht' : IsTup (s.heap.push { cls := .type "slice", data := .fields #[.none, .int b u, .none] }) t l.toArray := ht.keeps fun _ _ e => Heap.get?_push_of_some _ e
  refine subscriptTail_ops (s := { s with heap := s.heap.push { cls := .type "slice", data := .fields #[.none, .int b u, .none] } }) ht'.typeIs slot_tuple_getitem.lookup
    (getItem_upto ht' (Heap.IsSliceOf.new ..) (by simpa using hb) ?_ (by rw [sizeLine_eq]; simp; omega)) hs hg
  have N1 := News.push (F.push { cls := .type "slice", data := .fields #[.none, .int b u, .none] }) (N.grown fun _ _ e => Heap.get?_push_of_some _ e) { cls := .type "tuple", data := .seq (l.take b).toArray }
  rw [Heap.size_push] at N1
  show Q (.ref (s.heap.push _).objs.size) _
  rw [Heap.size_push]
  exact h _ _ ((F.push _).push _) N1 fun p hp => Nat.lt_succ_of_lt (Heap.lt_size (N p hp).1)
theorem tup_from {value slice : Expr} {t : Addr} {l zs : List Value} {e a : Nat} {i : Int} {u : Tok} {Q : Value → Shared → Prop} (F : Fr h₀ L s.heap m) (N : News h₀ L s.heap news) (hm : (t, tup l e) ∈ news) (hi : i = Int.ofNat a) (hb1 : (Nat.ble 1 a && Nat.ble a l.length) = true) (hz1 : Nat.blt l.length 100 = true) (ez : l.drop a = zs)
    (h : ∀ D h', Fr h₀ L h' m → News h₀ L h' ((D, tup zs 0) :: news) → (∀ p ∈ news, p.1 < D) → Q (.ref D) { s with heap := h' })
    (hs : subscripted slice false (.ref t) (.ref s.heap.objs.size) = operate [.ref s.heap.objs.size, .ref t] (getItem (.ref t) (.ref s.heap.objs.size)))
    (hg : ∀ r, letTemporaryGo value (.ref t) r = pure ()) :
    wpAny (model prog w) A (subscriptTail value slice (.ref t) (.ref s.heap.objs.size)) Q E { s with heap := s.heap.push { cls := .type "slice", data := .fields #[.int i u, .none, .none] } } := by
  have h1 : 1 ≤ a := Nat.le_of_ble_eq_true (Bool.and_eq_true_iff.mp hb1).1
  have ha : a ≤ l.length := Nat.le_of_ble_eq_true (Bool.and_eq_true_iff.mp hb1).2
  have hz : l.length < 100 := Nat.le_of_ble_eq_true hz1
  change i = (a : Int) at hi
  subst hi ez
  refine slice_tuple_from F N (News.isTup N hm) h1 (by simpa using ha) (fun h' F' N' => h _ h' F' N' fun p hp => Nat.lt_succ_of_lt (Heap.lt_size (N p hp).1)) hs hg (by rw [sizeLine_eq]; simp; omega)
end
end
section
theorem top_off_V15 : True := by
  w_top off
  trivial
section
local macro_rules | `(tactic| walk_at "subscriptTail") => `(tactic| (k_here; (with_reducible show wpAny _ _ (subscriptTail _ (PySem.Expr.Slice _ _ _ _) (Value.ref _) (Value.ref _)) _ _ _); k_dflt ((first | refine' tup_upto ?F ?N ?m ?i ?b ?z ?e ?_ ?hs ?hg | refine' tup_from ?F ?N ?m ?i ?b ?z ?e ?_ ?hs ?hg); (case F | N => k_asm); (case m => walk_at "t_mem"); (case i | b | z | e => exact rfl); (case hs | hg => ((try intro _); with_unfolding_all rfl))); intro D' h' F' N' l1; (try simp only [List.take_zero, List.take_succ_cons, List.drop_zero, List.drop_succ_cons, List.drop_nil] at N'); (try k_lt l1); (try k_sweep)))
noncomputable def setStmts : List Stmt := match turnBody with | _ :: .If _ _ b _ :: _ => b | _ => []
noncomputable def dueStmts : List Stmt := match setStmts with | _ :: _ :: b => b | _ => []
set_option maxRecDepth 100000 in
set_option maxHeartbeats 8000000 in
theorem due_body {w : World} {mean : ExcName → Option Value} {mg mb : Str → Option Value} {fa : Addr} {cd : Value} {base h₀ : Heap} {L : Addr} {m : Str → Option Value} {s : Shared} {Q : Flow → Shared → Prop} {E : Value → Shared → Prop} {sc : Scope} {bd : List Stmt} (hsc : lawScope = sc) (B : Below callerA base [] h₀) (X : (hd.heap_1 w.params).In h₀) (T : Top lawView Loose mean mg mb h₀) (hbd : dueStmts = bd) {du dt : Addr} {x2 j : Int} {t2 tj : Tok} {v : Value} (F : Fr h₀ L s.heap (fun y => if y = "due" then some (.ref du) else if y = "at" then some (.int x2 t2) else if y = "spot" then some (.int j tj) else if y = "value" then some v else m y)) {K Fx : FX} {dv : List Value} {z0 z1 z2 : Value} {e5 et : Nat} (N : News h₀ L s.heap ((du, listOf dv.toArray e5) :: K)) (of6 : ∀ p ∈ K, p.1 ≠ du) (hFK : ∀ p ∈ Fx, p ∈ K) (mt : (dt, tup [z0, z1, z2] et) ∈ K) {sv : PyData} (hval : ValOk w Fx v sv) (hy0 : 0 ≤ x2) (hy1 : x2 < dv.length) (hy2 : dv.length < 50) (gD : dv[x2.toNat]? = some (.ref dt)) (hj0 : 0 ≤ j) (hj1 : j < 3)
    (done : ∀ h' tk dt' et' y (fx : FX) w0 w1 w2, Fr h₀ L h' (fun y => if y = "due" then some (.ref du) else if y = "at" then some (.int x2 t2) else if y = "spot" then some (.int j tj) else if y = "value" then some v else m y) → News h₀ L h' ((du, listOf (dv.set x2.toNat (.ref dt')).toArray e5) :: (dt', tup [w0, w1, w2] et') :: (fx ++ K)) → (∀ p ∈ fx, ∀ q ∈ (du, listOf dv.toArray e5) :: K, q.1 ≠ p.1) → (∀ q ∈ (du, listOf dv.toArray e5) :: K, q.1 ≠ dt') → ShOk fx y sv → [w0, w1, w2] = [z0, z1, z2].set j.toNat y → Q .next { s with heap := h', toks := tk }) :
    wpAny (model PW w) (callerA.deeper (envOfC "law" sc L fa cd)) (execs bd (envOfC "law" sc L fa cd)) Q E s := by
  have hS8 : Stop 8 := .mk
  have hS1 : Stop 1 := .mk
  have hS0 : Stop 0 := .mk
  have hsc0 := hsc
  conv at hsc => lhs; whnf
  conv at hbd => lhs; whnf
  subst hsc hbd
  rcases three hj0 hj1 with rfl | rfl | rfl
  · walk_at "k_stmt"
    refine Hold.in ?_
    rename Fr _ _ _ _ => F1
    rename News _ _ _ _ => N1
    rename _ ∧ AllLt _ _ => z1'
    refine' Tell.use (u_shown (ro := (_, tup [] 0) :: (du, listOf dv.toArray e5) :: K) hval (fun p hp => List.mem_cons_of_mem _ (List.mem_cons_of_mem _ (hFK p hp)))) ?p1 ?p2 ?p3 ?p4 ?p5 ?p6 ?p7 N1 ?_
    case p1 => ktr_room
    case p2 => exact Nat.le_of_ble_eq_true rfl
    case p3 => k_asm
    case p4 => k_asm
    case p5 => k_asm
    case p6 => k_asm
    case p7 => first | exact rfl | assumption
    intro y h2 tk2 F2 k2 P2
    obtain ⟨fx, ffx, sh⟩ := P2
    have sep := fresh_sep N1 ffx
    have N2 := after_call F1 N1 k2 (fun _ _ h => nomatch h) ffx
    clear k2 ffx N1 F1
    obtain ⟨K2, hK2⟩ : ∃ K2, K2 = fx ++ K := ⟨_, rfl⟩
    replace N2 := due_pull N2
    rw [← hK2] at N2
    have of2 : ∀ p ∈ K2, p.1 ≠ du := by
      rw [hK2]
      exact fun p hp => (List.mem_append.mp hp).elim (fun h => (sep p h _ (List.mem_cons_of_mem _ (List.mem_cons_self ..))).symm) (of6 p)
    have mt2 : (dt, tup [z0, z1, z2] et) ∈ K2 := by rw [hK2]; exact List.mem_append_right _ mt
    k_steps
    rename Fr _ _ _ _ => F9
    rename News _ _ _ _ => N9
    rename _ ∧ _ ∧ _ ∧ _ ∧ AllLt _ _ => z9
    refine done _ _ _ 0 y fx _ _ _ F9 (hK2 ▸ due_fin1 N9) (fun p hp q hq => sep p hp q (List.mem_cons_of_mem _ hq)) (due_sub hK2 (due_lt z9.2.2.2.1 z9.2.2.2.2)) sh rfl
  · walk_at "k_stmt"
    refine Hold.in ?_
    rename Fr _ _ _ _ => F1
    rename News _ _ _ _ => N1
    rename _ ∧ AllLt _ _ => z1'
    refine' Tell.use (u_shown (ro := (_, tup [z0] 0) :: (du, listOf dv.toArray e5) :: K) hval (fun p hp => List.mem_cons_of_mem _ (List.mem_cons_of_mem _ (hFK p hp)))) ?p1 ?p2 ?p3 ?p4 ?p5 ?p6 ?p7 N1 ?_
    case p1 => ktr_room
    case p2 => exact Nat.le_of_ble_eq_true rfl
    case p3 => k_asm
    case p4 => k_asm
    case p5 => k_asm
    case p6 => k_asm
    case p7 => first | exact rfl | assumption
    intro y h2 tk2 F2 k2 P2
    obtain ⟨fx, ffx, sh⟩ := P2
    have sep := fresh_sep N1 ffx
    have N2 := after_call F1 N1 k2 (fun _ _ h => nomatch h) ffx
    clear k2 ffx N1 F1
    obtain ⟨K2, hK2⟩ : ∃ K2, K2 = fx ++ K := ⟨_, rfl⟩
    replace N2 := due_pull N2
    rw [← hK2] at N2
    have of2 : ∀ p ∈ K2, p.1 ≠ du := by
      rw [hK2]
      exact fun p hp => (List.mem_append.mp hp).elim (fun h => (sep p h _ (List.mem_cons_of_mem _ (List.mem_cons_self ..))).symm) (of6 p)
    have mt2 : (dt, tup [z0, z1, z2] et) ∈ K2 := by rw [hK2]; exact List.mem_append_right _ mt
    k_steps
    rename Fr _ _ _ _ => F9
    rename News _ _ _ _ => N9
    rename _ ∧ _ ∧ _ ∧ _ ∧ _ ∧ AllLt _ _ => z9
    refine done _ _ _ 0 y fx _ _ _ F9 (hK2 ▸ due_fin2 N9) (fun p hp q hq => sep p hp q (List.mem_cons_of_mem _ hq)) (due_sub hK2 (due_lt z9.2.2.2.2.1 z9.2.2.2.2.2)) sh rfl
  · walk_at "k_stmt"
    refine Hold.in ?_
    rename Fr _ _ _ _ => F1
    rename News _ _ _ _ => N1
    rename _ ∧ AllLt _ _ => z1'
    refine' Tell.use (u_shown (ro := (_, tup [z0, z1] 0) :: (du, listOf dv.toArray e5) :: K) hval (fun p hp => List.mem_cons_of_mem _ (List.mem_cons_of_mem _ (hFK p hp)))) ?p1 ?p2 ?p3 ?p4 ?p5 ?p6 ?p7 N1 ?_
    case p1 => ktr_room
    case p2 => exact Nat.le_of_ble_eq_true rfl
    case p3 => k_asm
    case p4 => k_asm
    case p5 => k_asm
    case p6 => k_asm
    case p7 => first | exact rfl | assumption
    intro y h2 tk2 F2 k2 P2
    obtain ⟨fx, ffx, sh⟩ := P2
    have sep := fresh_sep N1 ffx
    have N2 := after_call F1 N1 k2 (fun _ _ h => nomatch h) ffx
    clear k2 ffx N1 F1
    obtain ⟨K2, hK2⟩ : ∃ K2, K2 = fx ++ K := ⟨_, rfl⟩
    replace N2 := due_pull N2
    rw [← hK2] at N2
    have of2 : ∀ p ∈ K2, p.1 ≠ du := by
      rw [hK2]
      exact fun p hp => (List.mem_append.mp hp).elim (fun h => (sep p h _ (List.mem_cons_of_mem _ (List.mem_cons_self ..))).symm) (of6 p)
    have mt2 : (dt, tup [z0, z1, z2] et) ∈ K2 := by rw [hK2]; exact List.mem_append_right _ mt
    k_steps
    rename Fr _ _ _ _ => F9
    rename News _ _ _ _ => N9
    rename _ ∧ _ ∧ _ ∧ AllLt _ _ => z9
    refine done _ _ _ 0 y fx _ _ _ F9 (hK2 ▸ due_fin3 N9) (fun p hp q hq => sep p hp q (List.mem_cons_of_mem _ hq)) (due_sub hK2 (due_lt z9.2.2.1 z9.2.2.2)) sh rfl
end
end
section
theorem m8 {a b c d e f g i : Addr × Obj} {G : FX} {p : Addr × Obj} (hp : p ∈ G) : p ∈ a :: b :: c :: d :: e :: f :: g :: i :: G := List.mem_cons_of_mem _ (m7 hp)
theorem fresh_two {h h' : Heap} {a b : Addr} {o x : Obj} (f : Fresh h h' a o) (g : Fresh h h' b x) : ∀ p ∈ [(a, o), (b, x)], Fresh h h' p.1 p.2 := fun p hp => by
  rcases List.mem_cons.mp hp with rfl | hp
  · exact f
  · rw [List.mem_singleton.mp hp]; exact g
theorem push_one {h₀ h : Heap} {L : Addr} {a b c d e f g i j : Addr × Obj} {G new : FX} (N : News h₀ L h (new ++ (a :: b :: c :: d :: e :: f :: g :: i :: j :: G))) : News h₀ L h (a :: b :: c :: d :: e :: f :: g :: i :: j :: (new ++ G)) := fun p hp => N p (sb_use hp (by walk_at "t_sub"))
theorem split_at {α : Type} {l : List α} {k : Nat} {x : α} (h : l[k]? = some x) : ∃ A B, l = A ++ x :: B ∧ A.length = k := by
  have hk := (List.getElem?_eq_some_iff.mp h).1
  refine ⟨l.take k, l.drop (k + 1), ?_, by simp; omega⟩
  have e : l.drop k = x :: l.drop (k + 1) := by
    rw [List.drop_eq_getElem_cons hk]
    congr 1
    exact (List.getElem?_eq_some_iff.mp h).2
  rw [← e, List.take_append_drop]
theorem set_at {α : Type} {A B : List α} {x y : α} {k : Nat} (h : A.length = k) : (A ++ x :: B).set k y = A ++ y :: B := by
  subst h
  simp
theorem swap_cell {h₀ h h' : Heap} {L q : Addr} {old new : Obj} {K : FX} (N : News h₀ L h K) (m : (q, old) ∈ K) (k : GSub h h' [q]) (g : h'.get? q = some new) : News h₀ L h' (K.map fun p => if p.1 = q then (q, new) else p) := fun p hp => by
  obtain ⟨x, hx, rfl⟩ := List.mem_map.mp hp
  by_cases e : x.1 = q
  · rw [if_pos e]
    exact ⟨g, (N _ m).2⟩
  · rw [if_neg e]
    exact ⟨k _ _ (N x hx).1 (fun hm => e (List.mem_singleton.mp hm)), (N x hx).2⟩
theorem Cs_mid (A B : List RW) (R : RW) : Cs (A ++ R :: B) = Cs A ++ (R.H.cs ++ Cs B) := by simp [Cs]
theorem fst_in {T : FX} {hs : List Addr} (h : T.map (·.1) = hs) : ∀ p ∈ T, p.1 ∈ hs := fun p hp => h ▸ List.mem_map_of_mem (f := fun q : Addr × Obj => q.1) hp
theorem set_news {h₀ h h' : Heap} {L q : Addr} {old new : Obj} {O T Fy ca cb : FX} {hs : List Addr} {Rs : List RW} {R R1 : RW} {k : Nat} (ap : Apart O hs (Cs Rs) Fy) (hT : ∀ p ∈ T, p.1 ∈ hs) (hR : Rs[k]? = some R) (hcs : R.H.cs = ca ++ (q, old) :: cb) (h1 : R1.H.cs = ca ++ (q, new) :: cb)
    (N : News h₀ L h (T ++ (O ++ (Cs Rs ++ Fy)))) (kk : GSub h h' [q]) (g : h'.get? q = some new) :
    News h₀ L h' (T ++ (O ++ (Cs (Rs.set k R1) ++ Fy))) ∧ Apart O hs (Cs (Rs.set k R1)) Fy ∧ (q, old) ∈ Cs Rs ∧ q ∉ hs ∧ (∀ p ∈ Fy, p.1 ≠ q) := by
  obtain ⟨A, B, rfl, hl⟩ := split_at hR
  rw [set_at hl]
  have hq : (q, old) ∈ Cs (A ++ R :: B) := by
    rw [Cs_mid, hcs]
    exact List.mem_append_right _ (List.mem_append_left _ (List.mem_append_right _ (List.mem_cons_self ..)))
  obtain ⟨a1, a2, a3, a4, a5⟩ := ap
  have qs : q ∉ hs := a4 _ (List.mem_append_left _ hq)
  have qm : q ∈ (Cs (A ++ R :: B)).map (·.1) := List.mem_map.mpr ⟨_, hq, rfl⟩
  have qF : ∀ p ∈ Fy, p.1 ≠ q := fun p hp e => a3 p hp (e ▸ qm)
  have eC : (Cs (A ++ R1 :: B)).map (·.1) = (Cs (A ++ R :: B)).map (·.1) := by
    rw [Cs_mid, Cs_mid, hcs, h1]
    simp only [List.map_append, List.map_cons]
  have memC : ∀ p ∈ Cs (A ++ R1 :: B), p = (q, new) ∨ (p ∈ Cs (A ++ R :: B) ∧ p.1 ≠ q) := by
    rw [Cs_mid, hcs] at a2
    rw [Cs_mid, Cs_mid, hcs, h1]
    simp only [List.map_append, List.map_cons] at a2
    have a2' := List.nodup_append.mp a2
    have a2b := List.nodup_append.mp a2'.2.1
    have a2c := List.nodup_append.mp a2b.1
    intro p hp
    rcases List.mem_append.mp hp with h | hp
    · refine .inr ⟨List.mem_append_left _ h, fun e => ?_⟩
      exact a2'.2.2 p.1 (List.mem_map.mpr ⟨p, h, rfl⟩) q (List.mem_append_left _ (List.mem_append_right _ (List.mem_cons_self ..))) e
    rcases List.mem_append.mp hp with hp | h
    · rcases List.mem_append.mp hp with h | hp
      · refine .inr ⟨List.mem_append_right _ (List.mem_append_left _ (List.mem_append_left _ h)), fun e => ?_⟩
        exact a2c.2.2 p.1 (List.mem_map.mpr ⟨p, h, rfl⟩) q (List.mem_cons_self ..) e
      rcases List.mem_cons.mp hp with h | h
      · exact .inl h
      · refine .inr ⟨List.mem_append_right _ (List.mem_append_left _ (List.mem_append_right _ (List.mem_cons_of_mem _ h))), fun e => ?_⟩
        exact (List.nodup_cons.mp a2c.2.1).1 (e ▸ List.mem_map.mpr ⟨p, h, rfl⟩)
    · refine .inr ⟨List.mem_append_right _ (List.mem_append_right _ h), fun e => ?_⟩
      exact a2b.2.2 q (List.mem_append_right _ (List.mem_cons_self ..)) p.1 (List.mem_map.mpr ⟨p, h, rfl⟩) e.symm
  have hm : (q, old) ∈ T ++ (O ++ (Cs (A ++ R :: B) ++ Fy)) := List.mem_append_right _ (List.mem_append_right _ (List.mem_append_left _ hq))
  have M := swap_cell N hm kk g
  have keep : ∀ p ∈ T ++ (O ++ (Cs (A ++ R :: B) ++ Fy)), p.1 ≠ q → h'.get? p.1 = some p.2 ∧ p.1 ≠ L ∧ h₀.get? p.1 = none := fun p hp n => M p (List.mem_map.mpr ⟨p, hp, by rw [if_neg n]⟩)
  have at_q : h'.get? q = some new ∧ q ≠ L ∧ h₀.get? q = none := M (q, new) (List.mem_map.mpr ⟨_, hm, by rw [if_pos rfl]⟩)
  refine ⟨fun p hp => ?_, ⟨a1, eC ▸ a2, eC ▸ a3, fun p hp => ?_, fun o ho => ⟨(a5 o ho).1, fun p hp => ?_⟩⟩, hq, qs, qF⟩
  · rcases List.mem_append.mp hp with h | hp
    · exact keep p (List.mem_append_left _ h) (fun e => qs (e ▸ hT p h))
    rcases List.mem_append.mp hp with h | hp
    · exact keep p (List.mem_append_right _ (List.mem_append_left _ h)) ((a5 p h).2 _ (List.mem_append_left _ hq))
    rcases List.mem_append.mp hp with h | h
    · rcases memC p h with rfl | ⟨h, n⟩
      · exact at_q
      · exact keep p (List.mem_append_right _ (List.mem_append_right _ (List.mem_append_left _ h))) n
    · exact keep p (List.mem_append_right _ (List.mem_append_right _ (List.mem_append_right _ h))) (qF p h)
  · rcases List.mem_append.mp hp with h | h
    · rcases memC p h with rfl | ⟨h, n⟩
      · exact qs
      · exact a4 p (List.mem_append_left _ h)
    · exact a4 p (List.mem_append_right _ h)
  · rcases List.mem_append.mp hp with h | h
    · rcases memC p h with rfl | ⟨h, n⟩
      · exact fun e => (a5 o ho).2 (q, old) (List.mem_append_left _ hq) e
      · exact (a5 o ho).2 p (List.mem_append_left _ h)
    · exact (a5 o ho).2 p (List.mem_append_right _ h)
end
section
theorem getElem?_set_cases {α : Type} {l : List α} {k i : Nat} {x y : α} (h : (l.set k x)[i]? = some y) : (i = k ∧ y = x) ∨ l[i]? = some y := by
  by_cases e : k = i
  · subst e
    have hk : k < l.length := by
      have := (List.getElem?_eq_some_iff.mp h).1
      simpa using this
    rw [List.getElem?_set_self hk] at h
    exact .inl ⟨rfl, (Option.some.inj h).symm⟩
  · rw [List.getElem?_set_ne e] at h
    exact .inr h
theorem map_set_same {α β : Type} (f : α → β) {l : List α} {k : Nat} {x y : α} (h : l[k]? = some x) (e : f y = f x) : (l.set k y).map f = l.map f := by
  obtain ⟨A, B, rfl, hl⟩ := split_at h
  rw [set_at hl]
  simp [e]
theorem map_set_at {α β : Type} (f : α → β) {l : List α} {k : Nat} {y : α} : (l.set k y).map f = (l.map f).set k (f y) := by
  simp [List.map_set]
theorem hotmem_du {bx ib wdd hl nm du c1 c2 c3 : Addr} {G : FX} {o1 o2 o3 o4 o5 o6 o7 o8 o9 : Obj} : ∀ a ∈ [bx, ib, wdd, hl, nm, du, c1, c2, c3], ∃ o, (a, o) ∈ (du, o6) :: (bx, o1) :: (ib, o2) :: (wdd, o3) :: (hl, o4) :: (nm, o5) :: (c1, o7) :: (c2, o8) :: (c3, o9) :: G :=
  hotmem (o1 := o1) (o2 := o2) (o3 := o3) (o4 := o4) (o5 := o5) (o6 := o6) (o7 := o7) (o8 := o8) (o9 := o9) (by walk_at "t_sub")
theorem set_final {w : World} {O : FX} {bx ib wx wdd hl nm du L al wo : Addr} {Rs : List RW} {Fx Fy fx : FX} {R R1 : RW} {k : Nat} {j : Int} {dt' : Addr} {ow oc1 oc2 oc3 : Obj} {n2 : Int} {tn2 : Tok} {vs2 : List Value} {xs2 : List Int} {g1 g2 e3 e4 e5 e6 e7 et' er : Nat} {v y : Value} {sv s0 s1 s2 : PyData} {p0 p1 p2 r0 r1 r2 z0 z1 z2 w0 w1 w2 : Value} {h₀ h' : Heap} {m' : Str → Option Value}
    (hR : Rs[k]? = some R) (ex1 : R1.H.x = R.H.x) (ek1 : R1.H.kd = R.H.kd) (en1 : R1.H.num = R.H.num) (ev1 : R1.H.vs = R.H.vs.set j.toNat v) (el1 : R1.nl = R.nl) (ew1 : R1.wt = R.wt) (hH1 : HolOk w Fy R1.H)
    (ap1 : Apart O [bx, ib, wdd, hl, nm, du, L + 1, L + 1 + 1, L + 1 + 1 + 1] (Cs (Rs.set k R1)) Fy) (sF : ∀ p ∈ Fx, p ∈ Fy)
    (N : News h₀ L h' ((du, listOf ((dvs Rs).set k (.ref dt')).toArray e5) :: (dt', tup [w0, w1, w2] et') :: (fx ++ ((bx, listOf [.ref ib, .int n2 tn2].toArray g1) :: (ib, listOf vs2.toArray g2) :: (wdd, ow) :: (hl, listOf (avs Rs).toArray e3) :: (nm, listOf (nvs Rs).toArray e4) :: (L + 1, oc1) :: (L + 1 + 1, oc2) :: (L + 1 + 1 + 1, oc3) :: (O ++ (Cs (Rs.set k R1) ++ Fy))))))
    (sep : ∀ p ∈ fx, ∀ q ∈ (du, listOf (dvs Rs).toArray e5) :: (bx, listOf [.ref ib, .int n2 tn2].toArray g1) :: (ib, listOf vs2.toArray g2) :: (wdd, ow) :: (hl, listOf (avs Rs).toArray e3) :: (nm, listOf (nvs Rs).toArray e4) :: (L + 1, oc1) :: (L + 1 + 1, oc2) :: (L + 1 + 1 + 1, oc3) :: (O ++ (Cs (Rs.set k R1) ++ Fy)), q.1 ≠ p.1)
    (oD : ∀ q ∈ (du, listOf (dvs Rs).toArray e5) :: (bx, listOf [.ref ib, .int n2 tn2].toArray g1) :: (ib, listOf vs2.toArray g2) :: (wdd, ow) :: (hl, listOf (avs Rs).toArray e3) :: (nm, listOf (nvs Rs).toArray e4) :: (L + 1, oc1) :: (L + 1 + 1, oc2) :: (L + 1 + 1 + 1, oc3) :: (O ++ (Cs (Rs.set k R1) ++ Fy)), q.1 ≠ dt')
    (ok : ∀ R ∈ Rs, RowOk w Fx R) (num : ∀ (i : Nat) (R : RW), Rs[i]? = some R → R.H.num = (i : Int) + 1) (hj0 : 0 ≤ j) (hj1 : j < 3) (evs : R.H.vs = [p0, p1, p2]) (V0 : ValOk w Fx p0 s0) (V1 : ValOk w Fx p1 s1) (V2 : ValOk w Fx p2 s2) (mr : (R.nl, listOf [r0, r1, r2].toArray er) ∈ Fx) (q0 : RefOk w Fx R.H.kd R.H.x 0 r0) (q1 : RefOk w Fx R.H.kd R.H.x 1 r1) (q2 : RefOk w Fx R.H.kd R.H.x 2 r2) (b0 : ShOk Fx z0 s0) (b1 : ShOk Fx z1 s1) (b2 : ShOk Fx z2 s2)
    (hval : ValOk w Fx v sv) (sh : ShOk fx y sv) (eq : [w0, w1, w2] = [z0, z1, z2].set j.toNat y)
    (hI : IntsAre vs2 xs2) (hn : 0 ≤ n2) (hz : vs2.length < 64) (iw : IsWd w (Rs.length : Int) hl ow) (c1 : oc1.data = .cell (some (.ref wx))) (c2 : ∃ v, oc2.data = .cell v) (c3 : ∃ v, oc3.data = .cell v) (ma : (al, listOf (avs Rs).toArray e6) ∈ Fx) (mw : (wo, listOf (wvs Rs).toArray e7) ∈ Fx) (mx : (wx, instObj 348 wdd) ∈ Fx)
    (_F : Fr h₀ L h' m') (mb : m' "box" = some (.ref bx)) (mall : m' "all_of" = some (.ref al)) (mn : m' "names" = some (.ref nm)) (md : m' "due" = some (.ref du)) (mwo : m' "words" = some (.ref wo)) :
    ∃ d9 : SD, News h₀ L h' (d9.hot bx ib wdd hl nm L (O ++ (Cs d9.Rs ++ d9.Fx))) ∧ SOk w O bx ib wx wdd hl nm L d9 m' ∧ d9.Rs.length = Rs.length ∧ d9.n = n2 := by
  let R2 : RW := { R1 with dt := dt' }
  let F2 : FX := (dt', tup [w0, w1, w2] et') :: (fx ++ Fy)
  have ea : avs (Rs.set k R2) = avs Rs := map_set_same _ hR (by show Value.ref R1.H.x = _; rw [ex1])
  have en : nvs (Rs.set k R2) = nvs Rs := map_set_same _ hR (by show Value.ref R1.nl = _; rw [el1])
  have ew : wvs (Rs.set k R2) = wvs Rs := map_set_same _ hR (by show Value.str (kWord R1.H.kd) R1.wt = _; rw [ek1, ew1])
  have ed : dvs (Rs.set k R2) = (dvs Rs).set k (.ref dt') := map_set_at _
  have eC : Cs (Rs.set k R2) = Cs (Rs.set k R1) := by
    obtain ⟨A, B, rfl, hl⟩ := split_at hR
    rw [set_at hl, set_at hl, Cs_mid, Cs_mid]
  have inF : ∀ p ∈ Fx, p ∈ F2 := fun p hp => List.mem_cons_of_mem _ (List.mem_append_right _ (sF p hp))
  have inY : ∀ p ∈ Fy, p ∈ F2 := fun p hp => List.mem_cons_of_mem _ (List.mem_append_right _ hp)
  have inx : ∀ p ∈ fx, p ∈ F2 := fun p hp => List.mem_cons_of_mem _ (List.mem_append_left _ hp)
  have hm : ∀ a ∈ [bx, ib, wdd, hl, nm, du, L + 1, L + 1 + 1, L + 1 + 1 + 1], ∃ o, (a, o) ∈ (du, listOf (dvs Rs).toArray e5) :: (bx, listOf [.ref ib, .int n2 tn2].toArray g1) :: (ib, listOf vs2.toArray g2) :: (wdd, ow) :: (hl, listOf (avs Rs).toArray e3) :: (nm, listOf (nvs Rs).toArray e4) :: (L + 1, oc1) :: (L + 1 + 1, oc2) :: (L + 1 + 1 + 1, oc3) :: (O ++ (Cs (Rs.set k R1) ++ Fy)) :=
    hotmem_du
  have ap2 := (ap1.add_fix hm (fun p hp => in9 (List.mem_append_right _ (List.mem_append_left _ hp))) (fun p hp => in9 (List.mem_append_left _ hp)) sep).add_fix (new := [(dt', tup [w0, w1, w2] et')]) hm (fun p hp => in9 (List.mem_append_right _ (List.mem_append_left _ hp))) (fun p hp => in9 (List.mem_append_left _ hp)) (fun p hp => by rw [List.mem_singleton.mp hp]; exact oD)
  refine ⟨⟨Rs.set k R2, al, wo, du, n2, tn2, vs2, xs2, g1, g2, e3, e4, e5, e6, e7, ow, oc1, oc2, oc3, F2⟩, ?_, ⟨hI, hn, hz, ?_, ?_, c1, c2, c3, ?_, ?_, inF _ mx, ?_, ?_, ?_, mb, mall, mn, md, mwo⟩, by simp, rfl⟩
  · dsimp only [SD.hot]
    rw [ea, en, ed, eC]
    intro p hp
    refine N p ?_
    have hp' : p ∈ (bx, listOf [.ref ib, .int n2 tn2].toArray g1) :: (ib, listOf vs2.toArray g2) :: (wdd, ow) :: (hl, listOf (avs Rs).toArray e3) :: (nm, listOf (nvs Rs).toArray e4) :: (du, listOf ((dvs Rs).set k (.ref dt')).toArray e5) :: (L + 1, oc1) :: (L + 1 + 1, oc2) :: (L + 1 + 1 + 1, oc3) :: (O ++ (Cs (Rs.set k R1) ++ ((dt', tup [w0, w1, w2] et') :: (fx ++ Fy)))) := hp
    exact sb_use hp' (by walk_at "t_sub")
  · show 0 < (Rs.set k R2).length
    have := (List.getElem?_eq_some_iff.mp hR).1
    simp; omega
  · show IsWd w ((Rs.set k R2).length : Int) hl ow
    rw [List.length_set]
    exact iw
  · show (al, listOf (avs (Rs.set k R2)).toArray e6) ∈ F2
    rw [ea]
    exact inF _ ma
  · show (wo, listOf (wvs (Rs.set k R2)).toArray e7) ∈ F2
    rw [ew]
    exact inF _ mw
  · show Apart O _ (Cs (Rs.set k R2)) F2
    rw [eC]
    exact ap2
  · intro R' hR'
    obtain ⟨i, hi⟩ := List.getElem?_of_mem hR'
    rcases getElem?_set_cases hi with ⟨_, rfl⟩ | hi
    · have hv := hval.mono inF
      have hs := sh.mono inx
      have hHf := hH1.mono inY
      have m1 : (R2.nl, listOf [r0, r1, r2].toArray er) ∈ F2 := by show (R1.nl, _) ∈ F2; rw [el1]; exact inF _ mr
      have m2 : (R2.dt, tup [w0, w1, w2] et') ∈ F2 := List.mem_cons_self ..
      have Q0 : RefOk w F2 R2.H.kd R2.H.x 0 r0 := by show RefOk w F2 R1.H.kd R1.H.x 0 r0; rw [ek1, ex1]; exact q0.mono inF
      have Q1 : RefOk w F2 R2.H.kd R2.H.x 1 r1 := by show RefOk w F2 R1.H.kd R1.H.x 1 r1; rw [ek1, ex1]; exact q1.mono inF
      have Q2 : RefOk w F2 R2.H.kd R2.H.x 2 r2 := by show RefOk w F2 R1.H.kd R1.H.x 2 r2; rw [ek1, ex1]; exact q2.mono inF
      have ev2 : R2.H.vs = [p0, p1, p2].set j.toNat v := by show R1.H.vs = _; rw [ev1, evs]
      rcases three hj0 hj1 with rfl | rfl | rfl
      · obtain ⟨rfl, rfl, rfl⟩ : w0 = y ∧ w1 = z1 ∧ w2 = z2 := by simpa using eq
        exact ⟨hHf, _, _, _, _, _, _, r0, r1, r2, _, _, _, er, et', ev2, hv, V1.mono inF, V2.mono inF, m1, Q0, Q1, Q2, m2, hs, b1.mono inF, b2.mono inF⟩
      · obtain ⟨rfl, rfl, rfl⟩ : w0 = z0 ∧ w1 = y ∧ w2 = z2 := by simpa using eq
        exact ⟨hHf, _, _, _, _, _, _, r0, r1, r2, _, _, _, er, et', ev2, V0.mono inF, hv, V2.mono inF, m1, Q0, Q1, Q2, m2, b0.mono inF, hs, b2.mono inF⟩
      · obtain ⟨rfl, rfl, rfl⟩ : w0 = z0 ∧ w1 = z1 ∧ w2 = y := by simpa using eq
        exact ⟨hHf, _, _, _, _, _, _, r0, r1, r2, _, _, _, er, et', ev2, V0.mono inF, V1.mono inF, hv, m1, Q0, Q1, Q2, m2, b0.mono inF, b1.mono inF, hs⟩
    · exact (ok R' (List.mem_of_getElem? hi)).mono inF
  · intro i R' hi
    rcases getElem?_set_cases hi with ⟨rfl, rfl⟩ | hi
    · show R1.H.num = _
      rw [en1]
      exact num _ _ hR
    · exact num i R' hi
end
section
local macro_rules | `(tactic| walk_at "zz1") => `(tactic| skip)
theorem top_off_V14 : True := by
  w_top off
  trivial
section
local macro_rules | `(tactic| walk_at "binaryOp Add ref ref") => `(tactic| (k_here; k_dflt (refine' cat1 ?F ?N ?a ?b ?z ?_; (case F => k_asm); (case N => k_asm); (case a => walk_at "t_mem"); (case b => walk_at "t_mem"); (case z => (simp only [List.length_map]; omega))); intro D' h' F' N' l1; (try k_lt l1); (try k_sweep)))
set_option maxRecDepth 100000 in
set_option maxHeartbeats 8000000 in
theorem set_body {w : World} {mean : ExcName → Option Value} {mg mb : Str → Option Value} {fa : Addr} {cd : Value} {base h₀ : Heap} {L : Addr} {m : Str → Option Value} {s : Shared} {Q : Flow → Shared → Prop} {E : Value → Shared → Prop} {sc : Scope} {bd : List Stmt} (hsc : lawScope = sc) (B : Below callerA base [] h₀) (X : (hd.heap_1 w.params).In h₀) (T : Top lawView Loose mean mg mb h₀) (hbd : setStmts = bd) {bx ib wx wdd hl nm : Addr} {O : FX} {d : SD} {x1 x2 : Int} {t1 t2 : Tok} (F : Fr h₀ L s.heap m) (N : News h₀ L s.heap (d.hot bx ib wdd hl nm L (O ++ (Cs d.Rs ++ d.Fx)))) (S : SOk w O bx ib wx wdd hl nm L d m) (hl1 : d.Rs.length < 20) (hn1 : d.n < 76) (mf : m "form" = some (.int x1 t1)) (mat : m "at" = some (.int x2 t2)) (hx : x1 ≠ 0) (hy0 : 0 ≤ x2) (hy1 : x2 < d.Rs.length)
    (done : ∀ h' tk m' d', Fr h₀ L h' m' → News h₀ L h' (d'.hot bx ib wdd hl nm L (O ++ (Cs d'.Rs ++ d'.Fx))) → SOk w O bx ib wx wdd hl nm L d' m' → d'.Rs.length = d.Rs.length → d'.n ≤ d.n + 4 → Q .next { s with heap := h', toks := tk }) :
    wpAny (model PW w) (callerA.deeper (envOfC "law" sc L fa cd)) (execs bd (envOfC "law" sc L fa cd)) Q E s := by
  have hS8 : Stop 8 := .mk
  have hS1 : Stop 1 := .mk
  have hS0 : Stop 0 := .mk
  have hsc0 := hsc
  conv at hsc => lhs; whnf
  conv at hbd => lhs; whnf
  subst hsc hbd
  obtain ⟨Rs, al, wo, du, n, tn, vs, xs, e1, e2, e3, e4, e5, e6, e7, ow, oc1, oc2, oc3, Fx⟩ := d
  obtain ⟨hI, hn0, zv, z0, iw, dc1, ⟨vc2, dc2⟩, ⟨vc3, dc3⟩, ma, mw, mx, ap, ok, num, mb, mall, mn, md, mwo⟩ := S
  dsimp only [SD.hot] at *
  obtain ⟨G, hG⟩ : ∃ G, G = O ++ (Cs Rs ++ Fx) := ⟨_, rfl⟩
  rw [← hG] at N
  have off : OffHot bx ib wdd hl nm du (L + 1) (L + 1 + 1) (L + 1 + 1 + 1) G := by rw [hG]; exact fun p hp => (List.mem_append.mp hp).elim (fun h => (ap.2.2.2.2 p h).1) (fun h => ap.2.2.2.1 p h)
  have hFG : ∀ p ∈ Fx, p ∈ G := fun p hp => by rw [hG]; exact List.mem_append_right _ (List.mem_append_right _ hp)
  have hOG : ∀ p ∈ O, p ∈ G := fun p hp => by rw [hG]; exact List.mem_append_left _ hp
  have hCG : ∀ p ∈ Cs Rs, p ∈ G := fun p hp => by rw [hG]; exact List.mem_append_right _ (List.mem_append_left _ hp)
  have ma' := hFG _ ma
  have mw' := hFG _ mw
  have mx' := hFG _ mx
  obtain ⟨ne1, ne2, ne3, ne4, ne5, ne6, ne7, ne8, ne9, ne10, ne11, ne12, ne13, ne14, ne15, ne16, ne17, ne18, ne19, ne20, ne21, ne22, ne23, ne24, ne25, ne26, ne27, ne28, ne29, ne30, ne31, ne32, ne33, ne34, ne35, ne36⟩ := hot_ne ap.1
  have of1 := off_bx off
  have of2 := off_ib off
  have of3 := off_wdd off
  have of4 := off_hl off
  have of5 := off_nm off
  have of6 := off_du off
  have of7 := off_c1 off
  have of8 := off_c2 off
  have of9 := off_c3 off
  rw [upd_self mf, upd_self mat, upd_self mb, upd_self mall, upd_self mn, upd_self md, upd_self mwo] at F
  dsimp only at F
  obtain ⟨R, hR⟩ : ∃ R, Rs[x2.toNat]? = some R := ⟨_, List.getElem?_eq_getElem (by omega)⟩
  have hRm := List.mem_of_getElem? hR
  have gA : (avs Rs)[x2.toNat]? = some (.ref R.H.x) := by simp [hR]
  have gN : (nvs Rs)[x2.toNat]? = some (.ref R.nl) := by simp [hR]
  have gD : (dvs Rs)[x2.toNat]? = some (.ref R.dt) := by simp [hR]
  have hRC : ∀ p ∈ R.H.cs, p ∈ G := fun p hp => hCG p (mem_Cs hRm hp)
  walk_at "k_stmt"
  refine Hold.in ?_
  refine' Tell.use (t_take (bx := bx) (ib := ib) (wd := 3) ne1 hn0 (by omega) (by decide) (by decide) hI zv) ?p1 ?p2 ?p3 ?p4 ?p5 ?p6 ?p7 N ?_
  case p1 => ktr_room
  case p2 => exact Nat.le_of_ble_eq_true rfl
  case p3 => k_asm
  case p4 => k_asm
  case p5 => k_asm
  case p6 => k_asm
  case p7 => first | exact rfl | assumption
  intro r1 h1 tk1 F1 k1 P1
  obtain ⟨j, tj, vs1, f1, f2, tn1, xs1, hr1, hj0, hj1, hI1, hz1, N1⟩ := take_post N (by walk_at "t_off") k1 P1
  subst hr1
  clear P1 k1 N F hI
  k_steps
  refine Hold.in ?_
  refine' TellU.use (t_given (bx := bx) (ib := ib) (al := al) (hs := avs Rs) ne1 (n := n + 1) (by omega) (by omega) hI1 (by omega) (by simp only [List.length_map]; omega) (by simp only [List.length_map]; omega) (by walk_at "t_off") (m7 ma')) ?p1 ?p2 ?p3 ?p4 ?p5 ?p6 ?p7 N1 ?_
  case p1 => ktr_room
  case p2 => exact Nat.le_of_ble_eq_true rfl
  case p3 => k_asm
  case p4 => k_asm
  case p5 => k_asm
  case p6 => k_asm
  case p7 => first | exact rfl | assumption
  intro v h2 tk2 F2 k2 P2
  obtain ⟨vs2, n2, o1, o2, t', t, hv, hn2, hn3, ⟨i1, rfl⟩, gg1, ⟨i2, rfl⟩, gg2, ⟨xs2, hI2⟩, hz2⟩ := P2
  have N2 := two_next (new := []) F1 N1 k2 (by walk_at "t_off") gg1 gg2 (fun _ h => nomatch h)
  rw [List.nil_append] at N2
  clear gg1 gg2 k2 N1 F1 hI1
  k_steps
  rename News _ _ _ _ => N3
  replace N3 := news_tl N3
  rename Fr _ _ _ _ => F3
  obtain ⟨hH, p0, p1, p2, s0, s1, s2, r0, r1, r2, z0, z1, z2, er, et, evs, V0, V1, V2, mr, q0, q1, q2, mt, b0, b1, b2⟩ := ok R hRm
  have mr' := hFG _ mr
  obtain ⟨rj, gR, qj⟩ : ∃ rj, [r0, r1, r2][j.toNat]? = some rj ∧ RefOk w Fx R.H.kd R.H.x j rj := by
    rcases three hj0 hj1 with rfl | rfl | rfl
    · exact ⟨r0, rfl, q0⟩
    · exact ⟨r1, rfl, q1⟩
    · exact ⟨r2, rfl, q2⟩
  obtain ⟨sv, hval⟩ : ∃ sv, ValOk w Fx v sv := by
    rcases hv with hv | rfl | ⟨k, _, _, rfl⟩
    · obtain ⟨R', hR', rfl⟩ := List.mem_map.mp hv
      exact ⟨numD R'.H.num, .inr (.inr ⟨_, _, rfl, (ok R' hR').1.head, rfl⟩)⟩
    · exact ⟨_, .inl ⟨_, rfl, rfl⟩⟩
    · exact ⟨_, .inr (.inl ⟨_, _, rfl, rfl⟩)⟩
  obtain ⟨m3, F4, m3b, m3a, m3n, m3d, m3w, m3f, m3t, m3s, m3v⟩ : ∃ m3, Fr h₀ L _ m3 ∧ m3 "box" = some (.ref bx) ∧ m3 "all_of" = some (.ref al) ∧ m3 "names" = some (.ref nm) ∧ m3 "due" = some (.ref du) ∧ m3 "words" = some (.ref wo) ∧ m3 "form" = some (.int x1 t1) ∧ m3 "at" = some (.int x2 t2) ∧ m3 "spot" = some (.int j tj) ∧ m3 "value" = some v := ⟨_, F3, by walk_at "t_map", by walk_at "t_map", by walk_at "t_map", by walk_at "t_map", by walk_at "t_map", by walk_at "t_map", by walk_at "t_map", by walk_at "t_map", by walk_at "t_map"⟩
  clear F3
  have fin : ∀ (h5 : Heap) (tk5 : Nat) (ex : FX) (rr : Value), Fr h₀ L h5 m3 → News h₀ L h5 ((bx, listOf [.ref ib, .int n2 t'].toArray i1) :: (ib, listOf vs2.toArray i2) :: (wdd, ow) :: (hl, listOf (avs Rs).toArray e3) :: (nm, listOf (nvs Rs).toArray e4) :: (du, listOf (dvs Rs).toArray e5) :: (L + 1, oc1) :: (L + 1 + 1, oc2) :: (L + 1 + 1 + 1, oc3) :: (ex ++ G)) → (∀ p ∈ ex, ∀ q ∈ (bx, listOf [.ref ib, .int n2 t'].toArray i1) :: (ib, listOf vs2.toArray i2) :: (wdd, ow) :: (hl, listOf (avs Rs).toArray e3) :: (nm, listOf (nvs Rs).toArray e4) :: (du, listOf (dvs Rs).toArray e5) :: (L + 1, oc1) :: (L + 1 + 1, oc2) :: (L + 1 + 1 + 1, oc3) :: G, q.1 ≠ p.1) → RefOk w (ex ++ Fx) R.H.kd R.H.x j rr → wpAny (model PW w) (callerA.deeper (envOfC "law" lawScope L fa cd)) (PySem.call (.ref 316) [rr, v]) (fun _ s' => wpAny (model PW w) (callerA.deeper (envOfC "law" lawScope L fa cd)) (execs dueStmts (envOfC "law" lawScope L fa cd)) Q E s') E { s with heap := h5, toks := tk5 } := by
    intro h5 tk5 ex rr F5 N5 sx qr
    have ap5 := ap.add_fix (new := ex) (hotmem hot9) (fun p hp => in9 (hCG p hp)) (fun p hp => in9 (hOG p hp)) sx
    obtain ⟨ca, cb, q, old, new, hcs, hH', tset⟩ := u_set (F := ex ++ Fx) v (hH.mono (fun p hp => List.mem_append_right _ hp)) qr hj0 hj1
    have hqC : (q, old) ∈ Cs Rs := mem_Cs hRm (by rw [hcs]; exact List.mem_append_right _ (List.mem_cons_self ..))
    have N6 : News h₀ L h5 ([(bx, listOf [.ref ib, .int n2 t'].toArray i1), (ib, listOf vs2.toArray i2), (wdd, ow), (hl, listOf (avs Rs).toArray e3), (nm, listOf (nvs Rs).toArray e4), (du, listOf (dvs Rs).toArray e5), (L + 1, oc1), (L + 1 + 1, oc2), (L + 1 + 1 + 1, oc3)] ++ (O ++ (Cs Rs ++ (ex ++ Fx)))) := fun p hp => N5 p (by
      rw [hG]
      exact sb_use hp (by walk_at "t_sub"))
    have qF : ∀ p ∈ ex ++ Fx, p.1 ≠ q := fun p hp e => ap5.2.2.1 p hp (e ▸ List.mem_map.mpr ⟨_, hqC, rfl⟩)
    refine' Tell.use (tset (ex ++ Fx) (fun _ h => h) qF) ?p1 ?p2 ?p3 F5 ?p5 ?p6 ?p7 (fun p hp => N6 p ?_) ?_
    case p1 => ktr_room
    case p2 => exact Nat.le_of_ble_eq_true rfl
    case p3 => k_asm
    case p5 => k_asm
    case p6 => k_asm
    case p7 => exact rfl
    · rcases List.mem_cons.mp hp with rfl | hp
      · exact List.mem_append_right _ (List.mem_append_right _ (List.mem_append_left _ hqC))
      · exact List.mem_append_right _ (List.mem_append_right _ (List.mem_append_right _ hp))
    intro r6 h6 tk6 F6 k6 g6
    obtain ⟨N7, ap7, _, qh, _⟩ := set_news (R1 := { R with H := { R.H with vs := R.H.vs.set j.toNat v, cs := ca ++ (q, new) :: cb } }) ap5 (fst_in rfl) hR hcs rfl N6 k6 g6
    clear N5 N6 F5 tset k6 g6
    rw [upd_self m3d, upd_self m3t, upd_self m3s, upd_self m3v] at F6
    dsimp only at F6
    have od := off_du (fun p hp => ap7.2.2.2.1 p hp)
    have oo := off_du (fun p hp => (ap7.2.2.2.2 p hp).1)
    refine due_body (K := (bx, listOf [.ref ib, .int n2 t'].toArray i1) :: (ib, listOf vs2.toArray i2) :: (wdd, ow) :: (hl, listOf (avs Rs).toArray e3) :: (nm, listOf (nvs Rs).toArray e4) :: (L + 1, oc1) :: (L + 1 + 1, oc2) :: (L + 1 + 1 + 1, oc3) :: (O ++ (Cs (Rs.set x2.toNat { R with H := { R.H with vs := R.H.vs.set j.toNat v, cs := ca ++ (q, new) :: cb } }) ++ (ex ++ Fx)))) rfl B X T rfl F6 (fun p hp => N7 p ?_) ?_ (fun p hp => ?_) (dt := R.dt) (e5 := e5) (dv := dvs Rs) (et := et) (z0 := z0) (z1 := z1) (z2 := z2) ?_ hval hy0 (by simp only [List.length_map]; omega) (by simp only [List.length_map]; omega) gD hj0 hj1 ?_
    · exact sb_use hp (by walk_at "t_sub")
    · refine ne_cons (by walk_at "t_ne") (ne_cons (by walk_at "t_ne") (ne_cons (by walk_at "t_ne") (ne_cons (by walk_at "t_ne") (ne_cons (by walk_at "t_ne") (ne_cons (by walk_at "t_ne") (ne_cons (by walk_at "t_ne") (ne_cons (by walk_at "t_ne") fun p hp => ?_)))))))
      rcases List.mem_append.mp hp with hp | hp
      · exact oo p hp
      · exact od p hp
    · exact m8 (List.mem_append_right _ (List.mem_append_right _ (List.mem_append_right _ hp)))
    · exact m8 (List.mem_append_right _ (List.mem_append_right _ (List.mem_append_right _ mt)))
    · intro h9 tk9 dt' et' y fx w0 w1 w2 F9 N9 sep oD sh eq
      obtain ⟨d9, N10, S10, l10, n10⟩ := set_final (R1 := { R with H := { R.H with vs := R.H.vs.set j.toNat v, cs := ca ++ (q, new) :: cb } }) (j := j) (v := v) hR rfl rfl rfl rfl rfl rfl hH' ap7 (fun p hp => List.mem_append_right _ hp) N9 sep oD ok num hj0 hj1 evs V0 V1 V2 mr q0 q1 q2 b0 b1 b2 hval sh eq hI2 (by omega) (by omega) iw dc1 ⟨_, dc2⟩ ⟨_, dc3⟩ ma mw mx F9 (by walk_at "t_map"; exact m3b) (by walk_at "t_map"; exact m3a) (by walk_at "t_map"; exact m3n) (by walk_at "t_map") (by walk_at "t_map"; exact m3w)
      exact done _ _ _ d9 F9 N10 S10 l10 (by omega)
  clear done
  have F40 := fun _ : True => F4
  rw [upd_self m3f, upd_self m3t, upd_self m3s, upd_self m3v, upd_self m3n, upd_self m3a] at F4
  dsimp only at F4
  walk_at "k_stmt"
  · refine Hold.in ?_
    exact fin _ _ [] rj (F40 trivial) N3 (fun _ h => nomatch h) qj
  · refine Hold.in ?_
    refine' TellU.use (u_ref (ro := (bx, listOf [.ref ib, .int n2 t'].toArray i1) :: (ib, listOf vs2.toArray i2) :: (wdd, ow) :: (hl, listOf (avs Rs).toArray e3) :: (nm, listOf (nvs Rs).toArray e4) :: (du, listOf (dvs Rs).toArray e5) :: (L + 1, oc1) :: (L + 1 + 1, oc2) :: (L + 1 + 1 + 1, oc3) :: G) hH hj0 hj1 (fun p hp => in9 (hFG p hp))) ?p1 ?p2 ?p3 (F40 trivial) ?p5 ?p6 ?p7 N3 ?_
    case p1 => ktr_room
    case p2 => exact Nat.le_of_ble_eq_true rfl
    case p3 => k_asm
    case p5 => k_asm
    case p6 => k_asm
    case p7 => exact rfl
    intro r7 h7 tk7 F7 k7 P7
    obtain ⟨x7, d7, o7, rfl, fx7, i7, fd7⟩ := P7
    have ff7 := fresh_two fx7 fd7
    have sep7 := fresh_sep N3 ff7
    have N7 := after_call (F40 trivial) N3 k7 (fun _ _ h => nomatch h) ff7
    clear k7 fx7 fd7 ff7 F4 N3
    have N8 := push_one N7
    clear N7
    have F70 := fun _ : True => F7
    rw [upd_self m3v] at F7
    k_steps
    refine Hold.in ?_
    exact fin _ _ [(x7, instObj 117 d7), (d7, o7)] (.ref x7) (F70 trivial) N8 sep7 ⟨x7, d7, o7, rfl, List.mem_append_left _ (List.mem_cons_self ..), List.mem_append_left _ (List.mem_cons_of_mem _ (List.mem_cons_self ..)), i7⟩
end
end
section
theorem top_off_V12 : True := by
  w_top off
  trivial
section
local macro_rules | `(tactic| walk_at "binaryOp Add ref ref") => `(tactic| (k_here; k_dflt (refine' cat1 ?F ?N ?a ?b ?z ?_; (case F => k_asm); (case N => k_asm); (case a => walk_at "t_mem"); (case b => walk_at "t_mem"); (case z => (simp only [List.length_map]; omega))); intro D' h' F' N' l1; (try k_lt l1); (try k_sweep)))
set_option maxRecDepth 100000 in
set_option maxHeartbeats 8000000 in
theorem turn {w : World} {mean : ExcName → Option Value} {mg mb : Str → Option Value} {fa : Addr} {cd : Value} {base h₀ : Heap} {L : Addr} {m : Str → Option Value} {s : Shared} {Q : Flow → Shared → Prop} {E : Value → Shared → Prop} {sc : Scope} {bd : List Stmt} (hsc : lawScope = sc) (B : Below callerA base [] h₀) (X : (hd.heap_1 w.params).In h₀) (T : Top lawView Loose mean mg mb h₀) (hbd : turnBody = bd) (hE : PassesOwn (model PW w) (callerA.deeper (envOfC "law" sc L fa cd)) (envOfC "law" sc L fa cd) E) {bx ib wx wdd hl nm : Addr} {O : FX} {d : SD} (F : Fr h₀ L s.heap m) (N : News h₀ L s.heap (d.hot bx ib wdd hl nm L (O ++ (Cs d.Rs ++ d.Fx)))) (S : SOk w O bx ib wx wdd hl nm L d m) (hl1 : d.Rs.length < 15) (hn1 : d.n < 70)
    (done : ∀ h' tk m' d', Fr h₀ L h' m' → News h₀ L h' (d'.hot bx ib wdd hl nm L (O ++ (Cs d'.Rs ++ d'.Fx))) → SOk w O bx ib wx wdd hl nm L d' m' → d'.Rs.length ≤ d.Rs.length + 1 → d'.n ≤ d.n + 6 → Q .next { s with heap := h', toks := tk }) :
    wpAny (model PW w) (callerA.deeper (envOfC "law" sc L fa cd)) (execs bd (envOfC "law" sc L fa cd)) Q E s := by
  have hS8 : Stop 8 := .mk
  have hS1 : Stop 1 := .mk
  have hS0 : Stop 0 := .mk
  have hsc0 := hsc
  conv at hsc => lhs; whnf
  conv at hbd => lhs; whnf
  subst hsc hbd
  obtain ⟨Rs, al, wo, du, n, tn, vs, xs, e1, e2, e3, e4, e5, e6, e7, ow, oc1, oc2, oc3, Fx⟩ := d
  obtain ⟨hI, hn0, zv, z0, iw, dc1, ⟨vc2, dc2⟩, ⟨vc3, dc3⟩, ma, mw, mx, ap, ok, num, mb, mall, mn, md, mwo⟩ := S
  dsimp only [SD.hot] at *
  obtain ⟨G, hG⟩ : ∃ G, G = O ++ (Cs Rs ++ Fx) := ⟨_, rfl⟩
  rw [← hG] at N
  have off : OffHot bx ib wdd hl nm du (L + 1) (L + 1 + 1) (L + 1 + 1 + 1) G := by rw [hG]; exact fun p hp => (List.mem_append.mp hp).elim (fun h => (ap.2.2.2.2 p h).1) (fun h => ap.2.2.2.1 p h)
  have hFG : ∀ p ∈ Fx, p ∈ G := fun p hp => by rw [hG]; exact List.mem_append_right _ (List.mem_append_right _ hp)
  have hOG : ∀ p ∈ O, p ∈ G := fun p hp => by rw [hG]; exact List.mem_append_left _ hp
  have hCG : ∀ p ∈ Cs Rs, p ∈ G := fun p hp => by rw [hG]; exact List.mem_append_right _ (List.mem_append_left _ hp)
  have ma' := hFG _ ma
  have mw' := hFG _ mw
  have mx' := hFG _ mx
  obtain ⟨ne1, ne2, ne3, ne4, ne5, ne6, ne7, ne8, ne9, ne10, ne11, ne12, ne13, ne14, ne15, ne16, ne17, ne18, ne19, ne20, ne21, ne22, ne23, ne24, ne25, ne26, ne27, ne28, ne29, ne30, ne31, ne32, ne33, ne34, ne35, ne36⟩ := hot_ne ap.1
  have of1 := off_bx off
  have of2 := off_ib off
  have of3 := off_wdd off
  have of4 := off_hl off
  have of5 := off_nm off
  have of6 := off_du off
  have of7 := off_c1 off
  have of8 := off_c2 off
  have of9 := off_c3 off
  rw [upd_self mb, upd_self mall, upd_self mn, upd_self md, upd_self mwo] at F
  dsimp only at F
  walk_at "k_stmt"
  refine Hold.in ?_
  refine' Tell.use (t_take (bx := bx) (ib := ib) ne1 hn0 (by omega) (by decide) (by decide) hI zv) ?p1 ?p2 ?p3 ?p4 ?p5 ?p6 ?p7 N ?_
  case p1 => ktr_room
  case p2 => exact Nat.le_of_ble_eq_true rfl
  case p3 => k_asm
  case p4 => k_asm
  case p5 => k_asm
  case p6 => k_asm
  case p7 => first | exact rfl | assumption
  intro r1 h1 tk1 F1 k1 P1
  obtain ⟨x1, t1, vs1, f1, f2, tn1, xs1, hr1, hx0, hx1, hI1, hz1, N1⟩ := take_post N (by walk_at "t_off") k1 P1
  subst hr1
  clear P1 k1 N F hI
  k_steps
  refine Hold.in ?_
  refine' Tell.use (t_take (bx := bx) (ib := ib) (wd := (Rs.length : Int)) ne1 (n := n + 1) (by omega) (by omega) (by omega) (by omega) hI1 (by omega)) ?p1 ?p2 ?p3 ?p4 ?p5 ?p6 ?p7 N1 ?_
  case p1 => ktr_room
  case p2 => exact Nat.le_of_ble_eq_true rfl
  case p3 => k_asm
  case p4 => k_asm
  case p5 => k_asm
  case p6 => k_asm
  case p7 => first | exact rfl | assumption
  intro r2 h2 tk2 F2 k2 P2
  obtain ⟨x2, t2, vs2, g1, g2, tn2, xs2, hr2, hy0, hy1, hI2, hz2, N2⟩ := take_post N1 (by walk_at "t_off") k2 P2
  subst hr2
  clear P2 k2 N1 F1 hI1
  obtain ⟨R, hR⟩ : ∃ R, Rs[x2.toNat]? = some R := ⟨_, List.getElem?_eq_getElem (by omega)⟩
  have hRm := List.mem_of_getElem? hR
  have gA : (avs Rs)[x2.toNat]? = some (.ref R.H.x) := by simp [hR]
  have gN : (nvs Rs)[x2.toNat]? = some (.ref R.nl) := by simp [hR]
  have gD : (dvs Rs)[x2.toNat]? = some (.ref R.dt) := by simp [hR]
  have gW : (wvs Rs)[x2.toNat]? = some (.str (kWord R.H.kd) R.wt) := by simp [hR]
  have hRC : ∀ p ∈ R.H.cs, p ∈ G := fun p hp => hCG p (mem_Cs hRm hp)
  k_steps
  rename News _ _ _ _ => N3
  replace N3 := news_tl N3
  rename Fr _ _ _ _ => F3
  walk_at "k_stmt"
  · walk_at "k_stmt"
    refine Hold.in ?_
    rename Fr _ _ _ _ => F3
    rename News _ _ _ _ => N3
    have NP := pull_wd N3
    refine' TellU.use (u_copy (H := R.H) (n := (Rs.length : Int)) (hs := avs Rs) (ok R hRm).1 (by omega) (by omega) (by simp only [List.length_map]; omega) iw ?hF ?hc ?mw ?n1 ne16 ?r1 ?r2) ?p1 ?p2 ?p3 ?p4 ?p5 ?p6 ?p7 NP ?_
    case hF => exact fun p hp => m7 (hFG p hp)
    case hc => exact fun p hp => m7 (hRC p hp)
    case mw => exact m7 mx'
    case n1 => exact (of3 _ mx').symm
    case r1 => walk_at "t_off"
    case r2 => walk_at "t_off"
    case p1 => ktr_room
    case p2 => exact Nat.le_of_ble_eq_true rfl
    case p3 => k_asm
    case p4 => k_asm
    case p5 => k_asm
    case p6 => k_asm
    case p7 => first | exact rfl | assumption
    intro r4 h4 tk4 F4 k4 P4
    obtain ⟨⟨ow', iw', gw⟩, ⟨eh', gh⟩, H', fx, rfl, hkd, hnum, hvs', ffx, fcs, hol', ncs, sfx⟩ := P4
    have fnew : ∀ p ∈ fx ++ H'.cs, Fresh _ _ p.1 p.2 := fun p hp => (List.mem_append.mp hp).elim (ffx p) (fcs p)
    have sep4 := fresh_sep NP fnew
    have N4 := push_wd (two_next F3 NP k4 (by walk_at "t_off") gw gh fnew)
    clear NP N3 F3 k4 gw gh fnew ffx fcs
    obtain ⟨G4, hG4⟩ : ∃ G4, G4 = (fx ++ H'.cs) ++ G := ⟨_, rfl⟩
    rw [← hG4] at N4
    have off4 : OffHot bx ib wdd hl nm du (L + 1) (L + 1 + 1) (L + 1 + 1 + 1) G4 := by
      rw [hG4]
      exact offHot_app (offHot_pull sep4) off
    have hG4G : ∀ p ∈ G, p ∈ G4 := fun p hp => by rw [hG4]; exact List.mem_append_right _ hp
    have og1 := off_bx off4
    have og2 := off_ib off4
    have og3 := off_wdd off4
    have og4 := off_hl off4
    have og5 := off_nm off4
    have og6 := off_du off4
    have og7 := off_c1 off4
    have og8 := off_c2 off4
    have og9 := off_c3 off4
    k_steps
    refine Hold.in ?_
    refine wpAny_execs_cons ?_
    k_steps
    refine Hold.in ?_
    rename Fr _ _ _ _ => F5
    rename News _ _ _ _ => N5
    refine c_refs hsc0 B X T rfl F5 N5 (hol' G4 (fun p hp => hG4G p (hFG p hp)) (fun p hp => by rw [hG4]; exact List.mem_append_left _ (List.mem_append_left _ hp))) (fun p hp => in9 hp) (by walk_at "t_mem") (by assumption) ?_
    intro h6 tk6 D n6 r0 r1 r2 fx2 F6 N6 sep6 oD q0 q1 q2
    replace N6 := push_new N6
    clear F5 N5
    obtain ⟨G6, hG6⟩ : ∃ G6, G6 = (D, listOf [r0, r1, r2].toArray n6) :: (fx2 ++ G4) := ⟨_, rfl⟩
    rw [← hG6] at N6
    have off6 : OffHot bx ib wdd hl nm du (L + 1) (L + 1 + 1) (L + 1 + 1 + 1) G6 := by
      rw [hG6]
      exact offHot_app (new := [_]) (offHot_one oD) (offHot_app (offHot_new sep6) off4)
    have hG64 : ∀ p ∈ G4, p ∈ G6 := fun p hp => by rw [hG6]; exact List.mem_cons_of_mem _ (List.mem_append_right _ hp)
    clear og1 og2 og3 og4 og5 og6 og7 og8 og9
    have og1 := off_bx off6
    have og2 := off_ib off6
    have og3 := off_wdd off6
    have og4 := off_hl off6
    have og5 := off_nm off6
    have og6 := off_du off6
    have og7 := off_c1 off6
    have og8 := off_c2 off6
    have og9 := off_c3 off6
    k_steps
    refine Hold.in ?_
    rename News _ _ _ _ => N7
    rw [List.push_toArray] at N7
    obtain ⟨K7, hK7, N8⟩ := collapse N7
    clear N7 og1 og2 og3 og4 og5 og6 og7 og8 og9
    have mK1 : (al, listOf (avs Rs).toArray e6) ∈ K7 := by rw [hK7]; exact in9 (hG64 _ (hG4G _ ma'))
    have mK2 : (du, listOf (dvs Rs).toArray e5) ∈ K7 := by rw [hK7]; walk_at "t_mem"
    have mK3 : (wo, listOf (wvs Rs).toArray e7) ∈ K7 := by rw [hK7]; exact in9 (hG64 _ (hG4G _ mw'))
    have mK4 := hK7 ▸ hot9 _ (List.mem_cons_of_mem _ (List.mem_cons_of_mem _ (List.mem_cons_of_mem _ (List.mem_cons_of_mem _ (List.mem_cons_of_mem _ (List.mem_cons_of_mem _ (List.mem_cons_of_mem _ (List.mem_cons_of_mem _ (List.mem_cons_self ..)))))))))
    walk_at "k_stmt"
    refine Hold.in ?_
    dsimp only
    rename News _ _ _ _ => N9
    rename Fr _ _ _ _ => F9
    rename _ ∧ AllLt _ _ => z1
    rename _ ∧ _ ∧ _ ∧ AllLt _ _ => z2
    rename _ ∧ _ ∧ _ ∧ _ ∧ _ ∧ AllLt _ _ => z3

    obtain ⟨d9, N10, S10, l10, n10⟩ := copy_final hG hG4 hG6 hK7 ap ok num sep4 ncs sfx sep6 oD (allLt_mem z1.2) (allLt_mem z2.2.2.2) (allLt_mem z3.2.2.2.2.2) z2.2.1 z3.2.1 N9 hRm hkd hnum hvs' hol' q0 q1 q2 hI2 (by omega) (by omega) iw' dc1 ⟨_, dc2⟩ ⟨_, by assumption⟩ mx F9 (by walk_at "t_map") (by walk_at "t_map") (by walk_at "t_map") (by walk_at "t_map") (by walk_at "t_map")
    exact turn_check hsc0 B X T rfl hE F9 N10 S10 (by omega) (fun h' tk m'' F' N' S' => done h' tk m'' d9 F' N' S' (by omega) (by omega))
  · refine Hold.in ?_
    rename News _ _ _ _ => N4
    rename Fr _ _ _ _ => F4
    obtain ⟨m3, F5, m3b, m3a, m3n, m3d, m3w, m3f, m3t⟩ : ∃ m3, Fr h₀ L _ m3 ∧ m3 "box" = some (.ref bx) ∧ m3 "all_of" = some (.ref al) ∧ m3 "names" = some (.ref nm) ∧ m3 "due" = some (.ref du) ∧ m3 "words" = some (.ref wo) ∧ m3 "form" = some (.int x1 t1) ∧ m3 "at" = some (.int x2 t2) := ⟨_, F4, by walk_at "t_map", by walk_at "t_map", by walk_at "t_map", by walk_at "t_map", by walk_at "t_map", by walk_at "t_map", by walk_at "t_map"⟩
    refine set_body hsc0 B X T rfl (d := ⟨Rs, al, wo, du, n + 1 + 1, tn2, vs2, xs2, g1, g2, e3, e4, e5, e6, e7, ow, oc1, oc2, oc3, Fx⟩) F5 (hG ▸ N4) ⟨hI2, by show 0 ≤ n + 1 + 1; omega, by show vs2.length < 64; omega, z0, iw, dc1, ⟨_, dc2⟩, ⟨_, dc3⟩, ma, mw, mx, ap, ok, num, m3b, m3a, m3n, m3d, m3w⟩ (by show Rs.length < 20; omega) (by show n + 1 + 1 < 76; omega) m3f m3t (by assumption) hy0 hy1 ?_
    intro h' tk m' d' F' N' S' l' n'
    exact turn_check hsc0 B X T rfl hE F' N' S' (by rw [l']; show Rs.length < 20; omega) (fun h'' tk'' m'' F'' N'' S'' => done _ _ m'' d' F'' N'' S'' (by rw [l']; exact Nat.le_succ _) (by dsimp only at n'; omega))
end
end
section
section
variable {prog : Program} {w : World} {A : Around} {E : Value → Shared → Prop} {s : Shared} {env : Env} {h₀ : Heap}
theorem range_loop {x : Str} {body : List Stmt} {Q : Flow → Shared → Prop} {a b : Int} {t u v : Tok} {r : Addr} {n : Nat} {m₀ : Str → Option Value} {news : List (Addr × Obj)}
    (hh : A.handled = none) (F : Fr h₀ env.locals s.heap m₀) (N : News h₀ env.locals s.heap news) (hr : IsRange s.heap r a b 1 t u v) (hsm : Builtin.Range.small a b 1 = true) (hn : Builtin.Range.rangeSize a b 1 = ((n : Nat) : Int)) (J : Nat → (Str → Option Value) → List (Addr × Obj) → Prop) (h0 : J 0 m₀ news)
    (step : ∀ i tv m₁ news₁ h tk own (K : Flow → Shared → Prop), i < n → J i m₁ news₁ → (∀ q ∈ own, ∀ p ∈ news₁, q.1 ≠ p.1) → Fr h₀ env.locals h (fun y => if y = x then some (.int (a + ((i : Nat) : Int)) tv) else m₁ y) → News h₀ env.locals h (own ++ news₁) →
      (∀ h' tk' m' news', J (i + 1) m' news' → (∀ q ∈ own, ∀ p ∈ news', q.1 ≠ p.1) → Fr h₀ env.locals h' m' → News h₀ env.locals h' (own ++ news') → K .next { s with heap := h', toks := tk' }) → wpAny (model prog w) A (execs body env) K E { s with heap := h, toks := tk })
    (done : ∀ h' tk m' news', J n m' news' → Fr h₀ env.locals h' m' → News h₀ env.locals h' news' → Q .next { s with heap := h', toks := tk }) :
    wpAny (model prog w) A (pyIter (.ref r)) (fun it s₂ => LoopAtV prog w A h₀ env x body Q E it s₂) E s := by
  refine wpAny_pyIter_range hr hsm ?_
  refine ⟨s.heap.objs.size, [s.heap.objs.size], [s.heap.objs.size], n, _, _, m₀, news, J, rfl, LCg.range_walks hh a n, ?_, ?_, ?_, ?_, F.push _, (fun p hp => ⟨Heap.get?_push_of_some _ (N p hp).1, (N p hp).2⟩), h0, ?_, ?_⟩
  · intro h
    exact absurd F.ns.lt ((List.mem_singleton.mp h) ▸ Nat.lt_irrefl _)
  · intro b hb
    rw [List.mem_singleton.mp hb]
    exact next_is_new F
  · intro p hp hI
    exact absurd (Heap.lt_size (N p hp).1) ((List.mem_singleton.mp hI) ▸ Nat.lt_irrefl _)
  · show IsRangeIter _ _ _ _ _
    rw [hn]
    simpa using Heap.get?_push_size _ rfl
  · rintro i v m₁ news₁ s₁ own ⟨hh', tk', rfl⟩ hin ⟨tv, rfl⟩ hJi hoff hown hget hall hst F₁ N₁
    have hown' : ∀ p ∈ own, p.1 = s.heap.objs.size := fun p hp => List.mem_singleton.mp (hown p hp)
    have hI : ∃ o, (s.heap.objs.size, o) ∈ own := by
      have st : hh'.get? s.heap.objs.size = some _ := hst
      exact ⟨_, hall _ (List.mem_singleton.mpr rfl) (next_is_new F) _ st⟩
    obtain ⟨oI, hoI⟩ := hI
    refine step i tv m₁ news₁ hh' tk' own _ hin hJi (fun q hq p hp e => hoff p hp (by rw [← e, hown' q hq]; exact List.mem_singleton.mpr rfl)) F₁ N₁ ?_
    intro h'' tk'' m' news' hJ' hsep F' N'
    refine .next ⟨rfl, h'', tk'', m', news', rfl, F', N', fun p hp hI' => ?_, hJ'⟩
    exact hsep _ hoI p hp (List.mem_singleton.mp hI').symm
  · intro h'' tk'' m' news' F' N' _ hJ'
    exact done h'' tk'' m' news' hJ' F' N'
end
theorem Apart.own {O hs C F : List _} (own : FX) (h : Apart O hs C F) (sh : ∀ q ∈ own, q.1 ∉ hs ∧ ∀ p ∈ C ++ F, q.1 ≠ p.1) : Apart own hs C F := ⟨h.1, h.2.1, h.2.2.1, h.2.2.2.1, sh⟩
theorem SOk.own {w : World} {O : FX} {bx ib wx wdd hl nm L : Addr} {d : SD} {m m' : Str → Option Value} (own : FX) (S : SOk w O bx ib wx wdd hl nm L d m) (sh : ∀ q ∈ own, q.1 ∉ [bx, ib, wdd, hl, nm, d.du, L + 1, L + 1 + 1, L + 1 + 1 + 1] ∧ ∀ p ∈ Cs d.Rs ++ d.Fx, q.1 ≠ p.1) (h : ∀ z : Str, z ≠ "turn" → m' z = m z) : SOk w own bx ib wx wdd hl nm L d m' := by
  obtain ⟨hI, hn0, zv, z0, iw, dc1, h2, h3, ma, mw, mx, ap, ok, num, mb, mall, mn, md, mwo⟩ := S
  exact ⟨hI, hn0, zv, z0, iw, dc1, h2, h3, ma, mw, mx, ap.own own sh, ok, num, (h _ (by decide)).trans mb, (h _ (by decide)).trans mall, (h _ (by decide)).trans mn, (h _ (by decide)).trans md, (h _ (by decide)).trans mwo⟩
theorem sep_hot {bx ib wdd hl nm L : Addr} {d : SD} {own G : FX} (h : ∀ q ∈ own, ∀ p ∈ d.hot bx ib wdd hl nm L G, q.1 ≠ p.1) : ∀ q ∈ own, q.1 ∉ [bx, ib, wdd, hl, nm, d.du, L + 1, L + 1 + 1, L + 1 + 1 + 1] ∧ ∀ p ∈ G, q.1 ≠ p.1 := fun q hq => ⟨fun hm => by
  obtain ⟨o, ho⟩ := hotmem (hot9 (G := G)) q.1 hm
  exact h q hq _ ho rfl, fun p hp => h q hq p (in9 hp)⟩
theorem hot_sep {bx ib wdd hl nm L : Addr} {d : SD} {own G : FX} (h : ∀ q ∈ own, q.1 ∉ [bx, ib, wdd, hl, nm, d.du, L + 1, L + 1 + 1, L + 1 + 1 + 1] ∧ ∀ p ∈ G, q.1 ≠ p.1) : ∀ q ∈ own, ∀ p ∈ d.hot bx ib wdd hl nm L G, q.1 ≠ p.1 := fun q hq p hp e => by
  obtain ⟨h1, h2⟩ := h q hq
  simp only [List.mem_cons] at hp
  rcases hp with rfl | rfl | rfl | rfl | rfl | rfl | rfl | rfl | rfl | hp
  all_goals first | exact h2 p hp e | exact h1 (by rw [e]; simp)
theorem own_in {h₀ h : Heap} {L : Addr} {a b c d e f g i j : Addr × Obj} {own G : FX} (N : News h₀ L h (own ++ (a :: b :: c :: d :: e :: f :: g :: i :: j :: G))) : News h₀ L h (a :: b :: c :: d :: e :: f :: g :: i :: j :: (own ++ G)) := push_one N
theorem own_out {h₀ h : Heap} {L : Addr} {a b c d e f g i j : Addr × Obj} {own G : FX} (N : News h₀ L h (a :: b :: c :: d :: e :: f :: g :: i :: j :: (own ++ G))) : News h₀ L h (own ++ (a :: b :: c :: d :: e :: f :: g :: i :: j :: G)) := fun p hp => N p (sb_use hp (by walk_at "t_sub"))
end
section
local macro_rules | `(tactic| walk_at "zz1") => `(tactic| skip)
theorem top_off_V16 : True := by
  w_top off
  trivial
section
local macro_rules | `(tactic| walk_at "binaryOp Add ref ref") => `(tactic| (k_here; k_dflt (refine' cat1 ?F ?N ?a ?b ?z ?_; (case F => k_asm); (case N => k_asm); (case a => walk_at "t_mem"); (case b => walk_at "t_mem"); (case z => (simp only [List.length_map]; omega))); intro D' h' F' N' l1; (try k_lt l1); (try k_sweep)))
noncomputable def turnFor : Stmt := match lawStmts with | _ :: _ :: _ :: _ :: x :: _ => x | _ => .Pass ⟨0, 0, 0, 0⟩
set_option maxRecDepth 100000 in
set_option maxHeartbeats 8000000 in
theorem law_loop {w : World} {mean : ExcName → Option Value} {mg mb : Str → Option Value} {fa : Addr} {cd : Value} {base h₀ : Heap} {L : Addr} {m : Str → Option Value} {s : Shared} {Q : Flow → Shared → Prop} {E : Value → Shared → Prop} {sc : Scope} {st : Stmt} (hsc : lawScope = sc) (B : Below callerA base [] h₀) (X : (hd.heap_1 w.params).In h₀) (T : Top lawView Loose mean mg mb h₀) (hst : turnFor = st) (hE : PassesOwn (model PW w) (callerA.deeper (envOfC "law" sc L fa cd)) (envOfC "law" sc L fa cd) E) {bx ib wx wdd hl nm : Addr} {d : SD} (F : Fr h₀ L s.heap m) (N : News h₀ L s.heap (d.hot bx ib wdd hl nm L (Cs d.Rs ++ d.Fx))) (S : SOk w [] bx ib wx wdd hl nm L d m) (hl1 : d.Rs.length = 3) (hn1 : d.n = 0)
    (done : ∀ h' tk m' d', Fr h₀ L h' m' → News h₀ L h' (d'.hot bx ib wdd hl nm L (Cs d'.Rs ++ d'.Fx)) → SOk w [] bx ib wx wdd hl nm L d' m' → d'.Rs.length < 15 → Q .next { s with heap := h', toks := tk }) :
    wpAny (model PW w) (callerA.deeper (envOfC "law" sc L fa cd)) (exec st (envOfC "law" sc L fa cd)) Q E s := by
  have hS8 : Stop 8 := .mk
  have hS6 : Stop 6 := .mk
  have hS1 : Stop 1 := .mk
  have hS0 : Stop 0 := .mk
  have hsc0 := hsc
  have ed1 : ∀ t' vs' xs' a1 a2, (⟨d.Rs, d.al, d.wo, d.du, d.n + 1, t', vs', xs', a1, a2, d.e3, d.e4, d.e5, d.e6, d.e7, d.ow, d.oc1, d.oc2, d.oc3, d.Fx⟩ : SD).Rs = d.Rs := fun _ _ _ _ _ => rfl
  conv at hsc => lhs; whnf
  conv at hst => lhs; whnf
  subst hsc hst
  have ap := S.ap
  have off : OffHot bx ib wdd hl nm d.du (L + 1) (L + 1 + 1) (L + 1 + 1 + 1) (Cs d.Rs ++ d.Fx) := ap.2.2.2.1
  obtain ⟨ne1, ne2, ne3, ne4, ne5, ne6, ne7, ne8, ne9, ne10, ne11, ne12, ne13, ne14, ne15, ne16, ne17, ne18, ne19, ne20, ne21, ne22, ne23, ne24, ne25, ne26, ne27, ne28, ne29, ne30, ne31, ne32, ne33, ne34, ne35, ne36⟩ := hot_ne ap.1
  have of1 := off_bx off
  have of2 := off_ib off
  have of3 := off_wdd off
  have of4 := off_hl off
  have of5 := off_nm off
  have of6 := off_du off
  have of7 := off_c1 off
  have of8 := off_c2 off
  have of9 := off_c3 off
  have Fm := fun _ : True => F
  refine For_invF F (by rfl) (by rfl) ?_ (fun _ => rfl) hE
  rw [upd_self S.mb] at F
  k_steps
  refine Hold.in ?_
  refine' Tell.use (t_take (bx := bx) (ib := ib) ne1 S.n0 (by omega) (by decide) (by decide) S.isI S.zv) ?p1 ?p2 ?p3 (Fm trivial) ?p5 ?p6 ?p7 N ?_
  case p1 => ktr_room
  case p2 => exact Nat.le_of_ble_eq_true rfl
  case p3 => k_asm
  case p5 => k_asm
  case p6 => k_asm
  case p7 => exact rfl
  intro r1 h1 tk1 F1 k1 P1
  obtain ⟨x0, t1, vs1, f1, f2, tn1, xs1, hr1, hx0, hx1, hI1, hz1, N1⟩ := take_post N (by walk_at "t_off") k1 P1
  subst hr1
  clear P1 k1 N F Fm
  have zv := S.zv
  k_steps
  refine Hold.in ?_
  rename Fr _ _ _ _ => F2
  rename News _ _ _ _ => N2
  refine range1_rows F2 N2 ?_
  intro h2 tk2 ta tb tc hr F3 N3 _
  have hn : Builtin.Range.rangeSize 0 (3 + x0) 1 = (((3 + x0 - 0).toNat : Nat) : Int) := rangeSize_nat _ _
  refine range_loop rfl F3 N3 hr (small_one (by omega) (by omega) (by omega) (by omega)) hn (fun i m₁ n₁ => ∃ d' : SD, SOk w [] bx ib wx wdd hl nm L d' m₁ ∧ n₁ = d'.hot bx ib wdd hl nm L (Cs d'.Rs ++ d'.Fx) ∧ d'.Rs.length ≤ 3 + i ∧ d'.n ≤ 1 + 6 * (i : Int)) ?_ ?_ ?_
  · refine ⟨⟨d.Rs, d.al, d.wo, d.du, d.n + 1, tn1, vs1, xs1, f1, f2, d.e3, d.e4, d.e5, d.e6, d.e7, d.ow, d.oc1, d.oc2, d.oc3, d.Fx⟩, ?_, rfl, by show d.Rs.length ≤ _; omega, by show d.n + 1 ≤ _; omega⟩
    have S0 := S.n0
    exact ⟨hI1, by show 0 ≤ d.n + 1; omega, by show vs1.length < 64; omega, S.z0, S.wd, S.cw, S.ch, S.cc, S.ma, S.mw, S.mx, S.ap, S.ok, S.num, S.mb, S.mall, S.mn, S.md, S.mwo⟩
  · clear F2 N2 F3 N3 hr
    rintro i tv m₁ news₁ h3 tk3 own K hi ⟨d', S', rfl, hlen, hnn⟩ hsep F4 N4 next
    have hx6 : i < 8 := by omega
    refine turn hsc0 B X T rfl hE F4 (own_in N4) (S'.own own (sep_hot hsep) (fun z hz => if_neg hz)) (by omega) (by omega) ?_
    intro h' tk m' d'' F5 N5 S5 l5 n5
    refine next _ _ _ _ ⟨d'', S5.own [] (fun _ h => nomatch h) (fun _ _ => rfl), rfl, by omega, by push_cast; omega⟩ (hot_sep fun q hq => S5.ap.2.2.2.2 q hq) F5 (own_out N5)
  · rintro h' tk m' news' ⟨d', S', rfl, hlen, hnn⟩ F' N'
    exact done h' tk m' d' F' N' S' (by omega)
end
end
section
theorem top_off_V17 : True := by
  w_top off
  trivial
section
local macro_rules | `(tactic| walk_at "binaryOp Add ref ref") => `(tactic| (k_here; k_dflt (refine' cat1 ?F ?N ?a ?b ?z ?_; (case F => k_asm); (case N => k_asm); (case a => walk_at "t_mem"); (case b => walk_at "t_mem"); (case z => (simp only [List.length_map]; omega))); intro D' h' F' N' l1; (try k_lt l1); (try k_sweep)))
noncomputable def endFor : Stmt := match tailStmts with | x :: _ => x | _ => .Pass ⟨0, 0, 0, 0⟩
set_option maxRecDepth 100000 in
set_option maxHeartbeats 8000000 in
theorem end_loop {w : World} {mean : ExcName → Option Value} {mg mb : Str → Option Value} {fa : Addr} {cd : Value} {base h₀ : Heap} {L : Addr} {m : Str → Option Value} {s : Shared} {Q : Flow → Shared → Prop} {E : Value → Shared → Prop} {sc : Scope} {st : Stmt} (hsc : lawScope = sc) (B : Below callerA base [] h₀) (X : (hd.heap_1 w.params).In h₀) (T : Top lawView Loose mean mg mb h₀) (hst : endFor = st) (hE : PassesOwn (model PW w) (callerA.deeper (envOfC "law" sc L fa cd)) (envOfC "law" sc L fa cd) E) {bx ib wx wdd hl nm : Addr} {d : SD} (F : Fr h₀ L s.heap m) (N : News h₀ L s.heap (d.hot bx ib wdd hl nm L (Cs d.Rs ++ d.Fx))) (S : SOk w [] bx ib wx wdd hl nm L d m) (hl1 : d.Rs.length < 15)
    (done : ∀ h' tk m' d', Fr h₀ L h' m' → News h₀ L h' (d'.hot bx ib wdd hl nm L (Cs d'.Rs ++ d'.Fx)) → SOk w [] bx ib wx wdd hl nm L d' m' → d'.Rs = d.Rs → Q .next { s with heap := h', toks := tk }) :
    wpAny (model PW w) (callerA.deeper (envOfC "law" sc L fa cd)) (exec st (envOfC "law" sc L fa cd)) Q E s := by
  have hS5 : Stop 5 := .mk
  have hS1 : Stop 1 := .mk
  have hS0 : Stop 0 := .mk
  have hsc0 := hsc
  conv at hsc => lhs; whnf
  conv at hst => lhs; whnf
  subst hsc hst
  obtain ⟨Rs, al, wo, du, n, tn, vs, xs, e1, e2, e3, e4, e5, e6, e7, ow, oc1, oc2, oc3, Fx⟩ := d
  obtain ⟨hI, hn0, zv, z0, iw, dc1, ⟨vc2, dc2⟩, ⟨vc3, dc3⟩, ma, mw, mx, ap, ok, num, mb, mall, mn, md, mwo⟩ := S
  dsimp only [SD.hot] at *
  have off : OffHot bx ib wdd hl nm du (L + 1) (L + 1 + 1) (L + 1 + 1 + 1) (Cs Rs ++ Fx) := ap.2.2.2.1
  obtain ⟨ne1, ne2, ne3, ne4, ne5, ne6, ne7, ne8, ne9, ne10, ne11, ne12, ne13, ne14, ne15, ne16, ne17, ne18, ne19, ne20, ne21, ne22, ne23, ne24, ne25, ne26, ne27, ne28, ne29, ne30, ne31, ne32, ne33, ne34, ne35, ne36⟩ := hot_ne ap.1
  have ma' : (al, listOf (avs Rs).toArray e6) ∈ Cs Rs ++ Fx := List.mem_append_right _ ma
  have alc : al ≠ L + 1 + 1 := off_c2 off _ ma'
  refine For_turns F ?_ (fun _ => rfl) hE
  rw [upd_self mall] at F
  k_steps
  refine Hold.in ?_
  rename Fr _ _ _ _ => F2
  rename News _ _ _ _ => N2
  rw [← upd_self mall] at F2
  refine enum_loop (n := e6) (vs := avs Rs) rfl F2 N2 (fun i m₁ n₁ => (∀ z : Str, z ≠ "at" → m₁ z = m z) ∧ ∃ oc v, oc.data = .cell v ∧ n₁ = (bx, listOf [.ref ib, .int n tn].toArray e1) :: (ib, listOf vs.toArray e2) :: (wdd, ow) :: (hl, listOf (avs Rs).toArray e3) :: (nm, listOf (nvs Rs).toArray e4) :: (du, listOf (dvs Rs).toArray e5) :: (L + 1, oc1) :: (L + 1 + 1, oc) :: (L + 1 + 1 + 1, oc3) :: (Cs Rs ++ Fx)) ?_ ?_ ?_ ?_
  · rintro i m₁ n₁ ⟨_, oc, v, _, rfl⟩
    exact in9 ma'
  · exact ⟨fun _ _ => rfl, oc2, vc2, dc2, rfl⟩
  · clear F2 N2
    rintro i v m₁ news₁ h₁ tk₁ TT t own KK hv ⟨hm, oc, vo, hoc, rfl⟩ hT hown F₁ N₁ next
    obtain ⟨R, hR, rfl⟩ : ∃ R, Rs[i]? = some R ∧ v = Value.ref R.H.x := by
      rw [List.getElem?_map] at hv
      obtain ⟨R, hR, e⟩ := Option.map_eq_some_iff.mp hv
      exact ⟨R, hR, e.symm⟩
    have hRm := List.mem_of_getElem? hR
    have hi := (List.getElem?_eq_some_iff.mp hR).1
    obtain ⟨G, hG⟩ : ∃ G, G = own ++ (Cs Rs ++ Fx) := ⟨_, rfl⟩
    have of8 : ∀ p ∈ G, p.1 ≠ L + 1 + 1 := by
      rw [hG]
      intro p hp
      rcases List.mem_append.mp hp with hp | hp
      · rcases hown p hp with e | e
        · rw [e]; exact alc
        · exact (e (L + 1 + 1, oc) (hot9 _ (by simp))).symm
      · exact off_c2 off p hp
    have N3 := push_one N₁
    rw [← hG] at N3
    clear N₁
    k_steps
    refine Hold.in ?_
    rename Fr _ _ _ _ => F5
    rename News _ _ _ _ => N5
    rename Obj.data _ = Data.cell (some (Value.ref R.H.x)) => dh
    obtain ⟨hH, w0, w1, w2, s0, s1, s2, r0, r1, r2, z0, z1, z2, er, et, hvs, v0, v1, v2, mr, q0, q1, q2, mt, b0, b1, b2⟩ := ok R hRm
    have hd1 : m₁ "due" = some (.ref du) := (hm _ (by decide)).trans md
    have gd : (dvs Rs)[((i : Nat) : Int).toNat]? = some (Value.ref R.dt) := by simp [hR]
    have FG : ∀ p ∈ Fx, p ∈ G := fun p hp => by rw [hG]; exact List.mem_append_right _ (List.mem_append_right _ hp)
    have CG : ∀ p ∈ R.H.cs, p ∈ G := fun p hp => by rw [hG]; exact List.mem_append_right _ (List.mem_append_left _ (mem_Cs hRm hp))
    rw [upd_self hd1] at F5
    refine end_body (i := (i : Int)) (Fx := Fx) hsc0 B X T rfl F5 N5 hH (fun p hp => in9 (FG p hp)) (fun p hp => in9 (CG p hp)) hvs v0 v1 v2 (by walk_at "t_mem") dh (by walk_at "t_mem") (by omega) (by omega) gd (in9 (FG _ mt)) b0 b1 b2 ?_
    intro h9 tk9 F9 N9
    rw [hG] at N9
    refine next _ _ _ _ ⟨fun z hz => by rw [if_neg hz]; exact (congrFun (upd_self hd1) z).symm.trans (hm z hz), _, _, dh, rfl⟩ (fun p hp => ?_) F9 (own_out N9)
    simp only [List.mem_cons] at hp
    rcases hp with rfl | rfl | rfl | rfl | rfl | rfl | rfl | rfl | rfl | hp
    · exact ⟨_, hot9 _ (by simp), rfl⟩
    · exact ⟨_, hot9 _ (by simp), rfl⟩
    · exact ⟨_, hot9 _ (by simp), rfl⟩
    · exact ⟨_, hot9 _ (by simp), rfl⟩
    · exact ⟨_, hot9 _ (by simp), rfl⟩
    · exact ⟨_, hot9 _ (by simp), rfl⟩
    · exact ⟨_, hot9 _ (by simp), rfl⟩
    · exact ⟨(L + 1 + 1, oc), hot9 _ (by simp), rfl⟩
    · exact ⟨_, hot9 _ (by simp), rfl⟩
    · exact ⟨p, in9 hp, rfl⟩
  · rintro h' tk m' news' ⟨hm, oc, v, hoc, rfl⟩ F₁ N₁
    exact done h' tk m' ⟨Rs, al, wo, du, n, tn, vs, xs, e1, e2, e3, e4, e5, e6, e7, ow, oc1, oc, oc3, Fx⟩ F₁ N₁ ⟨hI, hn0, zv, z0, iw, dc1, ⟨_, hoc⟩, ⟨_, dc3⟩, ma, mw, mx, ap, ok, num, (hm _ (by decide)).trans mb, (hm _ (by decide)).trans mall, (hm _ (by decide)).trans mn, (hm _ (by decide)).trans md, (hm _ (by decide)).trans mwo⟩ rfl
end
end
section
open PySem PySem.W PyProof.Rows PySem.Spec PySem.Calls
noncomputable def Off4 (I C D c : Addr) (news : FX) : Prop := ∀ p ∈ news, p.1 ≠ I ∧ p.1 ≠ C ∧ p.1 ≠ D ∧ p.1 ≠ c
noncomputable abbrev dct0 : Obj := { cls := .type "dict", data := .dict #[] }
section
variable {prog : Program} {w : World} {A : Around} {E : Value → Shared → Prop} {s : Shared} {h₀ : Heap} {L : Addr} {m : Str → Option Value} {env : Env}
noncomputable def CellRest (prog : Program) (w : World) (A : Around) (h₀ : Heap) (L : Addr) (m : Str → Option Value) (env : Env) (elt : Expr) (x : Str) (scope : Scope) (s : Shared) (ax : Addr) (l : List Value) (e : Nat) (Fin : List Value → FX → Prop) : Nat → Nat → List Value → FX → Prop
  | 0, _, ys, news => Fin ys news
  | k + 1, i, ys, news => ∀ v I oI C D c oc h tk (E' : Value → Shared → Prop), l[i]? = some v → oc.data = .cell (some v) → Fr h₀ L h m → News h₀ L h ((I, oI) :: (C, dct0) :: (D, LCg.lst ys) :: (c, oc) :: news) → Off4 I C D c news →
      wpAny (model prog w) A (eval elt (compEnvC scope [(x, c)] C env)) (fun y s' => ∃ h' tk' news', s' = { s with heap := h', toks := tk' } ∧ Fr h₀ L h' m ∧ News h₀ L h' ((I, oI) :: (C, dct0) :: (D, LCg.lst ys) :: (c, oc) :: news') ∧ Off4 I C D c news' ∧ (ax, listOf l.toArray e) ∈ news' ∧ CellRest prog w A h₀ L m env elt x scope s ax l e Fin k (i + 1) (ys ++ [y]) news') E' { s with heap := h, toks := tk }
theorem new_cell_env {scope : Scope} {x : Str} {g : Addr} {qual : Str} {Q : Env → Shared → Prop} (hcf : ∀ n, cellsFrom n scope.names [] = [(x, n)]) (hpc : ∀ h, pushCells h scope.names = h.push { cls := .type "cell", data := .cell none })
    (h : Q { scope, locals := s.heap.objs.size, globals := g, cells := [(x, s.heap.objs.size + 1)], qual, func := none, code := env.code, frame := env.frame, builtins := env.builtins } { s with heap := (s.heap.push dct0).push { cls := .type "cell", data := .cell none } }) :
    wpAny (model prog w) A (newFunctionEnv scope g [] [] qual none .none (some env)) Q E s := by
  simp only [newFunctionEnv, Option.isSome_some, if_true]
  refine wpAny_bind (wpAny_alloc ?_)
  refine wpAny_bind (wpAny_layCells _ (fun name kind cells => by cases hkc : kind == NameKind.cell <;> simp [hkc]) _ _ _ _ ?_)
  rw [hcf, hpc]
  refine wpAny_bind (wpAny_pure (wpAny_pure ?_))
  rw [show ({ s with heap := s.heap.push dct0 } : Shared).heap.objs.size = s.heap.objs.size + 1 from Heap.size_push ..]
  exact h
inductive BlkInv (prog : Program) (w : World) (A : Around) (h₀ : Heap) (L : Addr) (m : Str → Option Value) (env : Env) (elt : Expr) (x : Str) (scope : Scope) (s₂ : Shared) (ax : Addr) (l : List Value) (e : Nat) (Fin : List Value → FX → Prop) (I C D c : Addr) (k : Nat) (s' : Shared) : Prop
  | mk (h' : Heap) (tk i : Nat) (ys : List Value) (oc : Obj) (v₀ : Option Value) (news' : FX) (e1 : s' = { s₂ with heap := h', toks := tk }) (e2 : i ≤ l.length) (e3 : k = l.length + 1 - i) (e4 : ys.length = i) (e5 : h'.IsListIter I ax i) (e6 : Fr h₀ L h' m) (e7 : News h₀ L h' ((C, dct0) :: (D, LCg.lst ys) :: (c, oc) :: news')) (e8 : oc.data = .cell v₀) (e9 : Off4 I C D c news') (e10 : (ax, listOf l.toArray e) ∈ news') (e11 : CellRest prog w A h₀ L m env elt x scope s₂ ax l e Fin (l.length - i) i ys news')
open LCg in
theorem block_C {elt iter : Expr} {x : Str} {px : Pos} {scope : Scope} {pos : Pos} {s₂ : Shared} {I ax : Addr} {l : List Value} {e : Nat} {news : FX} {Fin : List Value → FX → Prop} {RR : Value → Addr → Result → Shared → Prop}
    (hh : A.handled = none) (hz : l.length ≤ sizeLine) (hcf : ∀ n, cellsFrom n scope.names [] = [(x, n)]) (hpc : ∀ h, pushCells h scope.names = h.push { cls := .type "cell", data := .cell none }) (hkind : scope.kind = .function) (hxc : (relabel scope env).names.lookup x = some .cell)
    (F : Fr h₀ L s₂.heap m) (N : News h₀ L s₂.heap news) (hm : (ax, listOf l.toArray e) ∈ news) (hI : s₂.heap.IsListIter I ax 0) (hIn : ∀ p ∈ news, p.1 ≠ I) (hIL : L ≠ I) (hI₀ : h₀.get? I = none)
    (R : CellRest prog w A h₀ L m env elt x scope s₂ ax l e Fin l.length 0 [] news)
    (hRR : ∀ D C h tk m' ys news', Fr h₀ L h m → News h₀ L h ((D, lst ys) :: news') → (∀ p ∈ news', p.1 ≠ D) → h.Ns C m' → h₀.get? C = none → C ≠ L → C ≠ D → (∀ p ∈ news', p.1 ≠ C) → Fin ys news' → RR (.ref D) C (.ok .next) { s₂ with heap := h, toks := tk }) :
    wpAny (model prog w) A (newList []) (fun acc s₃ => wpAny (model prog w) A (newFunctionEnv scope env.globals [] [] env.qual none .none (some env)) (fun cenv s₄ =>
      codeAny (model prog w) A (.compStart (.ListComp elt [⟨.Name x px, iter, [], 0⟩] scope pos) 0 (.ref I) acc { cenv with scope := relabel scope env }) (RR acc cenv.locals) s₄) E s₃) E s₂ := by
  refine wpAny_newObj_type (new_cell_env hcf hpc ?_)
  dsimp only
  generalize hH1 : s₂.heap.push { cls := .type "list", dict := none, data := .seq ([] : List Value).toArray } = H1
  have s1 : H1.objs.size = s₂.heap.objs.size + 1 := by rw [← hH1, Heap.size_push]
  generalize hH3 : (H1.push dct0).push { cls := .type "cell", data := .cell none } = H3
  have up1 : ∀ b o, s₂.heap.get? b = some o → H1.get? b = some o := fun b o q => hH1 ▸ Heap.get?_push_of_some _ q
  have up3 : ∀ b o, H1.get? b = some o → H3.get? b = some o := fun b o q => hH3 ▸ Heap.get?_push_of_some _ (Heap.get?_push_of_some _ q)
  have up : ∀ b o, s₂.heap.get? b = some o → H3.get? b = some o := fun b o q => up3 b o (up1 b o q)
  have gD : H3.get? s₂.heap.objs.size = some (lst []) := up3 _ _ (hH1 ▸ Heap.get?_push_size _ rfl)
  have gC : H3.get? H1.objs.size = some dct0 := hH3 ▸ Heap.get?_push_of_some _ (Heap.get?_push_size _ rfl)
  have gc : H3.get? (H1.objs.size + 1) = some { cls := .type "cell", data := .cell none } := by
    rw [← hH3]
    have : ((H1.push dct0).push { cls := .type "cell", data := .cell none }).get? (H1.push dct0).objs.size = some { cls := .type "cell", data := .cell none } := Heap.get?_push_size _ rfl
    rwa [Heap.size_push] at this
  have fresh : ∀ a, s₂.heap.objs.size ≤ a → s₂.heap.get? a = none := fun a ha => by
    cases q : s₂.heap.get? a with
    | none => rfl
    | some o' => exact absurd (Heap.lt_size q) (Nat.not_lt.mpr ha)
  have fresh₀ : ∀ a, s₂.heap.objs.size ≤ a → h₀.get? a = none := fun a ha => by
    cases q : h₀.get? a with
    | none => rfl
    | some o' => have := F.keep a o' q; rw [fresh a ha] at this; cases this
  have hLlt : L < s₂.heap.objs.size := F.ns.lt
  have hIlt : I < s₂.heap.objs.size := by obtain ⟨o, q, _⟩ := hI; exact Heap.lt_size q
  have ltD : ∀ b, b < s₂.heap.objs.size → b ≠ s₂.heap.objs.size ∧ b ≠ H1.objs.size ∧ b ≠ H1.objs.size + 1 := fun b hb => ⟨Nat.ne_of_lt hb, by rw [s1]; exact Nat.ne_of_lt (Nat.lt_succ_of_lt hb), by rw [s1]; exact Nat.ne_of_lt (Nat.lt_succ_of_lt (Nat.lt_succ_of_lt hb))⟩
  have hDC : s₂.heap.objs.size ≠ H1.objs.size := by rw [s1]; exact Nat.ne_of_lt (Nat.lt_succ_self _)
  have hDc : s₂.heap.objs.size ≠ H1.objs.size + 1 := by rw [s1]; exact Nat.ne_of_lt (Nat.lt_succ_of_lt (Nat.lt_succ_self _))
  have hCc : H1.objs.size ≠ H1.objs.size + 1 := Nat.ne_of_lt (Nat.lt_succ_self _)
  have hD₀ := fresh₀ s₂.heap.objs.size (Nat.le_refl _)
  have hC₀ := fresh₀ H1.objs.size (by rw [s1]; exact Nat.le_succ _)
  have hc₀ := fresh₀ (H1.objs.size + 1) (by rw [s1]; exact Nat.le_succ_of_le (Nat.le_succ _))
  have hne : ax ≠ I := hIn _ hm
  have W := Walks.list (prog := prog) (w := w) hh I ax hne l.toArray
  have sz : l.toArray.size = l.length := by simp
  have loop : ∀ s₃ : Shared, s₃ = { s₂ with heap := H3 } → codeAny (model prog w) A (.compLoop (.ListComp elt [⟨.Name x px, iter, [], 0⟩] scope pos) 0 (.ref I) (.ref s₂.heap.objs.size) (compEnvC scope [(x, H1.objs.size + 1)] H1.objs.size env)) (RR (.ref s₂.heap.objs.size) H1.objs.size) s₃ := by
    rintro s₃ rfl
    refine codeAny_compLoop_tests
      (fun k s' => BlkInv prog w A h₀ L m env elt x scope s₂ ax l e Fin I H1.objs.size s₂.heap.objs.size (H1.objs.size + 1) k s') ?_ (l.length + 1)
      ⟨H3, _, 0, [], { cls := .type "cell", data := .cell none }, none, news, rfl, Nat.zero_le _, rfl, rfl, ?_, F.keeps up, fun p hp => ?_, rfl, fun p hp => ⟨hIn p hp, (ltD _ (Heap.lt_size (N p hp).1)).2.1, (ltD _ (Heap.lt_size (N p hp).1)).1, (ltD _ (Heap.lt_size (N p hp).1)).2.2⟩, hm, R⟩
    · rintro k s' ⟨h', tk, i, ys, oc, v₀, news', rfl, hi, rfl, hyl, hit, F', N', hoc, off', hm', R'⟩
      have off4 := off'
      have hL' : h'.IsList ax l.toArray := ⟨_, (N' _ (List.mem_cons_of_mem _ (List.mem_cons_of_mem _ (List.mem_cons_of_mem _ hm')))).1, rfl, e, rfl⟩
      by_cases hlt : i < l.length
      · obtain ⟨j, hj⟩ : ∃ j, l.length - i = j + 1 := ⟨l.length - i - 1, by omega⟩
        rw [hj] at R'
        refine W.item i _ _ _ (by rw [sz]; exact hlt) ⟨hit, hL'⟩ fun v h₂ tk₂ hPv hst₂ hk₂ => ?_
        have keep2 : ∀ p ∈ (H1.objs.size, dct0) :: (s₂.heap.objs.size, lst ys) :: (H1.objs.size + 1, oc) :: news', h₂.get? p.1 = some p.2 := fun p hp => by
          refine hk₂ _ _ ?_ (N' p hp).1
          intro hI'
          have hI2 := List.mem_singleton.mp hI'
          rcases List.mem_cons.mp hp with rfl | hp
          · exact (ltD I hIlt).2.1 hI2.symm
          rcases List.mem_cons.mp hp with rfl | hp
          · exact (ltD I hIlt).1 hI2.symm
          rcases List.mem_cons.mp hp with rfl | hp
          · exact (ltD I hIlt).2.2 hI2.symm
          · exact (off' p hp).1 hI2
        have hcell : h₂.IsCell (H1.objs.size + 1) v₀ := ⟨oc, keep2 _ (List.mem_cons_of_mem _ (List.mem_cons_of_mem _ (List.mem_cons_self ..))), hoc⟩
        refine wpAny_assign_Name (wpAny_storeName_cell (c := H1.objs.size + 1) hkind hxc (by simp [compEnvC]) hcell fun h₃ hc₃ hs₃ => ?_)
        refine wpAny_tests_nil ?_
        simp only [if_true]
        obtain ⟨oc₃, gc₃, dc₃⟩ := hc₃
        have F₃ : Fr h₀ L h₃ m := (fr_but F' hk₂ hIL hI₀).change hs₃ (ltD L hLlt).2.2.symm hc₀
        have it₃ : h₃.IsListIter I ax (i + 1) := by
          obtain ⟨o, q, r⟩ := hst₂.1
          exact ⟨o, hs₃.extBut _ _ (ltD I hIlt).2.2 q, r⟩
        obtain ⟨oI, heI, _⟩ := id it₃
        have N₃ : News h₀ L h₃ ((I, oI) :: (H1.objs.size, dct0) :: (s₂.heap.objs.size, lst ys) :: (H1.objs.size + 1, oc₃) :: news') := fun p hp => by
          rcases List.mem_cons.mp hp with rfl | hp
          · exact ⟨heI, hIL.symm, hI₀⟩
          rcases List.mem_cons.mp hp with rfl | hp
          · exact ⟨hs₃.extBut _ _ hCc (keep2 _ (List.mem_cons_self ..)), (ltD L hLlt).2.1.symm, hC₀⟩
          rcases List.mem_cons.mp hp with rfl | hp
          · exact ⟨hs₃.extBut _ _ hDc (keep2 _ (List.mem_cons_of_mem _ (List.mem_cons_self ..))), (ltD L hLlt).1.symm, hD₀⟩
          rcases List.mem_cons.mp hp with rfl | hp
          · exact ⟨gc₃, (ltD L hLlt).2.2.symm, hc₀⟩
          · have hp' := List.mem_cons_of_mem (H1.objs.size, dct0) (List.mem_cons_of_mem (s₂.heap.objs.size, lst ys) (List.mem_cons_of_mem (H1.objs.size + 1, oc) hp))
            exact ⟨hs₃.extBut _ _ (off' p hp).2.2.2 (keep2 p hp'), (N' p hp').2⟩
        have hv : l[i]? = some v := by simpa using hPv
        refine wpAny_mono (R' v I oI H1.objs.size s₂.heap.objs.size (H1.objs.size + 1) oc₃ h₃ _ _ hv dc₃ F₃ N₃ off') (fun y s₄ h₄ => ?_) fun _ _ q => q
        obtain ⟨h₄, tk₄, news₄, rfl, F₄, N₄, off₄, hm₄, R₄⟩ := h₄
        have zI := (N₄ (I, oI) List.mem_cons_self).1
        have zD := (N₄ (s₂.heap.objs.size, lst ys) (List.mem_cons_of_mem _ (List.mem_cons_of_mem _ List.mem_cons_self))).1
        refine append_at (hsz := by show ys.toArray.size ≤ sizeLine; rw [List.size_toArray, hyl]; exact Nat.le_trans hi hz) zD fun h₅ hs₅ hD₅ => ?_
        refine ⟨l.length + 1 - (i + 1), by omega, h₅, tk₄, i + 1, ys ++ [y], oc₃, some v, news₄, rfl, hlt, rfl, by rw [List.length_append, List.length_singleton, hyl], ?_, F₄.change hs₅ (ltD L hLlt).1.symm hD₀, fun p hp => ?_, dc₃, off₄, hm₄, ?_⟩
        · obtain ⟨o, q, r⟩ := it₃
          rw [heI] at q
          cases q
          exact ⟨oI, hs₅.extBut _ _ (ltD I hIlt).1 zI, r⟩
        · rcases List.mem_cons.mp hp with rfl | hp
          · exact ⟨hs₅.extBut _ _ hDC.symm (N₄ _ (List.mem_cons_of_mem _ (List.mem_cons_self ..))).1, (ltD L hLlt).2.1.symm, hC₀⟩
          rcases List.mem_cons.mp hp with rfl | hp
          · exact ⟨hD₅.trans (congrArg some (lst_snoc ys y)), (ltD L hLlt).1.symm, hD₀⟩
          rcases List.mem_cons.mp hp with rfl | hp
          · exact ⟨hs₅.extBut _ _ hDc.symm (N₄ _ (List.mem_cons_of_mem _ (List.mem_cons_of_mem _ (List.mem_cons_of_mem _ (List.mem_cons_self ..))))).1, (ltD L hLlt).2.2.symm, hc₀⟩
          · have z := N₄ p (List.mem_cons_of_mem _ (List.mem_cons_of_mem _ (List.mem_cons_of_mem _ (List.mem_cons_of_mem _ hp))))
            exact ⟨hs₅.extBut _ _ (off₄ p hp).2.2.1 z.1, z.2⟩
        · rw [show l.length - (i + 1) = j by omega]
          exact R₄
      · obtain rfl : i = l.length := Nat.le_antisymm hi (Nat.not_lt.mp hlt)
        rw [Nat.sub_self] at R'
        refine W.done _ _ _ ⟨by rw [sz]; exact hit, hL'⟩ fun h₂ tk₂ hk₂ => ?_
        have N₂ := news_but N' hk₂ fun p hp => by
          rcases List.mem_cons.mp hp with rfl | hp
          · exact (ltD I hIlt).2.1.symm
          rcases List.mem_cons.mp hp with rfl | hp
          · exact (ltD I hIlt).1.symm
          rcases List.mem_cons.mp hp with rfl | hp
          · exact (ltD I hIlt).2.2.symm
          · exact (off' p hp).1
        refine hRR _ _ h₂ tk₂ (fun _ => none) ys news' (fr_but F' hk₂ hIL hI₀) (fun p hp => N₂ p ?_) (fun p hp => (off' p hp).2.2.1) ⟨dct0, #[], 0, (N₂ _ (List.mem_cons_self ..)).1, rfl, ?_, ?_⟩ hC₀ (ltD L hLlt).2.1.symm hDC.symm (fun p hp => (off' p hp).2.1) R'
        · rcases List.mem_cons.mp hp with rfl | hp
          · exact List.mem_cons_of_mem _ (List.mem_cons_self ..)
          · exact List.mem_cons_of_mem _ (List.mem_cons_of_mem _ (List.mem_cons_of_mem _ hp))
        · intro i hi; simp at hi
        · intro name; rfl
    · obtain ⟨o, q, r⟩ := hI
      exact ⟨o, up _ _ q, r⟩
    · rcases List.mem_cons.mp hp with rfl | hp
      · exact ⟨gC, (ltD L hLlt).2.1.symm, hC₀⟩
      rcases List.mem_cons.mp hp with rfl | hp
      · exact ⟨gD, (ltD L hLlt).1.symm, hD₀⟩
      rcases List.mem_cons.mp hp with rfl | hp
      · exact ⟨gc, (ltD L hLlt).2.2.symm, hc₀⟩
      · exact ⟨up _ _ (N p hp).1, (N p hp).2⟩
  have fin := codeAny_compStart_list (loop _ rfl) (W.self 0 _ _ _ ⟨by obtain ⟨o, q, r⟩ := hI; exact ⟨o, up _ _ q, r⟩, ⟨_, up _ _ (N _ hm).1, rfl, e, rfl⟩⟩ (loop _ rfl))
  exact fin
theorem Assign_comp_cell {elt iter : Expr} {x y : Str} {px py : Pos} {scope : Scope} {pos spos : Pos} {Q : Flow → Shared → Prop} (hLe : env.locals = L)
    (hsw : swapsWith (.ListComp elt [⟨.Name x px, iter, [], 0⟩] scope pos) (some (.Name y py)) spos.line env = pure true)
    (hclos : closureFor scope env = pure []) (hcf : ∀ n, cellsFrom n scope.names [] = [(x, n)]) (hpc : ∀ h, pushCells h scope.names = h.push { cls := .type "cell", data := .cell none }) (hkind : scope.kind = .function) (hxc : (relabel scope env).names.lookup x = some .cell)
    (hnames : ∀ z ∈ scope.names, z.2 = .local → scope.names.lookup z.1 = some .local)
    (hy : env.kindOf y = some .local) (hp : (env.scope.kind == .class || (env.scope.kind == .module && env.locals != env.globals)) = false)
    (h : wpAny (model prog w) A (eval iter env) (fun xv s₁ => ∃ ax l e news, xv = .ref ax ∧ A.handled = none ∧ Fr h₀ L s₁.heap m ∧ News h₀ L s₁.heap news ∧ (ax, listOf l.toArray e) ∈ news ∧ l.length ≤ sizeLine ∧
      ∀ s₂ : Shared, (∃ g, s₂ = { s₁ with heap := g }) → CellRest prog w A h₀ L m env elt x scope s₂ ax l e (fun ys nw => ∀ D h tk, Fr h₀ L h (fun z => if z = y then some (.ref D) else m z) → News h₀ L h ((D, LCg.lst ys) :: nw) → (∀ p ∈ nw, p.1 ≠ D) → Q .next { s₂ with heap := h, toks := tk }) l.length 0 [] news) E s)
    (hs : ∀ x, foldedSetIterable iter env x = pure x := by intro _; rfl) :
    wpAny (model prog w) A (exec (.Assign [.Name y py] (.ListComp elt [⟨.Name x px, iter, [], 0⟩] scope pos) spos) env) Q E s := by
  subst hLe
  rw [exec_Assign_Name_used _ _ _ _ hsw]
  refine wpAny_bind (wpAny_standAt (wpAny_bind ?_))
  show wpAny _ A (do let _ ← comprehension (.ListComp elt [⟨.Name x px, iter, [], 0⟩] scope pos) scope env _ (newList []) false (eval iter env) (some (assign (.Name y py) env))) _ _ s
  refine wpAny_bind (wpAny_mono (wpAny_comprehension_free (use := some (assign (.Name y py) env)) (Q := fun _ s' => Q .next s') rfl hs hclos hkind hnames
    (wpAny_mono h (fun xv s₁ h₁ => ?_) fun _ _ e => e)) (fun _ s' hq => wpAny_pure (wpAny_pure hq)) fun _ _ e => e)
  obtain ⟨ax, l, e, news, rfl, hh, F, N, hm, hz, R⟩ := h₁
  have hl : s₁.heap.IsList ax l.toArray := ⟨_, (N _ hm).1, rfl, e, rfl⟩
  have hlt : ax < s₁.heap.objs.size := Heap.lt_size (N _ hm).1
  refine wpAny_pyIter_list hl ?_
  have up : ∀ b o, s₁.heap.get? b = some o → (s₁.heap.push { cls := .type "list_iterator", data := .fields #[.ref ax, .int 0 0] }).get? b = some o := fun b o e => Heap.get?_push_of_some _ e
  refine block_C hh hz hcf hpc hkind hxc (F.keeps up) (N.grown up) hm ⟨_, Heap.get?_push_size _ rfl, rfl, rfl⟩ (fun p hp => Nat.ne_of_lt (Heap.lt_size (N p hp).1)) (Nat.ne_of_lt F.ns.lt) (next_is_new F) (R _ ⟨_, rfl⟩) ?_
  intro D C h' tk m' ys news' F' N' oD hn hC₀ hCL hCD offC fin
  show wpAny _ A (assign (.Name y py) env (.ref D)) _ _ _
  refine wpAny_assign_Name (wpAny_storeName_local hy F'.ns (fun h₂ hn₂ hs₂ => ?_) hp)
  have hL₀ : h₀.get? env.locals = none := Heap.get?_none_of_le F'.above
  have F₂ : Fr h₀ env.locals h₂ (fun z => if z = y then some (.ref D) else m z) := ⟨hn₂, fun b o e => hs₂.extBut b o (fun q => by rw [q, hL₀] at e; cases e) (F'.keep b o e), F'.above⟩
  refine ⟨m', hn.sameBut hs₂ hCL, fun h'' hs'' => fin D h'' _ (F₂.change hs'' hCL hC₀) (fun p hp => ?_) oD⟩
  have z : h₂.get? p.1 = some p.2 := hs₂.extBut _ _ (N' p hp).2.1 (N' p hp).1
  refine ⟨hs''.extBut _ _ ?_ z, (N' p hp).2⟩
  rcases List.mem_cons.mp hp with rfl | hp
  · exact hCD.symm
  · exact offC p hp
end
end
section
theorem top_off_V20 : True := by
  w_top off
  trivial
section
noncomputable def namesStmt : Stmt := match lawStmts with | _ :: _ :: x :: _ => x | _ => .Pass ⟨0, 0, 0, 0⟩
noncomputable def outerComp : Expr := match namesStmt with | .Assign _ e _ => e | _ => .Constant .none 0 ⟨0, 0, 0, 0⟩
noncomputable def outerScope : Scope := match outerComp with | .ListComp _ _ s _ => s | _ => { kind := .module, names := [], isGenerator := false, isCoroutine := false, more := [] }
noncomputable def innerComp : Expr := match outerComp with | .ListComp e _ _ _ => e | _ => .Constant .none 0 ⟨0, 0, 0, 0⟩
set_option maxRecDepth 100000 in
set_option maxHeartbeats 8000000 in
theorem n_refs {w : World} {mean : ExcName → Option Value} {mg mb : Str → Option Value} {fa : Addr} {cd : Value} {base h₀ : Heap} {L : Addr} {m : Str → Option Value} {s : Shared} {Q : Value → Shared → Prop} {E : Value → Shared → Prop} {sc : Scope} {ex : Expr} (hsc : lawScope = sc) (B : Below callerA base [] h₀) (X : (hd.heap_1 w.params).In h₀) (T : Top lawView Loose mean mg mb h₀) {os : Scope} (hos : outerScope = os) (hex : innerComp = ex) {c C : Addr} (F : Fr h₀ L s.heap m) {K Fx : FX} {H : HR} {oc : Obj} (N : News h₀ L s.heap K) (hH : HolOk w Fx H) (hF : ∀ p ∈ Fx, p ∈ K) (mc : (c, oc) ∈ K) (dc : oc.data = .cell (some (.ref H.x)))
    (done : ∀ h' tk D n r0 r1 r2 (fx : FX), Fr h₀ L h' m → News h₀ L h' ((D, listOf [r0, r1, r2].toArray n) :: (fx ++ K)) → (∀ p ∈ fx, ∀ q ∈ K, q.1 ≠ p.1) → (∀ q ∈ K, q.1 ≠ D) → RefOk w fx H.kd H.x 0 r0 → RefOk w fx H.kd H.x 1 r1 → RefOk w fx H.kd H.x 2 r2 → Q (.ref D) { s with heap := h', toks := tk }) :
    wpAny (model PW w) (callerA.deeper (envOfC "law" sc L fa cd)) (eval ex (compEnvC os [("holder", c)] C (envOfC "law" sc L fa cd))) Q E s := by
  have hS2 : Stop 2 := .mk
  conv at hsc => lhs; whnf
  conv at hos => lhs; whnf
  conv at hex => lhs; whnf
  subst hsc hos hex
  refine LCg.ListComp_U (F₀ := F) (by with_unfolding_all rfl) (by decide) (by rfl) (by decide) (by rfl) ?_
  k_steps
  refine Hold.in ?_
  rename IsRange _ _ _ _ _ _ _ _ => rg
  rename Fr _ _ _ _ => F2
  rename News _ _ _ _ => N2
  refine LCg.CompSrc.range (n := 3) rfl F2 N2 rg (by decide) (by rfl) (by decide) ?_
  clear F2 N2 rg
  intro g2
  refine LCg.CompRest.succ ?_
  intro v0 I0 oI0 C0 oC0 D0 m0 h0 tk0 E0 hv0 hC0 hx0 F0 N0 off0 ne0
  obtain ⟨tv0, rfl⟩ := hv0
  k_steps
  refine Hold.in ?_
  refine' TellU.use (u_ref (ro := (I0, oI0) :: (C0, oC0) :: (D0, LCg.lst []) :: K) hH (by decide) (by decide) (fun p hp => List.mem_cons_of_mem _ (List.mem_cons_of_mem _ (List.mem_cons_of_mem _ (hF p hp))))) ?p1 ?p2 ?p3 ?p4 ?p5 ?p6 ?p7 N0 ?_
  case p1 => ktr_room
  case p2 => exact Nat.le_of_ble_eq_true rfl
  case p3 => k_asm
  case p4 => k_asm
  case p5 => k_asm
  case p6 => k_asm
  case p7 => first | exact rfl | assumption
  intro r0 g0 tg0 Fg0 k0 P0
  obtain ⟨x0, d0, o0, rfl, fx0, i0, fd0⟩ := P0
  refine comp_end F0 Fg0 N0 k0 off0 [(x0, instObj 117 d0), (d0, o0)] (by intro p hp; rcases List.mem_cons.mp hp with rfl | hp; (· exact fx0); (· rw [List.mem_singleton.mp hp]; exact fd0)) trivial (fun sep0 => ?_)
  clear k0 fx0 fd0 N0 F0 Fg0 off0 hx0 hC0 ne0
  obtain ⟨K1, eK1⟩ : ∃ K', K' = [(x0, instObj 117 d0), (d0, o0)] ++ K := ⟨_, rfl⟩
  rw [← eK1]
  have hK1 : ∀ p ∈ K, p ∈ K1 := fun p hp => by rw [eK1]; exact List.mem_append_right _ (hp)
  have mc1 := hK1 _ mc
  refine LCg.CompRest.succ ?_
  intro v1 I1 oI1 C1 oC1 D1 m1 h1 tk1 E1 hv1 hC1 hx1 F1 N1 off1 ne1
  obtain ⟨tv1, rfl⟩ := hv1
  k_steps
  refine Hold.in ?_
  refine' TellU.use (u_ref (ro := (I1, oI1) :: (C1, oC1) :: (D1, LCg.lst ([] ++ [Value.ref x0])) :: K1) hH (by decide) (by decide) (fun p hp => List.mem_cons_of_mem _ (List.mem_cons_of_mem _ (List.mem_cons_of_mem _ (hK1 p (hF p hp)))))) ?p1 ?p2 ?p3 ?p4 ?p5 ?p6 ?p7 N1 ?_
  case p1 => ktr_room
  case p2 => exact Nat.le_of_ble_eq_true rfl
  case p3 => k_asm
  case p4 => k_asm
  case p5 => k_asm
  case p6 => k_asm
  case p7 => first | exact rfl | assumption
  intro r1 g1 tg1 Fg1 k1 P1
  obtain ⟨x1, d1, o1, rfl, fx1, i1, fd1⟩ := P1
  refine comp_end F1 Fg1 N1 k1 off1 [(x1, instObj 117 d1), (d1, o1)] (by intro p hp; rcases List.mem_cons.mp hp with rfl | hp; (· exact fx1); (· rw [List.mem_singleton.mp hp]; exact fd1)) trivial (fun sep1 => ?_)
  clear k1 fx1 fd1 N1 F1 Fg1 off1 hx1 hC1 ne1
  obtain ⟨K2, eK2⟩ : ∃ K', K' = [(x1, instObj 117 d1), (d1, o1)] ++ K1 := ⟨_, rfl⟩
  rw [← eK2]
  have hK2 : ∀ p ∈ K, p ∈ K2 := fun p hp => by rw [eK2]; exact List.mem_append_right _ (hK1 p hp)
  have mc2 := hK2 _ mc
  refine LCg.CompRest.succ ?_
  intro v2 I2 oI2 C2 oC2 D2 m2 h2 tk2 E2 hv2 hC2 hx2 F2 N2 off2 ne2
  obtain ⟨tv2, rfl⟩ := hv2
  k_steps
  refine Hold.in ?_
  refine' TellU.use (u_ref (ro := (I2, oI2) :: (C2, oC2) :: (D2, LCg.lst ([] ++ [Value.ref x0] ++ [Value.ref x1])) :: K2) hH (by decide) (by decide) (fun p hp => List.mem_cons_of_mem _ (List.mem_cons_of_mem _ (List.mem_cons_of_mem _ (hK2 p (hF p hp)))))) ?p1 ?p2 ?p3 ?p4 ?p5 ?p6 ?p7 N2 ?_
  case p1 => ktr_room
  case p2 => exact Nat.le_of_ble_eq_true rfl
  case p3 => k_asm
  case p4 => k_asm
  case p5 => k_asm
  case p6 => k_asm
  case p7 => first | exact rfl | assumption
  intro r2 g2 tg2 Fg2 k2 P2
  obtain ⟨x2, d2, o2, rfl, fx2, i2, fd2⟩ := P2
  refine comp_end F2 Fg2 N2 k2 off2 [(x2, instObj 117 d2), (d2, o2)] (by intro p hp; rcases List.mem_cons.mp hp with rfl | hp; (· exact fx2); (· rw [List.mem_singleton.mp hp]; exact fd2)) trivial (fun sep2 => ?_)
  clear k2 fx2 fd2 N2 F2 Fg2 off2 hx2 hC2 ne2
  obtain ⟨K3, eK3⟩ : ∃ K', K' = [(x2, instObj 117 d2), (d2, o2)] ++ K2 := ⟨_, rfl⟩
  rw [← eK3]
  have hK3 : ∀ p ∈ K, p ∈ K3 := fun p hp => by rw [eK3]; exact List.mem_append_right _ (hK2 p hp)
  refine LCg.CompRest.zero ?_
  intro D9 h9 tk9 F9 N9 o9
  have oK := off1_mem o9
  subst eK3 eK2 eK1
  refine done h9 tk9 D9 3 (.ref x0) (.ref x1) (.ref x2) ([(x2, instObj 117 d2), (d2, o2)] ++ ([(x1, instObj 117 d1), (d1, o1)] ++ [(x0, instObj 117 d0), (d0, o0)])) F9 N9 (fun p hp q hq => ?_) (fun q hq => oK q (hK3 _ hq)) ⟨x0, d0, o0, rfl, ?_, ?_, i0⟩ ⟨x1, d1, o1, rfl, ?_, ?_, i1⟩ ⟨x2, d2, o2, rfl, ?_, ?_, i2⟩
  · rcases List.mem_append.mp hp with hp | hp
    · exact sep2 p hp q (hK2 _ hq)
    rcases List.mem_append.mp hp with hp | hp
    · exact sep1 p hp q (hK1 _ hq)
    · exact sep0 p hp q hq
  all_goals simp
end
end
section
theorem top_off_Hrn_tbl : True := by
  w_top off
  trivial
inductive RefN (w : World) (x ed pd b : Addr) (j : Int) (xs ys : List (List Mix × Addr × Value)) (rs : List Value) (h : Heap) (r : Value) (h' : Heap) : Prop
  | mk (x' d' : Addr) (o1 : Obj) (t q : Addr) (ot oq : Obj) (u : Tok) (ex' ey' er' : Nat) (u1 u2 u3 u4 : Tok) (e : r = .ref x') (fx : Fresh h h' x' (instObj 117 d')) (i : IsName w "item" x j o1) (fd : Fresh h h' d' o1) (it : IsTp [.str "INTEGER" u1, .int (j + 1) u2] ot) (ft : Fresh h h' t ot) (iq : IsLst [.int (j + 1) u3, .str "" u4] oq) (fq : Fresh h h' q oq) (ge : h'.get? ed = some (tdOf PW w (xs ++ [(markK (j + 1), t, Value.ref q)]) ex')) (gp : h'.get? pd = some (tdOf PW w (ys ++ [(markK (j + 1), t, Value.int j u)]) ey')) (gb : h'.get? b = some (listOf (rs ++ [Value.ref q]).toArray er'))
section
variable {w : World}
set_option maxRecDepth 100000 in
set_option maxHeartbeats 8000000 in
theorem t_ref_tbln {x d b ed pd : Addr} {j num : Int} {tj : Tok} {o2 : Obj} (h0 : 0 ≤ j) (h1 : j < 3) {xs ys : List (List Mix × Addr × Value)} {ex ey er : Nat} {rs : List Value} (hx : atKey xs (markK (j + 1)) = none) (hy : atKey ys (markK (j + 1)) = none) (zx : xs.length < 50) (zy : ys.length < 50) (zr : (rs.length : Int) = j) {ro : List (Addr × Obj)} (m3 : (x, instObj 227 d) ∈ ro) (i2 : IsTab w num ed pd b o2) (m4 : (d, o2) ∈ ro) (kx : KeysOk ro xs) (ky : KeysOk ro ys)
    (n1 : ed ≠ pd) (n2 : ed ≠ b) (n3 : pd ≠ b) (r1 : ∀ p ∈ ro, p.1 ≠ ed) (r2 : ∀ p ∈ ro, p.1 ≠ pd) (r3 : ∀ p ∈ ro, p.1 ≠ b) :
    TellU w 408 [.ref x, .int j tj] [(ed, tdOf PW w xs ex), (pd, tdOf PW w ys ey), (b, listOf rs.toArray er)] ro (fun h r h' => RefN w x ed pd b j xs ys rs h r h') := by
  obtain ⟨_, _, rfl⟩ := i2
  walk_at "t_start"
  k_steps
  refine Hold.in ?_
  rename News _ _ _ _ => N9
  refine' TellD.use t_key ?p1 ?p2 ?p3 ?p4 ?p5 ?p6 ?p7 (fun p hp => nomatch hp) ?_
  case p1 => ktr_room
  case p2 => ktr_units
  case p3 => k_asm
  case p4 => k_asm
  case p5 => k_asm
  case p6 => k_asm
  case p7 => first | exact rfl | assumption
  intro qk1 hk1 tkk1 Fk1 kk1 Pk1
  obtain ⟨tk1, ok1, ua1, ub1, hqk1, ⟨ek1, hok1⟩, ft1⟩ := Pk1
  subst hqk1 hok1
  have off1 : tk1 ∉ ((ed, tdOf PW w xs ex) :: (pd, tdOf PW w ys ey) :: (b, listOf rs.toArray er) :: ro).map (·.1) := off_news N9 ft1 (by walk_at "t_ro")
  have e1 : tk1 ≠ ed := fun h => off1 (by rw [h]; exact List.mem_cons_self ..)
  have e2 : tk1 ≠ pd := fun h => off1 (by rw [h]; exact List.mem_cons_of_mem _ (List.mem_cons_self ..))
  have e3 : tk1 ≠ b := fun h => off1 (by rw [h]; exact List.mem_cons_of_mem _ (List.mem_cons_of_mem _ (List.mem_cons_self ..)))
  have Nk1 := fresh_news (by assumption) (News.grown N9 (fun b o e => kk1 b o e (fun h => nomatch h))) ft1
  clear N9 kk1
  k_steps
  refine Hold.in ?_
  rename News _ _ _ _ => N9
  obtain ⟨q0, t0, hq0, ht0⟩ := name2 N9
  dsimp only at hq0 ht0
  subst hq0
  have N8 := pull4x3 N9
  clear N9
  refine' TellD.use (t_put (n := j + 1) (xs := xs) (ys := ys) (rs := rs) hx hy zx zy (by omega) ?mx isTab_of ?md ?mt ?kX ?kY n1 n2 n3 ?r1 ?r2 ?r3) ?p1 ?p2 ?p3 ?p4 ?p5 ?p6 ?p7 N8 ?_
  case p1 => ktr_room
  case p2 => ktr_units
  case p3 => k_asm
  case p4 => k_asm
  case p5 => k_asm
  case p6 => k_asm
  case p7 => first | exact rfl | assumption
  case mx => walk_at "t_mem"
  case md => walk_at "t_mem"
  case mt => walk_at "t_mem"
  case kX => exact kx.mono (by walk_at "t_ro")
  case kY => exact ky.mono (by walk_at "t_ro")
  case r1 => (simp only [List.mem_cons, forall_eq_or_imp]; refine ⟨?_, ?_, ?_, ?_, r1⟩ <;> walk_at "t_ne")
  case r2 => (simp only [List.mem_cons, forall_eq_or_imp]; refine ⟨?_, ?_, ?_, ?_, r2⟩ <;> walk_at "t_ne")
  case r3 => (simp only [List.mem_cons, forall_eq_or_imp]; refine ⟨?_, ?_, ?_, ?_, r3⟩ <;> walk_at "t_ne")
  intro rT hT tkT FT kT PT
  obtain ⟨ex2, ey2, er2, u9, g1, g2, g3⟩ := PT
  rw [zr] at g2
  have N2 := three_after N8 kT (by simp only [List.mem_cons, forall_eq_or_imp]; refine ⟨?_, ?_, ?_, ?_, r1⟩ <;> walk_at "t_ne") (by simp only [List.mem_cons, forall_eq_or_imp]; refine ⟨?_, ?_, ?_, ?_, r2⟩ <;> walk_at "t_ne") (by simp only [List.mem_cons, forall_eq_or_imp]; refine ⟨?_, ?_, ?_, ?_, r3⟩ <;> walk_at "t_ne") g1 g2 g3
  clear N8 kT
  obtain ⟨aX, aY, kX, kY⟩ := last_of N2 hx hy (kx.mono (by walk_at "t_ro")) (ky.mono (by walk_at "t_ro")) (List.mem_cons_of_mem _ (List.mem_cons_self ..))
  k_steps
  refine Hold.in ?_
  rename News _ _ _ _ => N9
  refine' TellD.use t_key ?p1 ?p2 ?p3 ?p4 ?p5 ?p6 ?p7 (fun p hp => nomatch hp) ?_
  case p1 => ktr_room
  case p2 => ktr_units
  case p3 => k_asm
  case p4 => k_asm
  case p5 => k_asm
  case p6 => k_asm
  case p7 => first | exact rfl | assumption
  intro qk2 hk2 tkk2 Fk2 kk2 Pk2
  obtain ⟨tk2, ok2, ua2, ub2, hqk2, ⟨ek2, hok2⟩, ft2⟩ := Pk2
  subst hqk2 hok2
  have Nk2 := fresh_news (by assumption) (News.grown N9 (fun b o e => kk2 b o e (fun h => nomatch h))) ft2
  clear N9 kk2
  k_steps
  rename News _ _ _ _ => N7
  obtain ⟨x0, d0, hx0, hd0⟩ := name2 N7
  dsimp only at hx0 hd0
  subst hx0 hd0
  have hxd : @LT.lt Nat instLTNat d0 x0 := by assumption
  clear N7
  refine hret _ _ _ _ _ _ _ (by k_asm) (by assumption) (by k_asm) (by k_asm) (by walk_at "t_ro") ?_
  refine ⟨x0, d0, _, tk1, q0, _, _, u9, _, _, _, _, _, _, _, rfl, fresh_of (by assumption) (by assumption) (by walk_at "t_mem") ?a1, isName_of rfl, fresh_of (by assumption) (by assumption) (by walk_at "t_mem") ?a2, ⟨_, rfl⟩, fresh_of (by assumption) (by assumption) (by walk_at "t_mem") ?a3, ⟨_, rfl⟩, fresh_of (by assumption) (by assumption) (by walk_at "t_mem") ?a4, by walk_at "t_at", by walk_at "t_at", by walk_at "t_at"⟩
  case a1 => exact off_tp (lt_tr hxd (by walk_at "t_lt")) (lt_tr hxd (by walk_at "t_lt")) (lt_tr hxd (by walk_at "t_lt")) (fun p hp => lt_tr hxd (allLt_mem (by walk_at "t_all") p hp))
  case a2 => exact off_tp (by walk_at "t_lt") (by walk_at "t_lt") (by walk_at "t_lt") (fun p hp => allLt_mem (by walk_at "t_all") p hp)
  case a3 => exact off1
  case a4 => exact off_tp (by walk_at "t_lt") (by walk_at "t_lt") (by walk_at "t_lt") (fun p hp => allLt_mem (by walk_at "t_all") p hp)
end
end
section
theorem tbl_pull {h₀ h : Heap} {L : Addr} {i c d a b e : Addr × Obj} {K : FX} (N : News h₀ L h (i :: c :: d :: a :: b :: e :: K)) : News h₀ L h ([a, b, e] ++ (i :: c :: d :: K)) := fun p hp => N p (sb_use hp (by walk_at "t_sub"))
open LCg in
theorem tbl_end {h₀ h0 h1 : Heap} {L I C D ed pd b : Addr} {m : Str → Option Value} {s₁ : Shared} {oI oC oD oe op ob oe' op' ob' : Obj} {rest : Value → List (Addr × Obj) → Prop} {y : Value} {tk : Nat} {K new : FX}
    (F0 : Fr h₀ L h0 m) (F1 : Fr h₀ L h1 m) (N0 : News h₀ L h0 ((I, oI) :: (C, oC) :: (D, oD) :: (ed, oe) :: (pd, op) :: (b, ob) :: K)) (k : GSub h0 h1 [ed, pd, b]) (off : Off3 I C D ((ed, oe) :: (pd, op) :: (b, ob) :: K)) (r1 : ∀ p ∈ K, p.1 ≠ ed) (r2 : ∀ p ∈ K, p.1 ≠ pd) (r3 : ∀ p ∈ K, p.1 ≠ b)
    (g1 : h1.get? ed = some oe') (g2 : h1.get? pd = some op') (g3 : h1.get? b = some ob') (hf : ∀ p ∈ new, Fresh h0 h1 p.1 p.2) (R : (∀ p ∈ new, ∀ q ∈ (ed, oe) :: (pd, op) :: (b, ob) :: K, q.1 ≠ p.1) → rest y ((ed, oe') :: (pd, op') :: (b, ob') :: (new ++ K))) :
    CompEnd h₀ L m s₁ I oI C oC D oD (fun _ => True) rest y { s₁ with heap := h1, toks := tk } := by
  obtain ⟨⟨a1, a2, a3⟩, ⟨b1, b2, b3⟩, ⟨c1, c2, c3⟩, off'⟩ := off
  have NP := tbl_pull N0
  have N1 := three_after NP k (ne_cons (Ne.symm a1) (ne_cons (Ne.symm a2) (ne_cons (Ne.symm a3) r1))) (ne_cons (Ne.symm b1) (ne_cons (Ne.symm b2) (ne_cons (Ne.symm b3) r2))) (ne_cons (Ne.symm c1) (ne_cons (Ne.symm c2) (ne_cons (Ne.symm c3) r3))) g1 g2 g3
  have NF := after_call (news := []) F0 (fun _ h => nomatch h) k (fun _ h => nomatch h) hf
  have sep : ∀ p ∈ new, ∀ q ∈ (I, oI) :: (C, oC) :: (D, oD) :: (ed, oe) :: (pd, op) :: (b, ob) :: K, q.1 ≠ p.1 := fun p hp q hq => (fresh_ne (hf p hp) (N0 q hq).1).symm
  have m3 : ∀ {p : Addr × Obj} {M : FX} {x y z : Addr × Obj}, p ∈ M → p ∈ x :: y :: z :: M := fun h => List.mem_cons_of_mem _ (List.mem_cons_of_mem _ (List.mem_cons_of_mem _ h))
  refine CompEnd.intro (all := (ed, oe') :: (pd, op') :: (b, ob') :: (I, oI) :: (C, oC) :: (D, oD) :: K ++ (new ++ [])) F1 (fun p hp => ?_) ((ed, oe') :: (pd, op') :: (b, ob') :: (new ++ K)) (fun p hp => ?_) ⟨⟨a1, a2, a3⟩, ⟨b1, b2, b3⟩, ⟨c1, c2, c3⟩, Off3.of fun p hp => ?_⟩ trivial (R fun p hp q hq => sep p hp q (m3 hq))
  · rcases List.mem_append.mp hp with h | h
    · exact N1 p h
    · exact NF p h
  · exact sb_use hp (by walk_at "t_sub")
  · rcases List.mem_append.mp hp with h | h
    · exact ⟨(sep p h _ (List.mem_cons_self ..)).symm, (sep p h _ (List.mem_cons_of_mem _ (List.mem_cons_self ..))).symm, (sep p h _ (List.mem_cons_of_mem _ (List.mem_cons_of_mem _ (List.mem_cons_self ..)))).symm⟩
    · exact off'.mem p h
theorem fresh4 {h h' : Heap} {a b c d : Addr} {o1 o2 o3 o4 : Obj} (f1 : Fresh h h' a o1) (f2 : Fresh h h' b o2) (f3 : Fresh h h' c o3) (f4 : Fresh h h' d o4) : ∀ p ∈ [(a, o1), (b, o2), (c, o3), (d, o4)], Fresh h h' p.1 p.2 := fun p hp => by
  simp only [List.mem_cons, List.not_mem_nil, or_false] at hp
  rcases hp with rfl | rfl | rfl | rfl <;> assumption
end
section
theorem top_off_V21 : True := by
  w_top off
  trivial
section
set_option maxRecDepth 100000 in
set_option maxHeartbeats 8000000 in
theorem n_tbl {w : World} {mean : ExcName → Option Value} {mg mb : Str → Option Value} {fa : Addr} {cd : Value} {base h₀ : Heap} {L : Addr} {m : Str → Option Value} {s : Shared} {Q : Value → Shared → Prop} {E : Value → Shared → Prop} {sc : Scope} {ex : Expr} (hsc : lawScope = sc) (B : Below callerA base [] h₀) (X : (hd.heap_1 w.params).In h₀) (T : Top lawView Loose mean mg mb h₀) {os : Scope} (hos : outerScope = os) (hex : innerComp = ex) {c C x d b ed pd : Addr} {num : Int} {o2 : Obj} {exx ey er : Nat} (F : Fr h₀ L s.heap m) {K : FX} {oc : Obj} (N : News h₀ L s.heap ((ed, tdOf PW w [] exx) :: (pd, tdOf PW w [] ey) :: (b, listOf ([] : List Value).toArray er) :: K)) (i2 : IsTab w num ed pd b o2) (m3 : (x, instObj 227 d) ∈ K) (m4 : (d, o2) ∈ K) (n1 : ed ≠ pd) (n2 : ed ≠ b) (n3 : pd ≠ b) (ra0 : ∀ p ∈ K, p.1 ≠ ed) (rb0 : ∀ p ∈ K, p.1 ≠ pd) (rc0 : ∀ p ∈ K, p.1 ≠ b) (mc : (c, oc) ∈ K) (dc : oc.data = .cell (some (.ref x)))
    (done : ∀ h' tk D n r0 r1 r2 (fx cs T3 : FX) (a0 a1 a2 : Tok), Fr h₀ L h' m → News h₀ L h' ((D, listOf [r0, r1, r2].toArray n) :: (T3 ++ (fx ++ (cs ++ K)))) → T3.map (·.1) = [ed, pd, b] → (∀ p ∈ fx ++ cs, ∀ q ∈ ((ed, tdOf PW w [] exx) :: (pd, tdOf PW w [] ey) :: (b, listOf ([] : List Value).toArray er) :: K), q.1 ≠ p.1) → (cs.map (·.1)).Nodup → (∀ p ∈ fx, p.1 ∉ cs.map (·.1)) → (∀ q ∈ T3 ++ (fx ++ (cs ++ K)), q.1 ≠ D) →
      (∀ F' : FX, (x, instObj 227 d) ∈ F' → (d, o2) ∈ F' → (∀ p ∈ T3 ++ fx, p ∈ F') → HolOk w F' ⟨1, x, num, [.str "" a0, .str "" a1, .str "" a2], cs⟩) → RefOk w fx 1 x 0 r0 → RefOk w fx 1 x 1 r1 → RefOk w fx 1 x 2 r2 → Q (.ref D) { s with heap := h', toks := tk }) :
    wpAny (model PW w) (callerA.deeper (envOfC "law" sc L fa cd)) (eval ex (compEnvC os [("holder", c)] C (envOfC "law" sc L fa cd))) Q E s := by
  have hS2 : Stop 2 := .mk
  conv at hsc => lhs; whnf
  conv at hos => lhs; whnf
  conv at hex => lhs; whnf
  subst hsc hos hex
  have kx0 : KeysOk K [] := ⟨fun _ h => (nomatch h), by simp⟩
  have ky0 := kx0
  refine LCg.ListComp_U (F₀ := F) (by with_unfolding_all rfl) (by decide) (by rfl) (by decide) (by rfl) ?_
  k_steps
  refine Hold.in ?_
  rename IsRange _ _ _ _ _ _ _ _ => rg
  rename Fr _ _ _ _ => F2
  rename News _ _ _ _ => N2
  refine LCg.CompSrc.range (n := 3) rfl F2 N2 rg (by decide) (by rfl) (by decide) ?_
  clear F2 N2 rg
  intro g2
  refine LCg.CompRest.succ ?_
  intro v0 I0 oI0 C0 oC0 D0 m0 h0 tk0 E0 hv0 hC0 hx0 F0 N0 off0 ne0
  obtain ⟨tv0, rfl⟩ := hv0
  k_steps
  refine Hold.in ?_
  have off0' := off0
  obtain ⟨⟨oa0, ob0, od0⟩, ⟨pa0, pb0, pq0⟩, ⟨qa0, qb0, qd0⟩, offK0⟩ := off0'
  have xn0 : atKey ([] : List (List Mix × Addr × Value)) (markK (0 + 1)) = none := by simp [atKey]
  have yn0 : atKey ([] : List (List Mix × Addr × Value)) (markK (0 + 1)) = none := by simp [atKey]
  refine' TellU.use (t_ref_tbln (x := x) (d := d) (j := 0) (xs := ([] : List (List Mix × Addr × Value))) (ys := ([] : List (List Mix × Addr × Value))) (rs := ([] : List Value)) (ro := (I0, oI0) :: (C0, oC0) :: (D0, LCg.lst []) :: K) (by decide) (by decide) xn0 yn0 (Nat.le_of_ble_eq_true rfl) (Nat.le_of_ble_eq_true rfl) rfl (List.mem_cons_of_mem _ (List.mem_cons_of_mem _ (List.mem_cons_of_mem _ (m3)))) i2 (List.mem_cons_of_mem _ (List.mem_cons_of_mem _ (List.mem_cons_of_mem _ (m4)))) (kx0.mono (fun p hp => List.mem_cons_of_mem _ (List.mem_cons_of_mem _ (List.mem_cons_of_mem _ (hp))))) (ky0.mono (fun p hp => List.mem_cons_of_mem _ (List.mem_cons_of_mem _ (List.mem_cons_of_mem _ (hp))))) n1 n2 n3 (ne_cons (Ne.symm oa0) (ne_cons (Ne.symm ob0) (ne_cons (Ne.symm od0) ra0))) (ne_cons (Ne.symm pa0) (ne_cons (Ne.symm pb0) (ne_cons (Ne.symm pq0) rb0))) (ne_cons (Ne.symm qa0) (ne_cons (Ne.symm qb0) (ne_cons (Ne.symm qd0) rc0)))) ?p1 ?p2 ?p3 ?p4 ?p5 ?p6 ?p7 (tbl_pull N0) ?_
  case p1 => ktr_room
  case p2 => exact Nat.le_of_ble_eq_true rfl
  case p3 => k_asm
  case p4 => k_asm
  case p5 => k_asm
  case p6 => k_asm
  case p7 => first | exact rfl | assumption
  intro r0 g0 tg0 Fg0 k0 P0
  obtain ⟨x0, d0, on0, t0, q0, ot0, oq0, u0, ex0, ey0, er0, ua0, ub0, uc0, ud0, rfl, fx0, i0, fd0, ⟨et0, rfl⟩, ft0, iq0, fq0, ga0, gb0, gc0⟩ := P0
  have tq0 := fresh_diff ft0 fq0 (by obtain ⟨_, rfl⟩ := iq0; exact ne_cls (by simp))
  have xq0 := fresh_diff fx0 fq0 (by obtain ⟨_, rfl⟩ := iq0; exact ne_cls (by simp))
  have dq0 := fresh_diff fd0 fq0 (by obtain ⟨_, rfl⟩ := iq0; obtain ⟨_, _, rfl⟩ := i0; exact ne_cls (by simp))
  refine tbl_end F0 Fg0 N0 k0 off0 ra0 rb0 rc0 ga0 gb0 gc0 (fresh4 fx0 fd0 ft0 fq0) (fun sep0 => ?_)
  clear k0 fx0 fd0 ft0 fq0 N0 F0 Fg0 off0 hx0 hC0 ne0 ga0 gb0 gc0 oa0 ob0 od0 pa0 pb0 pq0 qa0 qb0 qd0 offK0
  obtain ⟨K1, eK1⟩ : ∃ K', K' = [(x0, instObj 117 d0), (d0, on0), (t0, tup [Value.str "INTEGER" ua0, Value.int (0 + 1) ub0] et0), (q0, oq0)] ++ K := ⟨_, rfl⟩
  rw [← eK1]
  have hK1 : ∀ p ∈ K, p ∈ K1 := fun p hp => by rw [eK1]; exact List.mem_append_right _ (hp)
  have up1 : ∀ p ∈ K, p ∈ K1 := fun p hp => by rw [eK1]; exact List.mem_append_right _ hp
  have mt1 : (t0, tup [Value.str "INTEGER" ua0, Value.int (0 + 1) ub0] et0) ∈ K1 := by rw [eK1]; exact List.mem_cons_of_mem _ (List.mem_cons_of_mem _ (List.mem_cons_self ..))
  have kx1 := keysOk_last (v := Value.ref q0) (kx0.mono up1) xn0 mt1
  have ky1 := keysOk_last (v := Value.int 0 u0) (ky0.mono up1) yn0 mt1
  have ra1 : ∀ p ∈ K1, p.1 ≠ ed := by rw [eK1]; exact fun p hp => (List.mem_append.mp hp).elim (fun h => (sep0 p h _ (List.mem_cons_self ..)).symm) (ra0 p)
  have rb1 : ∀ p ∈ K1, p.1 ≠ pd := by rw [eK1]; exact fun p hp => (List.mem_append.mp hp).elim (fun h => (sep0 p h _ (List.mem_cons_of_mem _ (List.mem_cons_self ..))).symm) (rb0 p)
  have rc1 : ∀ p ∈ K1, p.1 ≠ b := by rw [eK1]; exact fun p hp => (List.mem_append.mp hp).elim (fun h => (sep0 p h _ (List.mem_cons_of_mem _ (List.mem_cons_of_mem _ (List.mem_cons_self ..)))).symm) (rc0 p)
  have mc1 := hK1 _ mc
  refine LCg.CompRest.succ ?_
  intro v1 I1 oI1 C1 oC1 D1 m1 h1 tk1 E1 hv1 hC1 hx1 F1 N1 off1 ne1
  obtain ⟨tv1, rfl⟩ := hv1
  k_steps
  refine Hold.in ?_
  have off1' := off1
  obtain ⟨⟨oa1, ob1, od1⟩, ⟨pa1, pb1, pq1⟩, ⟨qa1, qb1, qd1⟩, offK1⟩ := off1'
  have xn1 : atKey ([] ++ [(markK (0 + 1), t0, Value.ref q0)]) (markK (1 + 1)) = none := by simp [atKey]
  have yn1 : atKey ([] ++ [(markK (0 + 1), t0, Value.int 0 u0)]) (markK (1 + 1)) = none := by simp [atKey]
  refine' TellU.use (t_ref_tbln (x := x) (d := d) (j := 1) (xs := ([] ++ [(markK (0 + 1), t0, Value.ref q0)])) (ys := ([] ++ [(markK (0 + 1), t0, Value.int 0 u0)])) (rs := ([] ++ [Value.ref q0])) (ro := (I1, oI1) :: (C1, oC1) :: (D1, LCg.lst ([] ++ [Value.ref x0])) :: K1) (by decide) (by decide) xn1 yn1 (Nat.le_of_ble_eq_true rfl) (Nat.le_of_ble_eq_true rfl) rfl (List.mem_cons_of_mem _ (List.mem_cons_of_mem _ (List.mem_cons_of_mem _ (hK1 _ m3)))) i2 (List.mem_cons_of_mem _ (List.mem_cons_of_mem _ (List.mem_cons_of_mem _ (hK1 _ m4)))) (kx1.mono (fun p hp => List.mem_cons_of_mem _ (List.mem_cons_of_mem _ (List.mem_cons_of_mem _ (hp))))) (ky1.mono (fun p hp => List.mem_cons_of_mem _ (List.mem_cons_of_mem _ (List.mem_cons_of_mem _ (hp))))) n1 n2 n3 (ne_cons (Ne.symm oa1) (ne_cons (Ne.symm ob1) (ne_cons (Ne.symm od1) ra1))) (ne_cons (Ne.symm pa1) (ne_cons (Ne.symm pb1) (ne_cons (Ne.symm pq1) rb1))) (ne_cons (Ne.symm qa1) (ne_cons (Ne.symm qb1) (ne_cons (Ne.symm qd1) rc1)))) ?p1 ?p2 ?p3 ?p4 ?p5 ?p6 ?p7 (tbl_pull N1) ?_
  case p1 => ktr_room
  case p2 => exact Nat.le_of_ble_eq_true rfl
  case p3 => k_asm
  case p4 => k_asm
  case p5 => k_asm
  case p6 => k_asm
  case p7 => first | exact rfl | assumption
  intro r1 g1 tg1 Fg1 k1 P1
  obtain ⟨x1, d1, on1, t1, q1, ot1, oq1, u1, ex1, ey1, er1, ua1, ub1, uc1, ud1, rfl, fx1, i1, fd1, ⟨et1, rfl⟩, ft1, iq1, fq1, ga1, gb1, gc1⟩ := P1
  have tq1 := fresh_diff ft1 fq1 (by obtain ⟨_, rfl⟩ := iq1; exact ne_cls (by simp))
  have xq1 := fresh_diff fx1 fq1 (by obtain ⟨_, rfl⟩ := iq1; exact ne_cls (by simp))
  have dq1 := fresh_diff fd1 fq1 (by obtain ⟨_, rfl⟩ := iq1; obtain ⟨_, _, rfl⟩ := i1; exact ne_cls (by simp))
  refine tbl_end F1 Fg1 N1 k1 off1 ra1 rb1 rc1 ga1 gb1 gc1 (fresh4 fx1 fd1 ft1 fq1) (fun sep1 => ?_)
  clear k1 fx1 fd1 ft1 fq1 N1 F1 Fg1 off1 hx1 hC1 ne1 ga1 gb1 gc1 oa1 ob1 od1 pa1 pb1 pq1 qa1 qb1 qd1 offK1
  obtain ⟨K2, eK2⟩ : ∃ K', K' = [(x1, instObj 117 d1), (d1, on1), (t1, tup [Value.str "INTEGER" ua1, Value.int (1 + 1) ub1] et1), (q1, oq1)] ++ K1 := ⟨_, rfl⟩
  rw [← eK2]
  have hK2 : ∀ p ∈ K, p ∈ K2 := fun p hp => by rw [eK2]; exact List.mem_append_right _ (hK1 p hp)
  have up2 : ∀ p ∈ K1, p ∈ K2 := fun p hp => by rw [eK2]; exact List.mem_append_right _ hp
  have mt2 : (t1, tup [Value.str "INTEGER" ua1, Value.int (1 + 1) ub1] et1) ∈ K2 := by rw [eK2]; exact List.mem_cons_of_mem _ (List.mem_cons_of_mem _ (List.mem_cons_self ..))
  have kx2 := keysOk_last (v := Value.ref q1) (kx1.mono up2) xn1 mt2
  have ky2 := keysOk_last (v := Value.int 1 u1) (ky1.mono up2) yn1 mt2
  have ra2 : ∀ p ∈ K2, p.1 ≠ ed := by rw [eK2]; exact fun p hp => (List.mem_append.mp hp).elim (fun h => (sep1 p h _ (List.mem_cons_self ..)).symm) (ra1 p)
  have rb2 : ∀ p ∈ K2, p.1 ≠ pd := by rw [eK2]; exact fun p hp => (List.mem_append.mp hp).elim (fun h => (sep1 p h _ (List.mem_cons_of_mem _ (List.mem_cons_self ..))).symm) (rb1 p)
  have rc2 : ∀ p ∈ K2, p.1 ≠ b := by rw [eK2]; exact fun p hp => (List.mem_append.mp hp).elim (fun h => (sep1 p h _ (List.mem_cons_of_mem _ (List.mem_cons_of_mem _ (List.mem_cons_self ..)))).symm) (rc1 p)
  have mc2 := hK2 _ mc
  refine LCg.CompRest.succ ?_
  intro v2 I2 oI2 C2 oC2 D2 m2 h2 tk2 E2 hv2 hC2 hx2 F2 N2 off2 ne2
  obtain ⟨tv2, rfl⟩ := hv2
  k_steps
  refine Hold.in ?_
  have off2' := off2
  obtain ⟨⟨oa2, ob2, od2⟩, ⟨pa2, pb2, pq2⟩, ⟨qa2, qb2, qd2⟩, offK2⟩ := off2'
  have xn2 : atKey ([] ++ [(markK (0 + 1), t0, Value.ref q0)] ++ [(markK (1 + 1), t1, Value.ref q1)]) (markK (2 + 1)) = none := by simp [atKey]
  have yn2 : atKey ([] ++ [(markK (0 + 1), t0, Value.int 0 u0)] ++ [(markK (1 + 1), t1, Value.int 1 u1)]) (markK (2 + 1)) = none := by simp [atKey]
  refine' TellU.use (t_ref_tbln (x := x) (d := d) (j := 2) (xs := ([] ++ [(markK (0 + 1), t0, Value.ref q0)] ++ [(markK (1 + 1), t1, Value.ref q1)])) (ys := ([] ++ [(markK (0 + 1), t0, Value.int 0 u0)] ++ [(markK (1 + 1), t1, Value.int 1 u1)])) (rs := ([] ++ [Value.ref q0] ++ [Value.ref q1])) (ro := (I2, oI2) :: (C2, oC2) :: (D2, LCg.lst ([] ++ [Value.ref x0] ++ [Value.ref x1])) :: K2) (by decide) (by decide) xn2 yn2 (Nat.le_of_ble_eq_true rfl) (Nat.le_of_ble_eq_true rfl) rfl (List.mem_cons_of_mem _ (List.mem_cons_of_mem _ (List.mem_cons_of_mem _ (hK2 _ m3)))) i2 (List.mem_cons_of_mem _ (List.mem_cons_of_mem _ (List.mem_cons_of_mem _ (hK2 _ m4)))) (kx2.mono (fun p hp => List.mem_cons_of_mem _ (List.mem_cons_of_mem _ (List.mem_cons_of_mem _ (hp))))) (ky2.mono (fun p hp => List.mem_cons_of_mem _ (List.mem_cons_of_mem _ (List.mem_cons_of_mem _ (hp))))) n1 n2 n3 (ne_cons (Ne.symm oa2) (ne_cons (Ne.symm ob2) (ne_cons (Ne.symm od2) ra2))) (ne_cons (Ne.symm pa2) (ne_cons (Ne.symm pb2) (ne_cons (Ne.symm pq2) rb2))) (ne_cons (Ne.symm qa2) (ne_cons (Ne.symm qb2) (ne_cons (Ne.symm qd2) rc2)))) ?p1 ?p2 ?p3 ?p4 ?p5 ?p6 ?p7 (tbl_pull N2) ?_
  case p1 => ktr_room
  case p2 => exact Nat.le_of_ble_eq_true rfl
  case p3 => k_asm
  case p4 => k_asm
  case p5 => k_asm
  case p6 => k_asm
  case p7 => first | exact rfl | assumption
  intro r2 g2 tg2 Fg2 k2 P2
  obtain ⟨x2, d2, on2, t2, q2, ot2, oq2, u2, ex2, ey2, er2, ua2, ub2, uc2, ud2, rfl, fx2, i2', fd2, ⟨et2, rfl⟩, ft2, iq2, fq2, ga2, gb2, gc2⟩ := P2
  have tq2 := fresh_diff ft2 fq2 (by obtain ⟨_, rfl⟩ := iq2; exact ne_cls (by simp))
  have xq2 := fresh_diff fx2 fq2 (by obtain ⟨_, rfl⟩ := iq2; exact ne_cls (by simp))
  have dq2 := fresh_diff fd2 fq2 (by obtain ⟨_, rfl⟩ := iq2; obtain ⟨_, _, rfl⟩ := i2'; exact ne_cls (by simp))
  refine tbl_end F2 Fg2 N2 k2 off2 ra2 rb2 rc2 ga2 gb2 gc2 (fresh4 fx2 fd2 ft2 fq2) (fun sep2 => ?_)
  clear k2 fx2 fd2 ft2 fq2 N2 F2 Fg2 off2 hx2 hC2 ne2 ga2 gb2 gc2 oa2 ob2 od2 pa2 pb2 pq2 qa2 qb2 qd2 offK2
  obtain ⟨K3, eK3⟩ : ∃ K', K' = [(x2, instObj 117 d2), (d2, on2), (t2, tup [Value.str "INTEGER" ua2, Value.int (2 + 1) ub2] et2), (q2, oq2)] ++ K2 := ⟨_, rfl⟩
  rw [← eK3]
  have hK3 : ∀ p ∈ K, p ∈ K3 := fun p hp => by rw [eK3]; exact List.mem_append_right _ (hK2 p hp)
  have up3 : ∀ p ∈ K2, p ∈ K3 := fun p hp => by rw [eK3]; exact List.mem_append_right _ hp
  have mt3 : (t2, tup [Value.str "INTEGER" ua2, Value.int (2 + 1) ub2] et2) ∈ K3 := by rw [eK3]; exact List.mem_cons_of_mem _ (List.mem_cons_of_mem _ (List.mem_cons_self ..))
  have kx3 := keysOk_last (v := Value.ref q2) (kx2.mono up3) xn2 mt3
  have ky3 := keysOk_last (v := Value.int 2 u2) (ky2.mono up3) yn2 mt3
  have ra3 : ∀ p ∈ K3, p.1 ≠ ed := by rw [eK3]; exact fun p hp => (List.mem_append.mp hp).elim (fun h => (sep2 p h _ (List.mem_cons_self ..)).symm) (ra2 p)
  have rb3 : ∀ p ∈ K3, p.1 ≠ pd := by rw [eK3]; exact fun p hp => (List.mem_append.mp hp).elim (fun h => (sep2 p h _ (List.mem_cons_of_mem _ (List.mem_cons_self ..))).symm) (rb2 p)
  have rc3 : ∀ p ∈ K3, p.1 ≠ b := by rw [eK3]; exact fun p hp => (List.mem_append.mp hp).elim (fun h => (sep2 p h _ (List.mem_cons_of_mem _ (List.mem_cons_of_mem _ (List.mem_cons_self ..)))).symm) (rc2 p)
  have mc3 := hK3 _ mc
  refine LCg.CompRest.zero ?_
  intro D9 h9 tk9 F9 N9 o9
  have oK := off1_mem o9
  have w1 : ∀ p ∈ [(x0, instObj 117 d0), (d0, on0), (t0, tup [Value.str "INTEGER" ua0, Value.int (0 + 1) ub0] et0), (q0, oq0)], p ∈ K1 := fun p hp => by rw [eK1]; exact List.mem_append_left _ hp
  have w2 : ∀ p ∈ [(x1, instObj 117 d1), (d1, on1), (t1, tup [Value.str "INTEGER" ua1, Value.int (1 + 1) ub1] et1), (q1, oq1)], p ∈ K2 := fun p hp => by rw [eK2]; exact List.mem_append_left _ hp
  have w3 : ∀ p ∈ [(x2, instObj 117 d2), (d2, on2), (t2, tup [Value.str "INTEGER" ua2, Value.int (2 + 1) ub2] et2), (q2, oq2)], p ∈ K3 := fun p hp => by rw [eK3]; exact List.mem_append_left _ hp
  have m3c : ∀ {p : Addr × Obj} {M : FX} {x y z : Addr × Obj}, p ∈ M → p ∈ x :: y :: z :: M := fun h => List.mem_cons_of_mem _ (List.mem_cons_of_mem _ (List.mem_cons_of_mem _ h))
  have d01 : ∀ p ∈ [(x0, instObj 117 d0), (d0, on0), (t0, tup [Value.str "INTEGER" ua0, Value.int (0 + 1) ub0] et0), (q0, oq0)], ∀ q ∈ [(x1, instObj 117 d1), (d1, on1), (t1, tup [Value.str "INTEGER" ua1, Value.int (1 + 1) ub1] et1), (q1, oq1)], p.1 ≠ q.1 := fun p hp q hq => sep1 q hq p (m3c (w1 p hp))
  have d02 : ∀ p ∈ [(x0, instObj 117 d0), (d0, on0), (t0, tup [Value.str "INTEGER" ua0, Value.int (0 + 1) ub0] et0), (q0, oq0)], ∀ q ∈ [(x2, instObj 117 d2), (d2, on2), (t2, tup [Value.str "INTEGER" ua2, Value.int (2 + 1) ub2] et2), (q2, oq2)], p.1 ≠ q.1 := fun p hp q hq => sep2 q hq p (m3c (up2 _ (w1 p hp)))
  have d12 : ∀ p ∈ [(x1, instObj 117 d1), (d1, on1), (t1, tup [Value.str "INTEGER" ua1, Value.int (1 + 1) ub1] et1), (q1, oq1)], ∀ q ∈ [(x2, instObj 117 d2), (d2, on2), (t2, tup [Value.str "INTEGER" ua2, Value.int (2 + 1) ub2] et2), (q2, oq2)], p.1 ≠ q.1 := fun p hp q hq => sep2 q hq p (m3c (w2 p hp))
  have so0 : ∀ p ∈ [(x0, instObj 117 d0), (d0, on0), (t0, tup [Value.str "INTEGER" ua0, Value.int (0 + 1) ub0] et0), (q0, oq0)], ∀ q ∈ (ed, tdOf PW w [] exx) :: (pd, tdOf PW w [] ey) :: (b, listOf ([] : List Value).toArray er) :: K, q.1 ≠ p.1 := sep0
  have so1 : ∀ p ∈ [(x1, instObj 117 d1), (d1, on1), (t1, tup [Value.str "INTEGER" ua1, Value.int (1 + 1) ub1] et1), (q1, oq1)], ∀ q ∈ (ed, tdOf PW w [] exx) :: (pd, tdOf PW w [] ey) :: (b, listOf ([] : List Value).toArray er) :: K, q.1 ≠ p.1 := fun p hp q hq => by
    rcases List.mem_cons.mp hq with rfl | hq
    · have z9 := sep1 p hp _ (List.mem_cons_self ..); exact z9
    rcases List.mem_cons.mp hq with rfl | hq
    · have z9 := sep1 p hp _ (List.mem_cons_of_mem _ (List.mem_cons_self ..)); exact z9
    rcases List.mem_cons.mp hq with rfl | hq
    · have z9 := sep1 p hp _ (List.mem_cons_of_mem _ (List.mem_cons_of_mem _ (List.mem_cons_self ..))); exact z9
    · exact sep1 p hp q (m3c (hK1 q hq))
  have so2 : ∀ p ∈ [(x2, instObj 117 d2), (d2, on2), (t2, tup [Value.str "INTEGER" ua2, Value.int (2 + 1) ub2] et2), (q2, oq2)], ∀ q ∈ (ed, tdOf PW w [] exx) :: (pd, tdOf PW w [] ey) :: (b, listOf ([] : List Value).toArray er) :: K, q.1 ≠ p.1 := fun p hp q hq => by
    rcases List.mem_cons.mp hq with rfl | hq
    · have z9 := sep2 p hp _ (List.mem_cons_self ..); exact z9
    rcases List.mem_cons.mp hq with rfl | hq
    · have z9 := sep2 p hp _ (List.mem_cons_of_mem _ (List.mem_cons_self ..)); exact z9
    rcases List.mem_cons.mp hq with rfl | hq
    · have z9 := sep2 p hp _ (List.mem_cons_of_mem _ (List.mem_cons_of_mem _ (List.mem_cons_self ..))); exact z9
    · exact sep2 p hp q (m3c (hK2 q hq))
  have ord : ∀ p, p ∈ [(ed, tdOf PW w ([] ++ [(markK (0 + 1), t0, Value.ref q0)] ++ [(markK (1 + 1), t1, Value.ref q1)] ++ [(markK (2 + 1), t2, Value.ref q2)]) ex2), (pd, tdOf PW w ([] ++ [(markK (0 + 1), t0, Value.int 0 u0)] ++ [(markK (1 + 1), t1, Value.int 1 u1)] ++ [(markK (2 + 1), t2, Value.int 2 u2)]) ey2), (b, listOf ([] ++ [Value.ref q0] ++ [Value.ref q1] ++ [Value.ref q2]).toArray er2)] ++ (([(x2, instObj 117 d2), (d2, on2), (t2, tup [Value.str "INTEGER" ua2, Value.int (2 + 1) ub2] et2)] ++ ([(x1, instObj 117 d1), (d1, on1), (t1, tup [Value.str "INTEGER" ua1, Value.int (1 + 1) ub1] et1)] ++ [(x0, instObj 117 d0), (d0, on0), (t0, tup [Value.str "INTEGER" ua0, Value.int (0 + 1) ub0] et0)])) ++ ([(q0, oq0), (q1, oq1), (q2, oq2)] ++ K)) → p ∈ (ed, tdOf PW w ([] ++ [(markK (0 + 1), t0, Value.ref q0)] ++ [(markK (1 + 1), t1, Value.ref q1)] ++ [(markK (2 + 1), t2, Value.ref q2)]) ex2) :: (pd, tdOf PW w ([] ++ [(markK (0 + 1), t0, Value.int 0 u0)] ++ [(markK (1 + 1), t1, Value.int 1 u1)] ++ [(markK (2 + 1), t2, Value.int 2 u2)]) ey2) :: (b, listOf ([] ++ [Value.ref q0] ++ [Value.ref q1] ++ [Value.ref q2]).toArray er2) :: K3 := fun p hp => by
    rw [eK3, eK2, eK1]
    exact sb_use hp (by walk_at "t_sub")
  refine done h9 tk9 D9 3 (.ref x0) (.ref x1) (.ref x2) ([(x2, instObj 117 d2), (d2, on2), (t2, tup [Value.str "INTEGER" ua2, Value.int (2 + 1) ub2] et2)] ++ ([(x1, instObj 117 d1), (d1, on1), (t1, tup [Value.str "INTEGER" ua1, Value.int (1 + 1) ub1] et1)] ++ [(x0, instObj 117 d0), (d0, on0), (t0, tup [Value.str "INTEGER" ua0, Value.int (0 + 1) ub0] et0)])) [(q0, oq0), (q1, oq1), (q2, oq2)] [(ed, tdOf PW w ([] ++ [(markK (0 + 1), t0, Value.ref q0)] ++ [(markK (1 + 1), t1, Value.ref q1)] ++ [(markK (2 + 1), t2, Value.ref q2)]) ex2), (pd, tdOf PW w ([] ++ [(markK (0 + 1), t0, Value.int 0 u0)] ++ [(markK (1 + 1), t1, Value.int 1 u1)] ++ [(markK (2 + 1), t2, Value.int 2 u2)]) ey2), (b, listOf ([] ++ [Value.ref q0] ++ [Value.ref q1] ++ [Value.ref q2]).toArray er2)] ud0 ud1 ud2 F9 (fun p hp => N9 p ?_) rfl (fun p hp => ?_) ?_ (fun p hp => ?_) (fun q hq => oK q (ord q hq)) ?_ ⟨x0, d0, on0, rfl, by simp, by simp, i0⟩ ⟨x1, d1, on1, rfl, by simp, by simp, i1⟩ ⟨x2, d2, on2, rfl, by simp, by simp, i2'⟩
  · rcases List.mem_cons.mp hp with rfl | hp
    · exact List.mem_cons_self ..
    · exact List.mem_cons_of_mem _ (ord p hp)
  · simp only [List.mem_append, List.mem_cons, List.not_mem_nil, or_false] at hp
    rcases hp with ((h | h | h) | (h | h | h) | (h | h | h)) | (h | h | h) <;> subst h
    · exact so2 _ (List.mem_cons_self ..)
    · exact so2 _ (List.mem_cons_of_mem _ (List.mem_cons_self ..))
    · exact so2 _ (List.mem_cons_of_mem _ (List.mem_cons_of_mem _ (List.mem_cons_self ..)))
    · exact so1 _ (List.mem_cons_self ..)
    · exact so1 _ (List.mem_cons_of_mem _ (List.mem_cons_self ..))
    · exact so1 _ (List.mem_cons_of_mem _ (List.mem_cons_of_mem _ (List.mem_cons_self ..)))
    · exact so0 _ (List.mem_cons_self ..)
    · exact so0 _ (List.mem_cons_of_mem _ (List.mem_cons_self ..))
    · exact so0 _ (List.mem_cons_of_mem _ (List.mem_cons_of_mem _ (List.mem_cons_self ..)))
    · exact so0 _ (List.mem_cons_of_mem _ (List.mem_cons_of_mem _ (List.mem_cons_of_mem _ (List.mem_cons_self ..))))
    · exact so1 _ (List.mem_cons_of_mem _ (List.mem_cons_of_mem _ (List.mem_cons_of_mem _ (List.mem_cons_self ..))))
    · exact so2 _ (List.mem_cons_of_mem _ (List.mem_cons_of_mem _ (List.mem_cons_of_mem _ (List.mem_cons_self ..))))
  · have e01 : q0 ≠ q1 := d01 _ (List.mem_cons_of_mem _ (List.mem_cons_of_mem _ (List.mem_cons_of_mem _ (List.mem_cons_self ..)))) _ (List.mem_cons_of_mem _ (List.mem_cons_of_mem _ (List.mem_cons_of_mem _ (List.mem_cons_self ..))))
    have e02 : q0 ≠ q2 := d02 _ (List.mem_cons_of_mem _ (List.mem_cons_of_mem _ (List.mem_cons_of_mem _ (List.mem_cons_self ..)))) _ (List.mem_cons_of_mem _ (List.mem_cons_of_mem _ (List.mem_cons_of_mem _ (List.mem_cons_self ..))))
    have e12 : q1 ≠ q2 := d12 _ (List.mem_cons_of_mem _ (List.mem_cons_of_mem _ (List.mem_cons_of_mem _ (List.mem_cons_self ..)))) _ (List.mem_cons_of_mem _ (List.mem_cons_of_mem _ (List.mem_cons_of_mem _ (List.mem_cons_self ..))))
    simp [e01, e02, e12]
  · simp only [List.map_cons, List.map_nil, List.mem_cons, List.not_mem_nil, or_false, not_or]
    simp only [List.mem_append, List.mem_cons, List.not_mem_nil, or_false] at hp
    rcases hp with (h | h | h) | (h | h | h) | (h | h | h) <;> subst h
    · exact ⟨(d02 _ (List.mem_cons_of_mem _ (List.mem_cons_of_mem _ (List.mem_cons_of_mem _ (List.mem_cons_self ..)))) _ (List.mem_cons_self ..)).symm, (d12 _ (List.mem_cons_of_mem _ (List.mem_cons_of_mem _ (List.mem_cons_of_mem _ (List.mem_cons_self ..)))) _ (List.mem_cons_self ..)).symm, xq2⟩
    · exact ⟨(d02 _ (List.mem_cons_of_mem _ (List.mem_cons_of_mem _ (List.mem_cons_of_mem _ (List.mem_cons_self ..)))) _ (List.mem_cons_of_mem _ (List.mem_cons_self ..))).symm, (d12 _ (List.mem_cons_of_mem _ (List.mem_cons_of_mem _ (List.mem_cons_of_mem _ (List.mem_cons_self ..)))) _ (List.mem_cons_of_mem _ (List.mem_cons_self ..))).symm, dq2⟩
    · exact ⟨(d02 _ (List.mem_cons_of_mem _ (List.mem_cons_of_mem _ (List.mem_cons_of_mem _ (List.mem_cons_self ..)))) _ (List.mem_cons_of_mem _ (List.mem_cons_of_mem _ (List.mem_cons_self ..)))).symm, (d12 _ (List.mem_cons_of_mem _ (List.mem_cons_of_mem _ (List.mem_cons_of_mem _ (List.mem_cons_self ..)))) _ (List.mem_cons_of_mem _ (List.mem_cons_of_mem _ (List.mem_cons_self ..)))).symm, tq2⟩
    · exact ⟨(d01 _ (List.mem_cons_of_mem _ (List.mem_cons_of_mem _ (List.mem_cons_of_mem _ (List.mem_cons_self ..)))) _ (List.mem_cons_self ..)).symm, xq1, d12 _ (List.mem_cons_self ..) _ (List.mem_cons_of_mem _ (List.mem_cons_of_mem _ (List.mem_cons_of_mem _ (List.mem_cons_self ..))))⟩
    · exact ⟨(d01 _ (List.mem_cons_of_mem _ (List.mem_cons_of_mem _ (List.mem_cons_of_mem _ (List.mem_cons_self ..)))) _ (List.mem_cons_of_mem _ (List.mem_cons_self ..))).symm, dq1, d12 _ (List.mem_cons_of_mem _ (List.mem_cons_self ..)) _ (List.mem_cons_of_mem _ (List.mem_cons_of_mem _ (List.mem_cons_of_mem _ (List.mem_cons_self ..))))⟩
    · exact ⟨(d01 _ (List.mem_cons_of_mem _ (List.mem_cons_of_mem _ (List.mem_cons_of_mem _ (List.mem_cons_self ..)))) _ (List.mem_cons_of_mem _ (List.mem_cons_of_mem _ (List.mem_cons_self ..)))).symm, tq1, d12 _ (List.mem_cons_of_mem _ (List.mem_cons_of_mem _ (List.mem_cons_self ..))) _ (List.mem_cons_of_mem _ (List.mem_cons_of_mem _ (List.mem_cons_of_mem _ (List.mem_cons_self ..))))⟩
    · exact ⟨xq0, d01 _ (List.mem_cons_self ..) _ (List.mem_cons_of_mem _ (List.mem_cons_of_mem _ (List.mem_cons_of_mem _ (List.mem_cons_self ..)))), d02 _ (List.mem_cons_self ..) _ (List.mem_cons_of_mem _ (List.mem_cons_of_mem _ (List.mem_cons_of_mem _ (List.mem_cons_self ..))))⟩
    · exact ⟨dq0, d01 _ (List.mem_cons_of_mem _ (List.mem_cons_self ..)) _ (List.mem_cons_of_mem _ (List.mem_cons_of_mem _ (List.mem_cons_of_mem _ (List.mem_cons_self ..)))), d02 _ (List.mem_cons_of_mem _ (List.mem_cons_self ..)) _ (List.mem_cons_of_mem _ (List.mem_cons_of_mem _ (List.mem_cons_of_mem _ (List.mem_cons_self ..))))⟩
    · exact ⟨tq0, d01 _ (List.mem_cons_of_mem _ (List.mem_cons_of_mem _ (List.mem_cons_self ..))) _ (List.mem_cons_of_mem _ (List.mem_cons_of_mem _ (List.mem_cons_of_mem _ (List.mem_cons_self ..)))), d02 _ (List.mem_cons_of_mem _ (List.mem_cons_of_mem _ (List.mem_cons_self ..))) _ (List.mem_cons_of_mem _ (List.mem_cons_of_mem _ (List.mem_cons_of_mem _ (List.mem_cons_self ..))))⟩
  · intro F' f1 f2 f3
    have gT : ∀ p ∈ [(ed, tdOf PW w ([] ++ [(markK (0 + 1), t0, Value.ref q0)] ++ [(markK (1 + 1), t1, Value.ref q1)] ++ [(markK (2 + 1), t2, Value.ref q2)]) ex2), (pd, tdOf PW w ([] ++ [(markK (0 + 1), t0, Value.int 0 u0)] ++ [(markK (1 + 1), t1, Value.int 1 u1)] ++ [(markK (2 + 1), t2, Value.int 2 u2)]) ey2), (b, listOf ([] ++ [Value.ref q0] ++ [Value.ref q1] ++ [Value.ref q2]).toArray er2)], p ∈ F' := fun p hp => f3 p (List.mem_append_left _ hp)
    have g2 : ∀ p ∈ [(x2, instObj 117 d2), (d2, on2), (t2, tup [Value.str "INTEGER" ua2, Value.int (2 + 1) ub2] et2)], p ∈ F' := fun p hp => f3 p (List.mem_append_right _ (List.mem_append_left _ hp))
    have g1 : ∀ p ∈ [(x1, instObj 117 d1), (d1, on1), (t1, tup [Value.str "INTEGER" ua1, Value.int (1 + 1) ub1] et1)], p ∈ F' := fun p hp => f3 p (List.mem_append_right _ (List.mem_append_right _ (List.mem_append_left _ hp)))
    have g0 : ∀ p ∈ [(x0, instObj 117 d0), (d0, on0), (t0, tup [Value.str "INTEGER" ua0, Value.int (0 + 1) ub0] et0)], p ∈ F' := fun p hp => f3 p (List.mem_append_right _ (List.mem_append_right _ (List.mem_append_right _ hp)))
    refine (.tbl rfl ⟨1, t0, q0, .int 1 uc0, .str "" ud0⟩ ⟨2, t1, q1, .int 2 uc1, .str "" ud1⟩ ⟨3, t2, q2, .int 3 uc2, .str "" ud2⟩ oq0 oq1 oq2 ⟨d, o2, ed, pd, b, ex2, ey2, er2, u0, u1, u2, uc0, uc1, uc2, f1, i2, f2, gT _ (List.mem_cons_self ..), gT _ (List.mem_cons_of_mem _ (List.mem_cons_self ..)), gT _ (List.mem_cons_of_mem _ (List.mem_cons_of_mem _ (List.mem_cons_self ..))), ⟨fun y hy => ?_, kx3.2⟩, rfl, rfl, rfl, rfl, rfl, rfl⟩ rfl iq0 iq1 iq2 rfl)
    simp only [elX, List.map_cons, List.map_nil, List.mem_cons, List.not_mem_nil, or_false] at hy
    rcases hy with rfl | rfl | rfl
    · exact ⟨1, ua0, ub0, et0, rfl, g0 _ (List.mem_cons_of_mem _ (List.mem_cons_of_mem _ (List.mem_cons_self ..)))⟩
    · exact ⟨2, ua1, ub1, et1, rfl, g1 _ (List.mem_cons_of_mem _ (List.mem_cons_of_mem _ (List.mem_cons_self ..)))⟩
    · exact ⟨3, ua2, ub2, et2, rfl, g2 _ (List.mem_cons_of_mem _ (List.mem_cons_of_mem _ (List.mem_cons_self ..)))⟩
end
end
section
theorem off4_add {I C D c : Addr} {oI oC oD oc : Obj} {news new K : FX} (h : Off4 I C D c news) (sep : ∀ p ∈ new, ∀ q ∈ (I, oI) :: (C, oC) :: (D, oD) :: (c, oc) :: K, q.1 ≠ p.1) : Off4 I C D c (new ++ news) := fun p hp => by
  rcases List.mem_append.mp hp with hp | hp
  · exact ⟨(sep p hp _ (List.mem_cons_self ..)).symm, (sep p hp _ (List.mem_cons_of_mem _ (List.mem_cons_self ..))).symm, (sep p hp _ (List.mem_cons_of_mem _ (List.mem_cons_of_mem _ (List.mem_cons_self ..)))).symm, (sep p hp _ (List.mem_cons_of_mem _ (List.mem_cons_of_mem _ (List.mem_cons_of_mem _ (List.mem_cons_self ..))))).symm⟩
  · exact h p hp
theorem m4 {a b c d : Addr × Obj} {G : FX} {p : Addr × Obj} (hp : p ∈ G) : p ∈ a :: b :: c :: d :: G := List.mem_cons_of_mem _ (List.mem_cons_of_mem _ (List.mem_cons_of_mem _ (List.mem_cons_of_mem _ hp)))
theorem pull43 {h₀ h : Heap} {L : Addr} {a b c d e f g : Addr × Obj} {K : FX} (N : News h₀ L h (a :: b :: c :: d :: e :: f :: g :: K)) : News h₀ L h (e :: f :: g :: a :: b :: c :: d :: K) := fun p hp => N p (sb_use hp (by walk_at "t_sub"))
theorem push4a {h₀ h : Heap} {L : Addr} {a b c d x e f g : Addr × Obj} {new K : FX} (N : News h₀ L h (x :: (new ++ (a :: b :: c :: d :: e :: f :: g :: K)))) : News h₀ L h (a :: b :: c :: d :: e :: f :: g :: (x :: (new ++ K))) := fun p hp => N p (sb_use hp (by walk_at "t_sub"))
theorem push4b {h₀ h : Heap} {L : Addr} {a b c d x : Addr × Obj} {T fx cs K : FX} (N : News h₀ L h (x :: (T ++ (fx ++ (cs ++ (a :: b :: c :: d :: K)))))) : News h₀ L h (a :: b :: c :: d :: (x :: (T ++ (fx ++ (cs ++ K))))) := fun p hp => N p (sb_use hp (by walk_at "t_sub"))
theorem push4c {h₀ h : Heap} {L : Addr} {a b c d x : Addr × Obj} {new K : FX} (N : News h₀ L h (x :: (new ++ (a :: b :: c :: d :: K)))) : News h₀ L h (a :: b :: c :: d :: (x :: (new ++ K))) := fun p hp => N p (sb_use hp (by walk_at "t_sub"))
end
section
theorem top_off_V22 : True := by
  w_top off
  trivial
section
set_option maxRecDepth 100000 in
set_option maxHeartbeats 8000000 in
theorem names_body {w : World} {mean : ExcName → Option Value} {mg mb : Str → Option Value} {fa : Addr} {cd : Value} {base h₀ : Heap} {L : Addr} {m : Str → Option Value} {s : Shared} {Q : Flow → Shared → Prop} {E : Value → Shared → Prop} {sc : Scope} {st : Stmt} (hsc : lawScope = sc) (B : Below callerA base [] h₀) (X : (hd.heap_1 w.params).In h₀) (T : Top lawView Loose mean mg mb h₀) (hst : namesStmt = st) {al x d b ed pd : Addr} {num : Int} {o2 : Obj} {exx ey er e6 : Nat} {H0 H2 : HR} {K Fx : FX} (F : Fr h₀ L s.heap (fun y => if y = "all_of" then some (.ref al) else m y)) (N : News h₀ L s.heap ((ed, tdOf PW w [] exx) :: (pd, tdOf PW w [] ey) :: (b, listOf ([] : List Value).toArray er) ::  K)) (mal : (al, listOf [.ref H0.x, .ref x, .ref H2.x].toArray e6) ∈ K) (hF : ∀ p ∈ Fx, p ∈ K) (hH0 : HolOk w Fx H0) (hH2 : HolOk w Fx H2) (i2 : IsTab w num ed pd b o2) (m3 : (x, instObj 227 d) ∈ K) (m4' : (d, o2) ∈ K) (n1 : ed ≠ pd) (n2 : ed ≠ b) (n3 : pd ≠ b) (ra0 : ∀ p ∈ K, p.1 ≠ ed) (rb0 : ∀ p ∈ K, p.1 ≠ pd) (rc0 : ∀ p ∈ K, p.1 ≠ b)
    (done : ∀ h' tk nmA nn D0 D1 D2 n0 n1 n2 p0 p1 p2 r0 r1 r2 t0 t1 t2 (fx0 fx1 cs1 T3 fx2 : FX) (a0 a1 a2 : Tok), Fr h₀ L h' (fun z => if z = "names" then some (.ref nmA) else if z = "all_of" then some (.ref al) else m z) → News h₀ L h' ((nmA, listOf [.ref D0, .ref D1, .ref D2].toArray nn) :: ((D2, listOf [t0, t1, t2].toArray n2) :: (fx2 ++ ((D1, listOf [r0, r1, r2].toArray n1) :: (T3 ++ (fx1 ++ (cs1 ++ ((D0, listOf [p0, p1, p2].toArray n0) :: (fx0 ++ K))))))))) →
      (∀ q ∈ ((D2, listOf [t0, t1, t2].toArray n2) :: (fx2 ++ ((D1, listOf [r0, r1, r2].toArray n1) :: (T3 ++ (fx1 ++ (cs1 ++ ((D0, listOf [p0, p1, p2].toArray n0) :: (fx0 ++ K)))))))), q.1 ≠ nmA) → (∀ p ∈ fx0, ∀ q ∈ (ed, tdOf PW w [] exx) :: (pd, tdOf PW w [] ey) :: (b, listOf ([] : List Value).toArray er) ::  K, q.1 ≠ p.1) → (∀ q ∈ (ed, tdOf PW w [] exx) :: (pd, tdOf PW w [] ey) :: (b, listOf ([] : List Value).toArray er) ::  K, q.1 ≠ D0) → RefOk w fx0 H0.kd H0.x 0 p0 → RefOk w fx0 H0.kd H0.x 1 p1 → RefOk w fx0 H0.kd H0.x 2 p2 →
      T3.map (·.1) = [ed, pd, b] → (∀ p ∈ fx1 ++ cs1, ∀ q ∈ (ed, tdOf PW w [] exx) :: (pd, tdOf PW w [] ey) :: (b, listOf ([] : List Value).toArray er) ::  ((D0, listOf [p0, p1, p2].toArray n0) :: (fx0 ++ K)), q.1 ≠ p.1) → (cs1.map (·.1)).Nodup → (∀ p ∈ fx1, p.1 ∉ cs1.map (·.1)) → (∀ q ∈ T3 ++ (fx1 ++ (cs1 ++ ((D0, listOf [p0, p1, p2].toArray n0) :: (fx0 ++ K)))), q.1 ≠ D1) →
      (∀ F' : FX, (x, instObj 227 d) ∈ F' → (d, o2) ∈ F' → (∀ p ∈ T3 ++ fx1, p ∈ F') → HolOk w F' ⟨1, x, num, [.str "" a0, .str "" a1, .str "" a2], cs1⟩) → RefOk w fx1 1 x 0 r0 → RefOk w fx1 1 x 1 r1 → RefOk w fx1 1 x 2 r2 →
      (∀ p ∈ fx2, ∀ q ∈ ((D1, listOf [r0, r1, r2].toArray n1) :: (T3 ++ (fx1 ++ (cs1 ++ ((D0, listOf [p0, p1, p2].toArray n0) :: (fx0 ++ K)))))), q.1 ≠ p.1) → (∀ q ∈ ((D1, listOf [r0, r1, r2].toArray n1) :: (T3 ++ (fx1 ++ (cs1 ++ ((D0, listOf [p0, p1, p2].toArray n0) :: (fx0 ++ K)))))), q.1 ≠ D2) → RefOk w fx2 H2.kd H2.x 0 t0 → RefOk w fx2 H2.kd H2.x 1 t1 → RefOk w fx2 H2.kd H2.x 2 t2 → Q .next { s with heap := h', toks := tk }) :
    wpAny (model PW w) (callerA.deeper (envOfC "law" sc L fa cd)) (exec st (envOfC "law" sc L fa cd)) Q E s := by
  have hS3 : Stop 3 := .mk
  have hsc0 := hsc
  conv at hsc => lhs; whnf
  conv at hst => lhs; whnf
  subst hsc hst
  refine Assign_comp_cell (h₀ := h₀) (L := L) (m := (fun y => if y = "all_of" then some (.ref al) else m y)) rfl (by with_unfolding_all rfl) (by with_unfolding_all rfl) (fun n => by with_unfolding_all rfl) (fun h => by with_unfolding_all rfl) (by rfl) (by rfl) (by decide) (by rfl) (by rfl) ?_
  k_steps
  refine Hold.in ?_
  rename Fr _ _ _ _ => F1
  rename News _ _ _ _ => N1
  refine ⟨al, [.ref H0.x, .ref x, .ref H2.x], e6, (ed, tdOf PW w [] exx) :: (pd, tdOf PW w [] ey) :: (b, listOf ([] : List Value).toArray er) ::  K, rfl, rfl, F1, N1, List.mem_cons_of_mem _ (List.mem_cons_of_mem _ (List.mem_cons_of_mem _ mal)), by rw [sizeLine_eq]; exact Nat.le_of_ble_eq_true rfl, ?_⟩
  clear F1 N1
  rintro s2 ⟨g2, rfl⟩
  -- the array
  intro v I oI C D c oc h3 tk3 E3 hv dc F3 N3 off3
  obtain rfl := Option.some.inj hv
  refine n_refs hsc0 B X T rfl rfl F3 N3 hH0 (fun p hp => m4 (List.mem_cons_of_mem _ (List.mem_cons_of_mem _ (List.mem_cons_of_mem _ (hF p hp))))) (List.mem_cons_of_mem _ (List.mem_cons_of_mem _ (List.mem_cons_of_mem _ (List.mem_cons_self ..)))) dc ?_
  intro h4 tk4 D0 n0 p0 p1 p2 fx0 F4 N4 sep0 oD0 rp0 rp1 rp2
  have off0 : Off4 I C D c ((ed, tdOf PW w [] exx) :: (pd, tdOf PW w [] ey) :: (b, listOf ([] : List Value).toArray er) ::  ((D0, listOf [p0, p1, p2].toArray n0) :: (fx0 ++ K))) := by
    intro p hp
    simp only [List.mem_cons] at hp
    rcases hp with rfl | rfl | rfl | rfl | hp
    · exact off3 _ (List.mem_cons_self ..)
    · exact off3 _ (List.mem_cons_of_mem _ (List.mem_cons_self ..))
    · exact off3 _ (List.mem_cons_of_mem _ (List.mem_cons_of_mem _ (List.mem_cons_self ..)))
    · exact off4_add (new := [(D0, listOf [p0, p1, p2].toArray n0)]) off3 (fun p hp => by rw [List.mem_singleton.mp hp]; exact oD0) _ (List.mem_append_left _ (List.mem_cons_self ..))
    · rcases List.mem_append.mp hp with h | h
      · exact off4_add off3 sep0 p (List.mem_append_left _ h)
      · exact off3 p (List.mem_cons_of_mem _ (List.mem_cons_of_mem _ (List.mem_cons_of_mem _ h)))
  have mal1 : (al, listOf [.ref H0.x, .ref x, .ref H2.x].toArray e6) ∈ ((D0, listOf [p0, p1, p2].toArray n0) :: (fx0 ++ K)) := List.mem_cons_of_mem _ (List.mem_append_right _ mal)
  refine ⟨h4, tk4, (ed, tdOf PW w [] exx) :: (pd, tdOf PW w [] ey) :: (b, listOf ([] : List Value).toArray er) ::  ((D0, listOf [p0, p1, p2].toArray n0) :: (fx0 ++ K)), rfl, F4, push4a N4, off0, List.mem_cons_of_mem _ (List.mem_cons_of_mem _ (List.mem_cons_of_mem _ mal1)), ?_⟩
  have S0 : ∀ p ∈ fx0, ∀ q ∈ (ed, tdOf PW w [] exx) :: (pd, tdOf PW w [] ey) :: (b, listOf ([] : List Value).toArray er) ::  K, q.1 ≠ p.1 := fun p hp q hq => sep0 p hp q (m4 hq)
  have O0 : ∀ q ∈ (ed, tdOf PW w [] exx) :: (pd, tdOf PW w [] ey) :: (b, listOf ([] : List Value).toArray er) ::  K, q.1 ≠ D0 := fun q hq => oD0 q (m4 hq)
  have ra1 : ∀ p ∈ ((D0, listOf [p0, p1, p2].toArray n0) :: (fx0 ++ K)), p.1 ≠ ed := ne_cons (O0 _ (List.mem_cons_self ..)).symm (fun p hp => (List.mem_append.mp hp).elim (fun h => (S0 p h _ (List.mem_cons_self ..)).symm) (ra0 p))
  have rb1 : ∀ p ∈ ((D0, listOf [p0, p1, p2].toArray n0) :: (fx0 ++ K)), p.1 ≠ pd := ne_cons (O0 _ (List.mem_cons_of_mem _ (List.mem_cons_self ..))).symm (fun p hp => (List.mem_append.mp hp).elim (fun h => (S0 p h _ (List.mem_cons_of_mem _ (List.mem_cons_self ..))).symm) (rb0 p))
  have rc1 : ∀ p ∈ ((D0, listOf [p0, p1, p2].toArray n0) :: (fx0 ++ K)), p.1 ≠ b := ne_cons (O0 _ (List.mem_cons_of_mem _ (List.mem_cons_of_mem _ (List.mem_cons_self ..)))).symm (fun p hp => (List.mem_append.mp hp).elim (fun h => (S0 p h _ (List.mem_cons_of_mem _ (List.mem_cons_of_mem _ (List.mem_cons_self ..)))).symm) (rc0 p))
  clear off3 off0 N4 F4 N3 F3 sep0 oD0
  -- the table
  intro v I oI C D c oc h3 tk3 E3 hv dc F3 N3 off3
  obtain rfl := Option.some.inj hv
  have oe := off3 _ (List.mem_cons_self ..)
  have op := off3 _ (List.mem_cons_of_mem _ (List.mem_cons_self ..))
  have ob := off3 _ (List.mem_cons_of_mem _ (List.mem_cons_of_mem _ (List.mem_cons_self ..)))
  refine n_tbl hsc0 B X T rfl rfl F3 (pull43 N3) i2 (m4 (List.mem_cons_of_mem _ (List.mem_append_right _ m3))) (m4 (List.mem_cons_of_mem _ (List.mem_append_right _ m4'))) n1 n2 n3 (ne_cons oe.1.symm (ne_cons oe.2.1.symm (ne_cons oe.2.2.1.symm (ne_cons oe.2.2.2.symm ra1)))) (ne_cons op.1.symm (ne_cons op.2.1.symm (ne_cons op.2.2.1.symm (ne_cons op.2.2.2.symm rb1)))) (ne_cons ob.1.symm (ne_cons ob.2.1.symm (ne_cons ob.2.2.1.symm (ne_cons ob.2.2.2.symm rc1)))) (List.mem_cons_of_mem _ (List.mem_cons_of_mem _ (List.mem_cons_of_mem _ (List.mem_cons_self ..)))) dc ?_
  intro h4 tk4 D1 n1' r0 r1 r2 fx1 cs1 T3 a0 a1 a2 F4 N4 hT3 sep1 ncs sfx oD1 hol1 rr0 rr1 rr2
  have S1 : ∀ p ∈ fx1 ++ cs1, ∀ q ∈ (ed, tdOf PW w [] exx) :: (pd, tdOf PW w [] ey) :: (b, listOf ([] : List Value).toArray er) ::  ((D0, listOf [p0, p1, p2].toArray n0) :: (fx0 ++ K)), q.1 ≠ p.1 := fun p hp q hq => sep1 p hp q (sb_use hq (by walk_at "t_sub"))
  have O1 : ∀ q ∈ T3 ++ (fx1 ++ (cs1 ++ ((D0, listOf [p0, p1, p2].toArray n0) :: (fx0 ++ K)))), q.1 ≠ D1 := fun q hq => oD1 q (sb_use hq (by walk_at "t_sub"))
  have oT : ∀ p ∈ T3, p.1 = ed ∨ p.1 = pd ∨ p.1 = b := fun p hp => by
    have : p.1 ∈ T3.map (·.1) := List.mem_map.mpr ⟨p, hp, rfl⟩
    rw [hT3] at this
    simpa using this
  have sepI : ∀ p ∈ fx1 ++ cs1, p.1 ≠ I ∧ p.1 ≠ C ∧ p.1 ≠ D ∧ p.1 ≠ c := fun p hp =>
    ⟨(sep1 p hp (I, oI) (by simp)).symm, (sep1 p hp (C, dct0) (by simp)).symm, (sep1 p hp (D, _) (List.mem_cons_of_mem _ (List.mem_cons_of_mem _ (List.mem_cons_of_mem _ (List.mem_cons_of_mem _ (List.mem_cons_of_mem _ (List.mem_cons_self ..))))))).symm, (sep1 p hp (c, oc) (by simp)).symm⟩
  have off1 : Off4 I C D c ((D1, listOf [r0, r1, r2].toArray n1') :: (T3 ++ (fx1 ++ (cs1 ++ ((D0, listOf [p0, p1, p2].toArray n0) :: (fx0 ++ K)))))) := by
    intro p hp
    rcases List.mem_cons.mp hp with rfl | hp
    · exact ⟨(oD1 (I, oI) (by simp)).symm, (oD1 (C, dct0) (by simp)).symm, (oD1 (D, LCg.lst ([] ++ [Value.ref D0])) (by simp)).symm, (oD1 (c, oc) (by simp)).symm⟩
    rcases List.mem_append.mp hp with hp | hp
    · rcases oT p hp with e | e | e <;> rw [e]
      · exact oe
      · exact op
      · exact ob
    rcases List.mem_append.mp hp with hp | hp
    · exact sepI p (List.mem_append_left _ hp)
    rcases List.mem_append.mp hp with hp | hp
    · exact sepI p (List.mem_append_right _ hp)
    · exact off3 p (List.mem_cons_of_mem _ (List.mem_cons_of_mem _ (List.mem_cons_of_mem _ hp)))
  have mal2 : (al, listOf [.ref H0.x, .ref x, .ref H2.x].toArray e6) ∈ ((D1, listOf [r0, r1, r2].toArray n1') :: (T3 ++ (fx1 ++ (cs1 ++ ((D0, listOf [p0, p1, p2].toArray n0) :: (fx0 ++ K)))))) := List.mem_cons_of_mem _ (List.mem_append_right _ (List.mem_append_right _ (List.mem_append_right _ mal1)))
  refine ⟨h4, tk4, ((D1, listOf [r0, r1, r2].toArray n1') :: (T3 ++ (fx1 ++ (cs1 ++ ((D0, listOf [p0, p1, p2].toArray n0) :: (fx0 ++ K)))))), rfl, F4, push4b N4, off1, mal2, ?_⟩
  clear off3 off1 N4 F4 N3 F3 sep1 oD1 sepI oe op ob
  have hF2 : ∀ p ∈ Fx, p ∈ ((D1, listOf [r0, r1, r2].toArray n1') :: (T3 ++ (fx1 ++ (cs1 ++ ((D0, listOf [p0, p1, p2].toArray n0) :: (fx0 ++ K)))))) := fun p hp => List.mem_cons_of_mem _ (List.mem_append_right _ (List.mem_append_right _ (List.mem_append_right _ (List.mem_cons_of_mem _ (List.mem_append_right _ (hF p hp))))))
  -- the thing
  intro v I oI C D c oc h3 tk3 E3 hv dc F3 N3 off3
  obtain rfl := Option.some.inj hv
  refine n_refs hsc0 B X T rfl rfl F3 N3 hH2 (fun p hp => m4 (hF2 p hp)) (List.mem_cons_of_mem _ (List.mem_cons_of_mem _ (List.mem_cons_of_mem _ (List.mem_cons_self ..)))) dc ?_
  intro h4 tk4 D2 n2' t0 t1 t2 fx2 F4 N4 sep2 oD2 rt0 rt1 rt2
  have off2 : Off4 I C D c ((D2, listOf [t0, t1, t2].toArray n2') :: (fx2 ++ ((D1, listOf [r0, r1, r2].toArray n1') :: (T3 ++ (fx1 ++ (cs1 ++ ((D0, listOf [p0, p1, p2].toArray n0) :: (fx0 ++ K)))))))) := by
    intro p hp
    rcases List.mem_cons.mp hp with rfl | hp
    · exact off4_add (new := [(D2, listOf [t0, t1, t2].toArray n2')]) off3 (fun p hp => by rw [List.mem_singleton.mp hp]; exact oD2) _ (List.mem_append_left _ (List.mem_cons_self ..))
    · exact off4_add off3 sep2 p hp
  refine ⟨h4, tk4, (D2, listOf [t0, t1, t2].toArray n2') :: (fx2 ++ ((D1, listOf [r0, r1, r2].toArray n1') :: (T3 ++ (fx1 ++ (cs1 ++ ((D0, listOf [p0, p1, p2].toArray n0) :: (fx0 ++ K))))))), rfl, F4, push4c N4, off2, List.mem_cons_of_mem _ (List.mem_append_right _ mal2), ?_⟩
  have S2 : ∀ p ∈ fx2, ∀ q ∈ ((D1, listOf [r0, r1, r2].toArray n1') :: (T3 ++ (fx1 ++ (cs1 ++ ((D0, listOf [p0, p1, p2].toArray n0) :: (fx0 ++ K)))))), q.1 ≠ p.1 := fun p hp q hq => sep2 p hp q (m4 hq)
  have O2 : ∀ q ∈ ((D1, listOf [r0, r1, r2].toArray n1') :: (T3 ++ (fx1 ++ (cs1 ++ ((D0, listOf [p0, p1, p2].toArray n0) :: (fx0 ++ K)))))), q.1 ≠ D2 := fun q hq => oD2 q (m4 hq)
  clear off3 off2 N4 F4 N3 F3 sep2 oD2
  intro nmA h9 tk9 F9 N9 o9
  exact done h9 tk9 nmA 3 D0 D1 D2 n0 n1' n2' p0 p1 p2 r0 r1 r2 t0 t1 t2 fx0 fx1 cs1 T3 fx2 a0 a1 a2 F9 N9 o9 S0 O0 rp0 rp1 rp2 hT3 S1 ncs sfx O1 hol1 rr0 rr1 rr2 S2 O2 rt0 rt1 rt2
end
end
section
section
variable {prog : Program} {w : World} {A : Around} {s : Shared} {h₀ : Heap} {L : Addr} {m : Str → Option Value} {env : Env}
open LCg in
theorem comp_turns {elt : Expr} {x : Str} {scope : Scope} {cl : List (Str × Addr)} {S : List (Addr × Obj) → Prop} {P : Nat → Value → Prop} {Fin : List Value → List (Addr × Obj) → Prop} {news : List (Addr × Obj)} {n : Nat} (hS : S news) (Inv : Nat → List Value → Prop)
    (step : ∀ i v ys I oI C oC D m₂ h tk (E' : Value → Shared → Prop) (K : Value → Shared → Prop), i < n → Inv i ys → P i v → NsObj oC m₂ → m₂ x = some v → Fr h₀ L h m → News h₀ L h ((I, oI) :: (C, oC) :: (D, lst ys) :: news) →
      (∀ y tk', Inv (i + 1) (ys ++ [y]) → K y { s with heap := h, toks := tk' }) → wpAny (model prog w) A (eval elt (compEnvC scope cl C env)) K E' { s with heap := h, toks := tk })
    (fin : ∀ ys, Inv n ys → Fin ys news) : ∀ k i ys, i + k = n → Inv i ys → CompRest prog w A h₀ L m env elt x scope cl s S P Fin k i ys news
  | 0, i, ys, e, hi => by
    have : i = n := by omega
    exact CompRest.zero (fin ys (this ▸ hi))
  | k + 1, i, ys, e, hi => by
    refine CompRest.succ ?_
    intro v I oI C oC D m₂ h tk E' hP hC hx F N off ne
    refine step i v ys I oI C oC D m₂ h tk E' _ (by omega) hi hP hC hx F N ?_
    intro y tk' hy
    exact CompEnd.intro F N news (fun p hp => hp) off hS (comp_turns hS Inv step fin k (i + 1) (ys ++ [y]) (by omega) hy)
end
theorem rangeKs_succ (a : Int) (n : Nat) : rangeKs a (n + 1) = rangeKs a n ++ [a + (n : Int)] := by simp [rangeKs, List.range_succ]
theorem ints_snoc {ys : List Value} {ns : List Int} (h : IntsAre ys ns) (k : Int) (t : Tok) : IntsAre (ys ++ [.int k t]) (ns ++ [k]) := by
  induction h with
  | nil => exact .cons k t .nil
  | cons k' t' _ ih => exact .cons k' t' ih
open PyProof.V PySem.Spec
theorem HolOk.kinds {w : World} {F : FX} {H : HR} (h : HolOk w F H) : ∃ d o2, (d, o2) ∈ F ∧ ((H.kd = 0 ∧ (H.x, instObj 208 d) ∈ F ∧ ∃ bl b, IsArr w H.num bl b o2) ∨ (H.kd = 1 ∧ (H.x, instObj 227 d) ∈ F ∧ ∃ ed pd b, IsTab w H.num ed pd b o2) ∨ (H.kd = 2 ∧ (H.x, instObj 246 d) ∈ F ∧ ∃ fl b, IsDat w H.num fl b o2)) := by
  rcases h with ⟨k, b, o, v0, v1, v2, ⟨d, o2, bl, o3, bt, o4, u1, u2, m1, i, m2, _⟩⟩ | ⟨k, e0, e1, e2, o0, o1, o2, ⟨d, o2', ed, pd, b, ex, ey, er, u0, u1, u2, a0, a1, a2, m1, i, m2, _⟩⟩ | ⟨k, b, o, v0, v1, v2, ⟨d, o2, fl, o3, u1, u2, u3, m1, i, m2, _⟩⟩
  · exact ⟨d, o2, m2, .inl ⟨k, m1, _, _, i⟩⟩
  · exact ⟨d, o2', m2, .inr (.inl ⟨k, m1, _, _, _, i⟩)⟩
  · exact ⟨d, o2, m2, .inr (.inr ⟨k, m1, _, _, i⟩)⟩
theorem strs_snoc {ys : List Value} {ns : List Str} (h : StrsAre ys ns) (k : Str) (t : Tok) : StrsAre (ys ++ [.str k t]) (ns ++ [k]) := by
  induction h with
  | nil => exact .cons k t .nil
  | cons k' t' _ ih => exact .cons k' t' ih
theorem strs_reads {h : Heap} {vs : List Value} {ys : List Str} (x : StrsAre vs ys) : ∃ as, ReadsAll h vs (ys.map PyData.str) as := by
  induction x with
  | nil => exact ⟨_, .nil⟩
  | cons y t _ ih =>
    obtain ⟨as, ih⟩ := ih
    exact ⟨_, .cons (.str y t) ih⟩
theorem wvs_are (Rs : List RW) : StrsAre (wvs Rs) (Rs.map fun R => kWord R.H.kd) := by
  induction Rs with
  | nil => exact .nil
  | cons R Rs ih => exact .cons _ _ ih
theorem kWord_ok (k : Nat) : PyData.strOk (kWord k) = true := by
  unfold kWord
  split
  · decide +kernel
  split <;> decide +kernel
theorem words_good (Rs : List RW) : PyData.eqvAll ((Rs.map fun R => kWord R.H.kd).map PyData.str) ((Rs.map fun R => kWord R.H.kd).map PyData.str) = true ∧ PyData.canLayAll0 ((Rs.map fun R => kWord R.H.kd).map PyData.str) = true ∧ PyData.depthAll ((Rs.map fun R => kWord R.H.kd).map PyData.str) = 0 := by
  induction Rs with
  | nil => exact ⟨by simp [PyData.eqvAll], by simp [PyData.canLayAll0], by simp [PyData.depthAll]⟩
  | cons R Rs ih =>
    obtain ⟨a, b, c⟩ := ih
    refine ⟨?_, ?_, ?_⟩
    · simp only [List.map_cons, PyData.eqvAll, PyData.eqv, beq_self_eq_true, Bool.true_and]
      exact a
    · simp only [List.map_cons, PyData.canLayAll0, PyData.canLay0, kWord_ok, Bool.true_and]
      exact b
    · simp only [List.map_cons, PyData.depthAll, PyData.depth]
      rw [c]; rfl
theorem ne_words {prog : Program} {w : World} {A : Around} {E : Value → Shared → Prop} {s : Shared} {a b : Addr} {xs ys : List Value} {Rs : List RW} {Q : Value → Shared → Prop} (hu : A.units + 64 < cLine) (ha : s.heap.IsList a xs.toArray) (hb : s.heap.IsList b ys.toArray) (hx : StrsAre xs (Rs.map fun R => kWord R.H.kd)) (hy : StrsAre ys (Rs.map fun R => kWord R.H.kd)) (q : Q (.bool false) s) :
    wpAny (model prog w) A (compareOp .NotEq (.ref a) (.ref b)) Q E s := by
  obtain ⟨_, r1⟩ := strs_reads (h := s.heap) hx
  obtain ⟨_, r2⟩ := strs_reads (h := s.heap) hy
  obtain ⟨g1, g2, g3⟩ := words_good Rs
  have hs : PySem.SeqAt.shaped (.list ((Rs.map fun R => kWord R.H.kd).map PyData.str)) = true := by
    simp only [SeqAt.shaped, PyData.canLay0, PyData.depth, g2, g3, Bool.true_and]
    rfl
  obtain ⟨oa, e1, c1, n1, d1⟩ := ha
  obtain ⟨ob, e2, c2, n2, d2⟩ := hb
  refine ne_dataH (reads_list_at e1 c1 d1 r1) (reads_list_at e2 c2 d2 r2) hs hs hu ?_
  simp only [PyData.eqv, g1, Bool.not_true]
  exact q
end
section
section
variable {prog : Program} {w : World} {A : Around} {E : Value → Shared → Prop} {s : Shared} {h₀ : Heap} {L : Addr} {m : Str → Option Value} {env : Env}
open LCg in
theorem ListComp_tup {elt iter : Expr} {x : Str} {px : Pos} {scope : Scope} {cl : List (Str × Addr)} {pos : Pos} {Q : Value → Shared → Prop}
    (hclos : closureFor scope env = pure cl) (hcell : ∀ y ∈ scope.names, y.2 ≠ .cell) (hkind : scope.kind = .function)
    (hnames : ∀ y ∈ scope.names, y.2 = .local → scope.names.lookup y.1 = some .local) (hx : scope.names.lookup x = some .local)
    (h : wpAny (model prog w) A (eval iter env) (fun xv s₁ => ∃ T l e news, xv = .ref T ∧ A.handled = none ∧ Fr h₀ L s₁.heap m ∧ News h₀ L s₁.heap news ∧ (T, tup l e) ∈ news ∧ l.length ≤ sizeLine ∧
      ∀ s₂ : Shared, (∃ h, s₂ = { s₁ with heap := h }) → CompRest prog w A h₀ L m env elt x scope cl s₂ (fun nw => (T, tup l e) ∈ nw) (fun i v => l.toArray[i]? = some v) (FinE h₀ L m s₂ Q) l.toArray.size 0 [] news) E s)
    (hs : ∀ x, foldedSetIterable iter env x = pure x := by intro _; rfl) :
    wpAny (model prog w) A (eval (.ListComp elt [⟨.Name x px, iter, [], 0⟩] scope pos) env) Q E s := by
  rw [eval_ListComp]
  refine wpAny_comprehension_free (use := none) rfl hs hclos hkind hnames (wpAny_mono h (fun xv s₁ h₁ => ?_) fun _ _ e => e)
  obtain ⟨T, l, e, news, rfl, hh, F, N, hm, hsz, R⟩ := h₁
  have hax := N _ hm
  have hl : s₁.heap.IsTuple T l.toArray := ⟨_, hax.1, rfl, e, rfl⟩
  have hlt : T < s₁.heap.objs.size := Heap.lt_size hax.1
  refine wpAny_pyIter_tuple hl ?_
  have up : ∀ b o, s₁.heap.get? b = some o → (s₁.heap.push { cls := .type "tuple_iterator", data := .fields #[.ref T, .int 0 0] }).get? b = some o := fun b o e => Heap.get?_push_of_some _ e
  refine block_U (Walks.tuple hh s₁.heap.objs.size T (Nat.ne_of_lt hlt) l.toArray) (by simpa using hsz) (fun i h st => by obtain ⟨o, e, _⟩ := st.1; exact ⟨o, e⟩) ?_ hcell hkind hx ⟨⟨_, Heap.get?_push_size _ rfl, rfl, rfl⟩, hl.at fun o e => up _ _ e⟩ (fun b hb => ?_)
    (F.keeps up) (N.grown up) (Nat.ne_of_lt F.ns.lt) (next_is_new F) (fun p hp => Nat.ne_of_lt (Heap.lt_size (N p hp).1)) hm (R _ ⟨_, rfl⟩) ?_
  · intro i h h' o nw st e1 e2 _ N' S'
    exact ⟨by obtain ⟨o', q, r⟩ := st.1; rw [e1] at q; cases q; exact ⟨o, e2, r⟩, ⟨_, (N' _ S').1, rfl, e, rfl⟩⟩
  · show b < (s₁.heap.push _).objs.size
    rw [Heap.size_push]
    rcases List.mem_cons.mp hb with rfl | hb
    · exact Nat.lt_succ_self _
    · rw [List.mem_singleton.mp hb]; exact Nat.lt_succ_of_lt hlt
  · intro D C h tk m' ys news' F' N' o1 hn hC₀ hD₀ hCL hDL hCD offC fin
    refine ⟨m', hn, fun h'' hs'' => fin D h'' tk (F'.change hs'' hCL hC₀) (fun p hp => ?_) o1⟩
    refine ⟨hs''.extBut _ _ ?_ (N' p hp).1, (N' p hp).2⟩
    rcases List.mem_cons.mp hp with rfl | hp
    · exact Ne.symm hCD
    · exact offC p hp
end
end
section
theorem top_off_Mp : True := by
  w_top off
  trivial
section
variable {w : World}
set_option maxRecDepth 100000 in
set_option maxHeartbeats 8000000 in
theorem t_copy_int {wx : Addr} {t : Tok} {x : Int} : TellU w 394 [.ref wx, .int x t] [] [] (fun h r h' => r = .int x t) := by
  walk_at "t_start"
  k_steps
  refine hret _ _ _ _ _ _ _ (by k_asm) (by assumption) (by k_asm) (by k_asm) (by walk_at "t_ro") ?_
  exact rfl
set_option maxRecDepth 100000 in
set_option maxHeartbeats 8000000 in
theorem t_copy_str {wx : Addr} {t : Tok} {x : Str} : TellU w 394 [.ref wx, .str x t] [] [] (fun h r h' => r = .str x t) := by
  walk_at "t_start"
  k_steps
  refine hret _ _ _ _ _ _ _ (by k_asm) (by assumption) (by k_asm) (by k_asm) (by walk_at "t_ro") ?_
  exact rfl
end
end
section
theorem top_off_V19 : True := by
  w_top off
  trivial
section
noncomputable def retStmts : List Stmt := match tailStmts with | _ :: _ :: _ :: _ :: x => x | _ => []
set_option maxRecDepth 100000 in
set_option maxHeartbeats 8000000 in
theorem ret_body {w : World} {mean : ExcName → Option Value} {mg mb : Str → Option Value} {fa : Addr} {cd : Value} {base h₀ : Heap} {L : Addr} {m : Str → Option Value} {s : Shared} {Q : Flow → Shared → Prop} {E : Value → Shared → Prop} {sc : Scope} {bd : List Stmt} (hsc : lawScope = sc) (B : Below callerA base [] h₀) (X : (hd.heap_1 w.params).In h₀) (T : Top lawView Loose mean mg mb h₀) (hbd : retStmts = bd) {wx wdd hl al : Addr} {av : List Value} {nn : Int} (hnn : nn = (av.length : Int)) {tn y0 y1 y2 y3 y4 y5 y6 y7 y8 y9 y10 y11 y12 y13 y14 y15 y16 y17 y18 y19 y20 y21 y22 y23 y24 y25 z32 z20 : Tok} {v1 v2 v3 v5 v6 v7 v8 v9 v10 v11 v12 v13 v14 v15 v16 v17 v18 v19 v22 v23 v24 v25 : Value} {oc1 : Obj} {e6 : Nat} {K : FX} (F : Fr h₀ L s.heap (fun y => if y = "all_of" then some (.ref al) else m y)) (N : News h₀ L s.heap K) (mc : (L + 1, oc1) ∈ K) (dc : oc1.data = .cell (some (.ref wx))) (mx : (wx, instObj 348 wdd) ∈ K) (mo : (wdd, dictOf [⟨PyData.keyHash w.params "width", .str "width" y0, .int 32 z32⟩, ⟨PyData.keyHash w.params "most_steps", .str "most_steps" y1, v1⟩, ⟨PyData.keyHash w.params "most_depth", .str "most_depth" y2, v2⟩, ⟨PyData.keyHash w.params "most_length", .str "most_length" y3, v3⟩, ⟨PyData.keyHash w.params "most_items", .str "most_items" y4, .int 20000 z20⟩, ⟨PyData.keyHash w.params "store", .str "store" y5, v5⟩, ⟨PyData.keyHash w.params "functions", .str "functions" y6, v6⟩, ⟨PyData.keyHash w.params "labels", .str "labels" y7, v7⟩, ⟨PyData.keyHash w.params "keywords", .str "keywords" y8, v8⟩, ⟨PyData.keyHash w.params "opsyns", .str "opsyns" y9, v9⟩, ⟨PyData.keyHash w.params "inputs", .str "inputs" y10, v10⟩, ⟨PyData.keyHash w.params "outputs", .str "outputs" y11, v11⟩, ⟨PyData.keyHash w.params "traces", .str "traces" y12, v12⟩, ⟨PyData.keyHash w.params "read_names", .str "read_names" y13, v13⟩, ⟨PyData.keyHash w.params "write_names", .str "write_names" y14, v14⟩, ⟨PyData.keyHash w.params "traced", .str "traced" y15, v15⟩, ⟨PyData.keyHash w.params "steps", .str "steps" y16, v16⟩, ⟨PyData.keyHash w.params "depth", .str "depth" y17, v17⟩, ⟨PyData.keyHash w.params "nested", .str "nested" y18, v18⟩, ⟨PyData.keyHash w.params "aside", .str "aside" y19, v19⟩, ⟨PyData.keyHash w.params "made", .str "made" y20, .int nn tn⟩, ⟨PyData.keyHash w.params "holders", .str "holders" y21, .ref hl⟩, ⟨PyData.keyHash w.params "evaluate", .str "evaluate" y22, v22⟩, ⟨PyData.keyHash w.params "make_code", .str "make_code" y23, v23⟩, ⟨PyData.keyHash w.params "matcher", .str "matcher" y24, v24⟩, ⟨PyData.keyHash w.params "kept_names", .str "kept_names" y25, v25⟩] 26) ∈ K) (ma : (al, listOf av.toArray e6) ∈ K) (hz : av.length < 20)
    (done : ∀ h' tk m', Fr h₀ L h' m' → Q (.ret (.bool true)) { s with heap := h', toks := tk }) :
    wpAny (model PW w) (callerA.deeper (envOfC "law" sc L fa cd)) (execs bd (envOfC "law" sc L fa cd)) Q E s := by
  have hS3 : Stop 3 := .mk
  have hS1 : Stop 1 := .mk
  subst hnn
  have hsc0 := hsc
  conv at hsc => lhs; whnf
  conv at hbd => lhs; whnf
  subst hsc hbd
  k_steps
  refine Hold.in ?_
  have Fm := fun _ : True => F
  refine ListComp_tup (h₀ := h₀) (L := L) (m := fun y => if y = "all_of" then some (.ref al) else m y) (by with_unfolding_all rfl) (by decide) (by rfl) (by decide) (by rfl) ?_
  k_steps
  refine Hold.in ?_
  rename Fr _ _ _ _ => F2
  rename News _ _ _ _ => N2
  obtain ⟨K2, hK2, N3⟩ := collapse N2
  have mT := hK2 ▸ List.mem_cons_self ..
  have KK : ∀ p ∈ K, p ∈ K2 := fun p hp => by rw [hK2]; exact List.mem_cons_of_mem _ hp
  have mc2 := KK _ mc
  have mx2 := KK _ mx
  have mo2 := KK _ mo
  have ma2 := KK _ ma
  clear mc mx mo ma N2
  refine ⟨_, [.int 5 _, .str "" _, .str "A" _], 0, K2, rfl, rfl, F2, N3, mT, by rw [sizeLine_eq]; exact Nat.le_of_ble_eq_true rfl, ?_⟩
  clear F2 N3 Fm
  rintro s2 ⟨g2, rfl⟩
  refine LCg.CompRest.succ ?_
  intro v0' I0 oI0 C0 oC0 D0 m0' h0 tk0 E0 hv0 hC0 hx0 F0 N0 off0 ne0
  obtain rfl := Option.some.inj hv0
  clear hv0
  k_steps
  refine Hold.in ?_
  refine' TellU.use (t_copy_int (wx := wx)) ?p1 ?p2 ?p3 ?p4 ?p5 ?p6 ?p7 (fun _ h => nomatch h) ?_
  case p1 => ktr_room
  case p2 => exact Nat.le_of_ble_eq_true rfl
  case p3 => k_asm
  case p4 => exact F0
  case p5 => k_asm
  case p6 => k_asm
  case p7 => exact rfl
  intro r0 g0 tg0 Fg0 k0 P0
  subst P0
  have Ng0 := after_call F0 N0 k0 (fun _ _ h => nomatch h) (new := []) (fun _ h => nomatch h)
  rw [List.nil_append] at Ng0
  refine LCg.CompEnd.intro Fg0 Ng0 K2 (fun p hp => hp) off0 mT ?_
  clear F0 N0 off0 hx0 hC0 ne0 Ng0 k0 Fg0
  refine LCg.CompRest.succ ?_
  intro v1' I1 oI1 C1 oC1 D1 m1' h1 tk1 E1 hv1 hC1 hx1 F1 N1 off1 ne1
  obtain rfl := Option.some.inj hv1
  clear hv1
  k_steps
  refine Hold.in ?_
  refine' TellU.use (t_copy_str (wx := wx)) ?p1 ?p2 ?p3 ?p4 ?p5 ?p6 ?p7 (fun _ h => nomatch h) ?_
  case p1 => ktr_room
  case p2 => exact Nat.le_of_ble_eq_true rfl
  case p3 => k_asm
  case p4 => exact F1
  case p5 => k_asm
  case p6 => k_asm
  case p7 => exact rfl
  intro r1 g1 tg1 Fg1 k1 P1
  subst P1
  have Ng1 := after_call F1 N1 k1 (fun _ _ h => nomatch h) (new := []) (fun _ h => nomatch h)
  rw [List.nil_append] at Ng1
  refine LCg.CompEnd.intro Fg1 Ng1 K2 (fun p hp => hp) off1 mT ?_
  clear F1 N1 off1 hx1 hC1 ne1 Ng1 k1 Fg1
  refine LCg.CompRest.succ ?_
  intro v2' I2 oI2 C2 oC2 D2 m2' h2 tk2 E2 hv2 hC2 hx2 F2 N2 off2 ne2
  obtain rfl := Option.some.inj hv2
  clear hv2
  k_steps
  refine Hold.in ?_
  refine' TellU.use (t_copy_str (wx := wx)) ?p1 ?p2 ?p3 ?p4 ?p5 ?p6 ?p7 (fun _ h => nomatch h) ?_
  case p1 => ktr_room
  case p2 => exact Nat.le_of_ble_eq_true rfl
  case p3 => k_asm
  case p4 => exact F2
  case p5 => k_asm
  case p6 => k_asm
  case p7 => exact rfl
  intro r2 g2 tg2 Fg2 k2 P2
  subst P2
  have Ng2 := after_call F2 N2 k2 (fun _ _ h => nomatch h) (new := []) (fun _ h => nomatch h)
  rw [List.nil_append] at Ng2
  refine LCg.CompEnd.intro Fg2 Ng2 K2 (fun p hp => hp) off2 mT ?_
  clear F2 N2 off2 hx2 hC2 ne2 Ng2 k2 Fg2
  refine LCg.CompRest.zero ?_
  intro D9 h9 tk9 F9 N9 o9
  k_steps
  rename Fr _ _ _ _ => F10
  rw [beq_self_eq_true]
  exact done _ _ _ F10
end
end
section
theorem top_off_V18 : True := by
  w_top off
  trivial
section
noncomputable def finStmts : List Stmt := match tailStmts with | _ :: x => x | _ => []
set_option maxRecDepth 100000 in
set_option maxHeartbeats 8000000 in
theorem fin_body {w : World} {mean : ExcName → Option Value} {mg mb : Str → Option Value} {fa : Addr} {cd : Value} {base h₀ : Heap} {L : Addr} {m : Str → Option Value} {s : Shared} {Q : Flow → Shared → Prop} {E : Value → Shared → Prop} {sc : Scope} {bd : List Stmt} (hsc : lawScope = sc) (B : Below callerA base [] h₀) (X : (hd.heap_1 w.params).In h₀) (T : Top lawView Loose mean mg mb h₀) (hbd : finStmts = bd) {bx ib wx wdd hl nm : Addr} {d : SD} (F : Fr h₀ L s.heap m) (N : News h₀ L s.heap (d.hot bx ib wdd hl nm L (Cs d.Rs ++ d.Fx))) (S : SOk w [] bx ib wx wdd hl nm L d m) (hl1 : d.Rs.length < 15)
    (done : ∀ h' tk m', Fr h₀ L h' m' → Q (.ret (.bool true)) { s with heap := h', toks := tk }) :
    wpAny (model PW w) (callerA.deeper (envOfC "law" sc L fa cd)) (execs bd (envOfC "law" sc L fa cd)) Q E s := by
  have hS7 : Stop 7 := .mk
  have hS6 : Stop 6 := .mk
  have hS4 : Stop 4 := .mk
  have hS2 : Stop 2 := .mk
  have hS1 : Stop 1 := .mk
  have hS0 : Stop 0 := .mk
  have hsc0 := hsc
  conv at hsc => lhs; whnf
  conv at hbd => lhs; whnf
  subst hsc hbd
  obtain ⟨Rs, al, wo, du, n, tn, vs, xs, e1, e2, e3, e4, e5, e6, e7, ow, oc1, oc2, oc3, Fx⟩ := d
  obtain ⟨hI, hn0, zv, z0, iw, dc1, ⟨vc2, dc2⟩, ⟨vc3, dc3⟩, ma, mw, mx, ap, ok, num, mb, mall, mn, md, mwo⟩ := S
  dsimp only [SD.hot] at *
  obtain ⟨K, hK, N1⟩ := collapse N
  have ma' : (al, listOf (avs Rs).toArray e6) ∈ K := by rw [hK]; exact in9 (List.mem_append_right _ ma)
  have mw' : (wo, listOf (wvs Rs).toArray e7) ∈ K := by rw [hK]; exact in9 (List.mem_append_right _ mw)
  have mx' : (wx, instObj 348 wdd) ∈ K := by rw [hK]; exact in9 (List.mem_append_right _ mx)
  have mo' : (wdd, ow) ∈ K := by rw [hK]; exact hot9 _ (by simp)
  have mh' : (hl, listOf (avs Rs).toArray e3) ∈ K := by rw [hK]; exact hot9 _ (by simp)
  have mc' : (L + 1, oc1) ∈ K := by rw [hK]; exact hot9 _ (by simp)
  have FK : ∀ p ∈ Fx, p ∈ K := fun p hp => by rw [hK]; exact in9 (List.mem_append_right _ hp)
  clear N ap hK dc2 dc3
  rw [upd_self mall, upd_self mwo] at F
  dsimp only at F
  walk_at "k_stmt"
  refine Hold.in ?_
  rename Fr _ _ _ _ => F2
  rename News _ _ _ _ => N2
  refine range2_rows F2 N2 ?_
  intro h2 tk2 ta tb tc hr F3 N3 _
  clear F2 N2
  k_steps
  refine Hold.in ?_
  have hn9 : Builtin.Range.rangeSize 1 ((Rs.length : Int) + 1) 1 = ((Rs.length : Nat) : Int) := by
    rw [rangeSize_nat]
    omega
  refine kll_range rfl F3 N3 hr (small_one (by omega) (by omega) (by omega) (by omega)) hn9 (by omega) ?_
  intro nu us cu h4 tk4 F4 N4 lu hus
  clear F3 N3 hr
  k_steps
  obtain ⟨K5, hK5, N5⟩ := collapse (by assumption : News _ _ _ _)
  rename Fr _ _ _ _ => F5
  have FK5 : ∀ p ∈ K, p ∈ K5 := fun p hp => by rw [hK5]; exact List.mem_cons_of_mem _ hp
  have mnu : (nu, listOf us.toArray cu) ∈ K5 := by rw [hK5]; exact List.mem_cons_self ..
  obtain ⟨_, _, _, rfl⟩ := iw
  have ma5 := FK5 _ ma'
  have mw5 := FK5 _ mw'
  have mx5 := FK5 _ mx'
  have mo5 := FK5 _ mo'
  have mh5 := FK5 _ mh'
  have mc5 := FK5 _ mc'
  clear ma' mw' mx' mo' mh' mc'
  try clear N'
  walk_at "k_stmt"
  refine Hold.in ?_
  refine LCg.ListComp_U (F₀ := F5) (by with_unfolding_all rfl) (by decide) (by rfl) (by decide) (by rfl) ?_
  k_steps
  refine Hold.in ?_
  refine LCg.CompSrc.ledger rfl F5 N5 ma5 (by rw [sizeLine_eq]; simp; omega) ?_
  intro g9
  refine comp_turns (.inr ⟨_, ma5, rfl, _, rfl⟩) (fun i ys => IntsAre ys (rangeKs 1 i)) ?_ ?_ _ 0 [] (Nat.zero_add _) .nil
  · intro i v ys I oI C oC D m₂ h tk E' KK hi hinv hv hC hx F9 N9 next
    have hi9 : i < Rs.length := by simpa using hi
    obtain ⟨R, hR, rfl⟩ : ∃ R, Rs[i]? = some R ∧ v = Value.ref R.H.x := by
      have hv9 : (avs Rs)[i]? = some v := by simpa using hv
      rw [List.getElem?_map] at hv9
      obtain ⟨R, hR, e⟩ := Option.map_eq_some_iff.mp hv9
      exact ⟨R, hR, e.symm⟩
    have hnum := num i R hR
    obtain ⟨d, o2, m2, hh⟩ := (ok R (List.mem_of_getElem? hR)).1.head
    have m2' := FK5 _ (FK _ m2)
    clear m2
    rcases hh with ⟨m1, bl, b, hi1⟩ | ⟨m1, ed, pd, b, hi1⟩ | ⟨m1, fl, b, hi1⟩
    · have m1' := FK5 _ (FK _ m1)
      clear m1
      obtain ⟨_, _, rfl⟩ := hi1
      k_steps
      refine next _ _ ?_
      rw [rangeKs_succ, hnum, Int.add_comm]
      exact ints_snoc hinv _ _
    · have m1' := FK5 _ (FK _ m1)
      clear m1
      obtain ⟨_, _, rfl⟩ := hi1
      k_steps
      refine next _ _ ?_
      rw [rangeKs_succ, hnum, Int.add_comm]
      exact ints_snoc hinv _ _
    · have m1' := FK5 _ (FK _ m1)
      clear m1
      obtain ⟨_, _, rfl⟩ := hi1
      k_steps
      refine next _ _ ?_
      rw [rangeKs_succ, hnum, Int.add_comm]
      exact ints_snoc hinv _ _
  intro ys1 hys1 D1 h6 tk6 F6 N6 _
  clear F5 N5
  k_steps
  refine Hold.in ?_
  have ez : ∀ l : List Value, l.toArray.size = l.length := fun l => by simp
  rw [ez, List.length_map] at hys1
  refine ke_ne_ints (PySem.IsL.isList (N6.get (List.mem_cons_self ..))) (PySem.IsL.isList (N6.get (List.mem_cons_of_mem _ mnu))) hys1 hus (by first | units_room | exact Nat.le_of_ble_eq_true rfl) ?_
  simp only [decide_true, Bool.not_true]
  k_steps
  refine Hold.in ?_
  refine LCg.ListComp_U (F₀ := F6) (by with_unfolding_all rfl) (by decide) (by rfl) (by decide) (by rfl) ?_
  k_steps
  refine Hold.in ?_
  refine LCg.CompSrc.ledger rfl F6 (news_tl N6) mh5 (by rw [sizeLine_eq]; simp; omega) ?_
  intro g9
  refine comp_turns (.inr ⟨_, mh5, rfl, _, rfl⟩) (fun i ys => IntsAre ys (rangeKs 1 i)) ?_ ?_ _ 0 [] (Nat.zero_add _) .nil
  · intro i v ys I oI C oC D m₂ h tk E' KK hi hinv hv hC hx F9 N9 next
    have hi9 : i < Rs.length := by simpa using hi
    obtain ⟨R, hR, rfl⟩ : ∃ R, Rs[i]? = some R ∧ v = Value.ref R.H.x := by
      have hv9 : (avs Rs)[i]? = some v := by simpa using hv
      rw [List.getElem?_map] at hv9
      obtain ⟨R, hR, e⟩ := Option.map_eq_some_iff.mp hv9
      exact ⟨R, hR, e.symm⟩
    have hnum := num i R hR
    obtain ⟨d, o2, m2, hh⟩ := (ok R (List.mem_of_getElem? hR)).1.kinds
    have m2' := FK5 _ (FK _ m2)
    clear m2
    rcases hh with ⟨kk, m1, bl, b, hi1⟩ | ⟨kk, m1, ed, pd, b, hi1⟩ | ⟨kk, m1, fl, b, hi1⟩
    · have m1' := FK5 _ (FK _ m1)
      clear m1
      obtain ⟨_, _, rfl⟩ := hi1
      k_steps
      refine next _ _ ?_
      rw [rangeKs_succ, hnum, Int.add_comm]
      exact ints_snoc hinv _ _
    · have m1' := FK5 _ (FK _ m1)
      clear m1
      obtain ⟨_, _, rfl⟩ := hi1
      k_steps
      refine next _ _ ?_
      rw [rangeKs_succ, hnum, Int.add_comm]
      exact ints_snoc hinv _ _
    · have m1' := FK5 _ (FK _ m1)
      clear m1
      obtain ⟨_, _, rfl⟩ := hi1
      k_steps
      refine next _ _ ?_
      rw [rangeKs_succ, hnum, Int.add_comm]
      exact ints_snoc hinv _ _
  intro ys2 hys2 D2 h7 tk7 F7 N7 _
  clear F6 N6
  k_steps
  refine Hold.in ?_
  rw [ez, List.length_map] at hys2
  refine ke_ne_ints (PySem.IsL.isList (N7.get (List.mem_cons_self ..))) (PySem.IsL.isList (N7.get (List.mem_cons_of_mem _ mnu))) hys2 hus (by first | units_room | exact Nat.le_of_ble_eq_true rfl) ?_
  simp only [decide_true, Bool.not_true]
  k_steps
  replace N7 := news_tl N7
  walk_at "k_stmt"
  refine Hold.in ?_
  refine LCg.ListComp_U (F₀ := F7) (by with_unfolding_all rfl) (by decide) (by rfl) (by decide) (by rfl) ?_
  k_steps
  refine Hold.in ?_
  refine LCg.CompSrc.ledger rfl F7 N7 ma5 (by rw [sizeLine_eq]; simp; omega) ?_
  intro g9
  refine comp_turns (.inr ⟨_, ma5, rfl, _, rfl⟩) (fun i ys => StrsAre ys ((Rs.take i).map fun R => kWord R.H.kd)) ?_ ?_ _ 0 [] (Nat.zero_add _) .nil
  · intro i v ys I oI C oC D m₂ h tk E' KK hi hinv hv hC hx F9 N9 next
    have hi9 : i < Rs.length := by simpa using hi
    obtain ⟨R, hR, rfl⟩ : ∃ R, Rs[i]? = some R ∧ v = Value.ref R.H.x := by
      have hv9 : (avs Rs)[i]? = some v := by simpa using hv
      rw [List.getElem?_map] at hv9
      obtain ⟨R, hR, e⟩ := Option.map_eq_some_iff.mp hv9
      exact ⟨R, hR, e.symm⟩
    have hnum := num i R hR
    obtain ⟨d, o2, m2, hh⟩ := (ok R (List.mem_of_getElem? hR)).1.kinds
    have m2' := FK5 _ (FK _ m2)
    clear m2
    rcases hh with ⟨kk, m1, bl, b, hi1⟩ | ⟨kk, m1, ed, pd, b, hi1⟩ | ⟨kk, m1, fl, b, hi1⟩
    · have m1' := FK5 _ (FK _ m1)
      clear m1
      obtain ⟨_, _, rfl⟩ := hi1
      k_steps
      refine next _ _ ?_
      rw [List.take_add_one, hR, List.map_append]
      show StrsAre _ (_ ++ [kWord R.H.kd])
      rw [kk]
      exact strs_snoc hinv _ _
    · have m1' := FK5 _ (FK _ m1)
      clear m1
      obtain ⟨_, _, rfl⟩ := hi1
      k_steps
      refine next _ _ ?_
      rw [List.take_add_one, hR, List.map_append]
      show StrsAre _ (_ ++ [kWord R.H.kd])
      rw [kk]
      exact strs_snoc hinv _ _
    · have m1' := FK5 _ (FK _ m1)
      clear m1
      obtain ⟨_, _, rfl⟩ := hi1
      k_steps
      refine next _ _ ?_
      rw [List.take_add_one, hR, List.map_append]
      show StrsAre _ (_ ++ [kWord R.H.kd])
      rw [kk]
      exact strs_snoc hinv _ _
  intro ys3 hys3 D3 h8 tk8 F8 N8 _
  clear F7 N7
  k_steps
  refine Hold.in ?_
  have hys4 : StrsAre ys3 (Rs.map fun R => kWord R.H.kd) := by
    rw [ez, List.length_map, List.take_length] at hys3
    exact hys3
  refine ne_words (by first | units_room | exact Nat.le_of_ble_eq_true rfl) (PySem.IsL.isList (N8.get (List.mem_cons_self ..))) (PySem.IsL.isList (N8.get (List.mem_cons_of_mem _ mw5))) hys4 (wvs_are Rs) ?_
  k_steps
  refine Hold.in ?_
  replace N8 := news_tl N8
  dsimp only
  obtain ⟨m8, F9, e8⟩ : ∃ m8, Fr h₀ L _ m8 ∧ m8 "all_of" = some (.ref al) := ⟨_, F8, by walk_at "t_map"⟩
  rw [upd_self e8] at F9
  exact ret_body hsc0 B X T rfl (av := avs Rs) (by rw [List.length_map]) F9 N8 mc5 dc1 mx5 mo5 ma5 (by rw [List.length_map]; omega) (fun h' tk m' F' => done h' tk m' F')
end
end
section
theorem top_off_Sx : True := by
  w_top off
  trivial
section
variable {w : World}
local macro_rules | `(tactic| walk_at "compareOp In str str") => `(tactic| (k_here; first | (refine' in_lit (b := false) ?e ?_; (case e => decide +kernel)) | (refine' in_lit (b := true) ?e ?_; (case e => decide +kernel))))
local macro_rules | `(tactic| walk_at "compareOp LtE str str") => `(tactic| (k_here; first | (refine' le_lit (b := true) ?e ?_; (case e => decide)) | (refine' le_lit (b := false) ?e ?_; (case e => decide))))
set_option maxRecDepth 100000 in
set_option maxHeartbeats 8000000 in
theorem t_whole {t1 t2 : Tok} {x : Str} (hx : x = "3") : TellD w 170 [.str x t1, .int 32 t2] [] [] (fun h r h' => ∃ t, r = .int 3 t) := by
  have hS9 : Stop 9 := .mk
  subst hx
  walk_at "t_start"
  k_steps
  · refine Hold.in ?_
    rename Fr _ _ _ _ => lF9
    refine' For_invF lF9 ?hx ?hp ?_ ?hs ?hE
    case hx => rfl
    case hp => rfl
    case hs => (intro _; rfl)
    case hE => passes_own
    k_steps
    refine hret _ _ _ _ _ _ _ (by k_asm) (by assumption) (by k_asm) (by k_asm) (by intro p hp; cases hp) ?_
    exact ⟨_, rfl⟩
end
end
section
theorem top_off_Sb : True := by
  w_top off
  trivial
section
variable {w : World}
set_option maxRecDepth 100000 in
set_option maxHeartbeats 8000000 in
theorem t_bounds {t1 t2 : Tok} : Tell w 262 [.str "3" t1, .int 32 t2] [] [] (fun h r h' => ∃ a b o1 o2 u1 u2, r = .ref a ∧ IsLst [.ref b] o1 ∧ Fresh h h' a o1 ∧ IsTp [.int 1 u1, .int 3 u2] o2 ∧ Fresh h h' b o2) := by
  walk_at "t_start"
  k_steps
  refine Hold.in ?_
  refine' TellD.use (t_whole (by rfl)) ?p1 ?p2 ?p3 ?p4 ?p5 ?p6 ?p7 ?p8 ?_
  case p1 => ktr_room
  case p2 => ktr_units
  case p3 => k_asm
  case p4 => k_asm
  case p5 => k_asm
  case p6 => k_asm
  case p7 => first | exact rfl | assumption
  case p8 => exact (fun p hp => nomatch hp)
  intro rT hT tkT FT kT PT
  obtain ⟨tt, ht⟩ := PT
  subst ht
  rename News _ _ _ _ => N9
  have N8 := News.grown N9 (fun b o e => kT b o e (fun h => nomatch h))
  clear N9 kT
  k_steps
  refine hret _ _ _ _ _ _ _ (by k_asm) (by assumption) (by k_asm) (by k_asm) (by intro p hp; cases hp) ?_
  have f2 := fresh_lt (ro := []) (by assumption) (by assumption) (List.mem_cons_self ..) (fun p hp => nomatch hp)
  have f1 := fresh_lt (ro := []) (by assumption) (by assumption) (List.mem_cons_of_mem _ (List.mem_cons_of_mem _ (List.mem_cons_of_mem _ (List.mem_cons_self ..)))) (fun p hp => nomatch hp)
  exact ⟨_, _, _, _, _, _, rfl, ⟨_, rfl⟩, f1, ⟨_, rfl⟩, f2⟩
end
end
section
theorem top_off_Sma : True := by
  w_top off
  trivial
section
variable {w : World}
set_option maxRecDepth 100000 in
set_option maxHeartbeats 8000000 in
theorem t_mk_arr {wx wdd hl : Addr} {n : Int} {tn t1 t2 : Tok} {yw : Nat → Tok} {vw : Nat → Value} {hs : List Value} {eh : Nat} (h0 : 0 ≤ n) (h1 : n < 90) (zh : hs.length < 50) (n1 : wdd ≠ wx) (n2 : wdd ≠ hl) (n3 : wx ≠ hl) :
    TellU w 373 [.ref wx, .str "3" t1, .str "" t2] [(wdd, wdO w yw vw n tn hl), (hl, listOf hs.toArray eh)] [(wx, instObj 348 wdd)] (fun h r h' => ∃ x' d' b' bl bt o2' o3' o4 o5 t u1 u2, r = .ref x' ∧ Fresh h h' x' (instObj 208 d') ∧ IsArr w (n + 1) bl b' o2' ∧ Fresh h h' d' o2' ∧ IsLst [.str "" t, .str "" t, .str "" t] o3' ∧ Fresh h h' b' o3' ∧ IsLst [.ref bt] o4 ∧ Fresh h h' bl o4 ∧ IsTp [.int 1 u1, .int 3 u2] o5 ∧ Fresh h h' bt o5 ∧ (∃ t, h'.get? wdd = some (wdO w yw vw (n + 1) t hl)) ∧ ∃ eh', h'.get? hl = some (listOf (hs ++ [r]).toArray eh')) := by
  walk_at "t_start"
  k_steps
  rename News _ _ _ _ => N9
  refine Hold.in ?_
  refine' Tell.use (t_next (x := wx) (d := wdd) h0 (by omega) n1) ?p1 ?p2 ?p3 ?p4 ?p5 ?p6 ?p7 (two_of N9 (List.mem_cons_self ..) (List.mem_cons_of_mem _ (List.mem_cons_of_mem _ (List.mem_cons_self ..)))) ?_
  case p1 => ktr_room
  case p2 => ktr_units
  case p3 => k_asm
  case p4 => k_asm
  case p5 => k_asm
  case p6 => k_asm
  case p7 => first | exact rfl | assumption
  intro q1 h1 tk1 F1 k1 P1
  obtain ⟨t1, hq1, g1⟩ := P1
  subst hq1
  have N1 := head_after N9 k1 (ne_cons n2.symm (ne_cons n1.symm (fun _ h => nomatch h))) g1
  clear N9
  k_steps
  refine Hold.in ?_
  refine' Tell.use t_bounds ?p1 ?p2 ?p3 ?p4 ?p5 ?p6 ?p7 (fun p hp => nomatch hp) ?_
  case p1 => ktr_room
  case p2 => ktr_units
  case p3 => k_asm
  case p4 => k_asm
  case p5 => k_asm
  case p6 => k_asm
  case p7 => first | exact rfl | assumption
  intro q2 h2 tk2 F2 k2 P2
  obtain ⟨bl, bt, ob1, ob2, ub1, ub2, hq2, ⟨eb1, hb1⟩, fb1, ⟨eb2, hb2⟩, fb2⟩ := P2
  subst hq2 hb1 hb2
  have N2 := fresh_news (by assumption) (fresh_news (by assumption) (News.grown N1 (fun b o e => k2 b o e (fun h => nomatch h))) fb2) fb1
  have e1 : bl ≠ wdd := fresh_ne fb1 (N1 _ (List.mem_cons_self ..)).1
  have e2 : bl ≠ hl := fresh_ne fb1 (N1 _ (List.mem_cons_of_mem _ (List.mem_cons_self ..))).1
  have e3 : bl ≠ wx := fresh_ne fb1 (N1 _ (List.mem_cons_of_mem _ (List.mem_cons_of_mem _ (List.mem_cons_self ..)))).1
  have e4 : bt ≠ wdd := fresh_ne fb2 (N1 _ (List.mem_cons_self ..)).1
  have e5 : bt ≠ hl := fresh_ne fb2 (N1 _ (List.mem_cons_of_mem _ (List.mem_cons_self ..))).1
  have e6 : bt ≠ wx := fresh_ne fb2 (N1 _ (List.mem_cons_of_mem _ (List.mem_cons_of_mem _ (List.mem_cons_self ..)))).1
  clear N1 fb1 fb2 k1 k2
  k_steps
  refine Hold.in ?_
  rename News _ _ _ _ => N9
  have N8 := pull8 N9
  clear N9
  refine' Tell.use (t_held (v := Value.ref _) (hl := hl) zh ?mw ?md ?r2) ?p1 ?p2 ?p3 ?p4 ?p5 ?p6 ?p7 N8 ?_
  case p1 => ktr_room
  case p2 => ktr_units
  case p3 => k_asm
  case p4 => k_asm
  case p5 => k_asm
  case p6 => k_asm
  case p7 => first | exact rfl | assumption
  case mw => walk_at "t_mem"
  case md => walk_at "t_mem"
  case r2 =>
    simp only [List.mem_cons, List.not_mem_nil, or_false, forall_eq_or_imp, forall_eq]
    refine ⟨?_, ?_, ?_, ?_, ?_, ?_, ?_, ?_, ?_⟩ <;> walk_at "t_ne"
  intro q3 h3 tk3 F3 k3 P3
  obtain ⟨hq3, eh', g3⟩ := P3
  subst hq3
  have N3 := head_after N8 k3 (by
    simp only [List.mem_cons, List.not_mem_nil, or_false, forall_eq_or_imp, forall_eq]
    refine ⟨?_, ?_, ?_, ?_, ?_, ?_, ?_, ?_, ?_⟩ <;> walk_at "t_ne") g3
  clear N8 k3
  k_steps
  refine hret _ _ _ _ _ _ _ (by k_asm) (by assumption) (by k_asm) (by k_asm) (by intro p hp; rw [List.mem_singleton.mp hp]; walk_at "t_mem") ?_
  rename GSub s.heap _ _ => kG0
  have kG : GSub s.heap _ [wdd, hl, wx] := kG0
  have fb := fresh_of kG N3 (List.mem_cons_of_mem _ (List.mem_cons_self ..)) (off3 (by walk_at "t_ne") (by walk_at "t_ne") (by walk_at "t_ne"))
  have fx := fresh_of kG N3 (List.mem_cons_of_mem _ (List.mem_cons_of_mem _ (List.mem_cons_of_mem _ (List.mem_cons_self ..)))) (off3 (by walk_at "t_ne") (by walk_at "t_ne") (by walk_at "t_ne"))
  have fd := fresh_of kG N3 (List.mem_cons_of_mem _ (List.mem_cons_of_mem _ (List.mem_cons_of_mem _ (List.mem_cons_of_mem _ (List.mem_cons_self ..))))) (off3 (by walk_at "t_ne") (by walk_at "t_ne") (by walk_at "t_ne"))
  have fl := fresh_of kG N3 (List.mem_cons_of_mem _ (List.mem_cons_of_mem _ (List.mem_cons_of_mem _ (List.mem_cons_of_mem _ (List.mem_cons_of_mem _ (List.mem_cons_of_mem _ (List.mem_cons_self ..))))))) (off3 (by walk_at "t_ne") (by walk_at "t_ne") (by walk_at "t_ne"))
  have ft := fresh_of kG N3 (List.mem_cons_of_mem _ (List.mem_cons_of_mem _ (List.mem_cons_of_mem _ (List.mem_cons_of_mem _ (List.mem_cons_of_mem _ (List.mem_cons_of_mem _ (List.mem_cons_of_mem _ (List.mem_cons_self ..)))))))) (off3 (by walk_at "t_ne") (by walk_at "t_ne") (by walk_at "t_ne"))
  exact ⟨_, _, _, _, _, _, _, _, _, _, _, _, rfl, fx, isArr_of, fd, ⟨_, rfl⟩, fb, ⟨_, rfl⟩, fl, ⟨_, rfl⟩, ft, ⟨_, (N3 _ (List.mem_cons_of_mem _ (List.mem_cons_of_mem _ (List.mem_cons_of_mem _ (List.mem_cons_of_mem _ (List.mem_cons_of_mem _ (List.mem_cons_of_mem _ (List.mem_cons_of_mem _ (List.mem_cons_of_mem _ (List.mem_cons_self ..)))))))))).1⟩, ⟨_, g3⟩⟩
end
end
section
theorem top_off_Sd : True := by
  w_top off
  trivial
section
variable {w : World}
set_option maxRecDepth 100000 in
set_option maxHeartbeats 8000000 in
theorem t_datac {n : Int} {tn t1 : Tok} {fl vl : Addr} {u1 u2 u3 : Tok} {o1 o2 : Obj} (i1 : IsLst [.str "A" u1, .str "B" u2, .str "C" u3] o1) (i2 : IsLst [] o2) : Tell w 323 [.int n tn, .str "CELL" t1, .ref fl, .ref vl] [] [(fl, o1), (vl, o2)] (fun h r h' => ∃ x' d' b' o2' o3' t, r = .ref x' ∧ Fresh h h' x' (instObj 246 d') ∧ IsDat w n fl b' o2' ∧ Fresh h h' d' o2' ∧ IsLst [.str "" t, .str "" t, .str "" t] o3' ∧ Fresh h h' b' o3') := by
  obtain ⟨_, rfl⟩ := i1
  obtain ⟨_, rfl⟩ := i2
  walk_at "t_start"
  k_steps
  refine hret _ _ _ _ _ _ _ (by k_asm) (by assumption) (by k_asm) (by k_asm) (by walk_at "t_ro") ?_
  refine ⟨_, _, _, _, _, _, rfl, fresh_lt (by assumption) (by assumption) (by walk_at "t_mem") ?f1, isDat_of, fresh_lt (by assumption) (by assumption) (by walk_at "t_mem") ?f2, ⟨_, rfl⟩, fresh_lt (by assumption) (by assumption) (by walk_at "t_mem") ?f3⟩
  all_goals (simp only [List.mem_cons, List.not_mem_nil, or_false, forall_eq_or_imp, forall_eq]; omega)
end
end
section
theorem top_off_Smd : True := by
  w_top off
  trivial
section
variable {w : World}
set_option maxRecDepth 100000 in
set_option maxHeartbeats 8000000 in
theorem t_mk_dat {wx wdd hl fl vl : Addr} {n : Int} {tn t1 : Tok} {yw : Nat → Tok} {vw : Nat → Value} {hs : List Value} {eh : Nat} {u1 u2 u3 : Tok} {o1 o2 : Obj} (h0 : 0 ≤ n) (h1 : n < 90) (zh : hs.length < 50) (i1 : IsLst [.str "A" u1, .str "B" u2, .str "C" u3] o1) (i2 : IsLst [] o2) (n1 : wdd ≠ wx) (n2 : wdd ≠ hl) (n3 : wx ≠ hl) (n4 : fl ≠ wdd) (n5 : fl ≠ hl) (n6 : vl ≠ wdd) (n7 : vl ≠ hl) :
    TellU w 387 [.ref wx, .str "CELL" t1, .ref fl, .ref vl] [(wdd, wdO w yw vw n tn hl), (hl, listOf hs.toArray eh)] [(wx, instObj 348 wdd), (fl, o1), (vl, o2)] (fun h r h' => ∃ x' d' b' o2' o3' t, r = .ref x' ∧ Fresh h h' x' (instObj 246 d') ∧ IsDat w (n + 1) fl b' o2' ∧ Fresh h h' d' o2' ∧ IsLst [.str "" t, .str "" t, .str "" t] o3' ∧ Fresh h h' b' o3' ∧ (∃ t, h'.get? wdd = some (wdO w yw vw (n + 1) t hl)) ∧ ∃ eh', h'.get? hl = some (listOf (hs ++ [r]).toArray eh')) := by
  walk_at "t_start"
  k_steps
  have kE := kept_ro (tp := []) (by assumption) (by assumption) (by assumption) N (fun p hp => hp)
  rename News _ _ _ _ => N9
  refine Hold.in ?_
  refine' Tell.use (t_next (x := wx) (d := wdd) h0 (by omega) n1) ?p1 ?p2 ?p3 ?p4 ?p5 ?p6 ?p7 (two_of N9 (List.mem_cons_self ..) (List.mem_cons_of_mem _ (List.mem_cons_of_mem _ (List.mem_cons_self ..)))) ?_
  case p1 => ktr_room
  case p2 => ktr_units
  case p3 => k_asm
  case p4 => k_asm
  case p5 => k_asm
  case p6 => k_asm
  case p7 => first | exact rfl | assumption
  intro q1 h1 tk1 F1 k1 P1
  obtain ⟨t1, hq1, g1⟩ := P1
  subst hq1
  have N1 := head_after N9 k1 (ne_cons n2.symm (ne_cons n1.symm (ne_cons n4 (ne_cons n6 (fun _ h => nomatch h))))) g1
  clear N9
  k_steps
  refine Hold.in ?_
  refine' Tell.use (t_datac i1 i2) ?p1 ?p2 ?p3 ?p4 ?p5 ?p6 ?p7 (fun p hp => N1 p (List.mem_cons_of_mem _ (List.mem_cons_of_mem _ (List.mem_cons_of_mem _ hp)))) ?_
  case p1 => ktr_room
  case p2 => ktr_units
  case p3 => k_asm
  case p4 => k_asm
  case p5 => k_asm
  case p6 => k_asm
  case p7 => first | exact rfl | assumption
  intro q2 h2 tk2 F2 k2 P2
  obtain ⟨x', d', b', o2', o3', tt, hq2, fx, ix, fd, ib, fb⟩ := P2
  subst hq2
  have N2 := News.grown N1 (fun b o e => k2 b o e (fun h => nomatch h))
  k_steps
  refine Hold.in ?_
  refine' Tell.use (t_held (v := Value.ref x') (hl := hl) (ro := [_, _, _, _]) zh (List.mem_cons_of_mem _ (List.mem_cons_self ..)) (List.mem_cons_self ..) (ne_cons n2 (ne_cons n3 (ne_cons n5 (ne_cons n7 (fun _ h => nomatch h)))))) ?p1 ?p2 ?p3 ?p4 ?p5 ?p6 ?p7 (swap_of N2) ?_
  case p1 => ktr_room
  case p2 => ktr_units
  case p3 => k_asm
  case p4 => k_asm
  case p5 => k_asm
  case p6 => k_asm
  case p7 => first | exact rfl | assumption
  intro q3 h3 tk3 F3 k3 P3
  obtain ⟨hq3, eh', g3⟩ := P3
  subst hq3
  have N3 := head_after (ro := [_, _, _, _]) (swap_of N2) k3 (ne_cons n2 (ne_cons n3 (ne_cons n5 (ne_cons n7 (fun _ h => nomatch h))))) g3
  k_steps
  have tr : ∀ a o, Fresh h1 h2 a o → Fresh s.heap h3 a o := fun a o f => fresh_trans (GSub.trans kE k1) (fun b hb => by rw [List.mem_singleton.mp hb]; exact ⟨_, g1⟩) k3 (fun b hb => by rw [List.mem_singleton.mp hb]; exact ⟨_, (N1 _ (List.mem_cons_of_mem _ (List.mem_cons_self ..))).1⟩) f
  clear k1 k2 k3 kE
  refine hret _ _ _ _ _ _ _ (by k_asm) (by assumption) (by k_asm) (by k_asm) (by walk_at "t_ro") ?_
  exact ⟨_, _, _, _, _, _, rfl, tr _ _ fx, ix, tr _ _ fd, ib, tr _ _ fb, ⟨_, (N3 _ (List.mem_cons_of_mem _ (List.mem_cons_self ..))).1⟩, ⟨_, g3⟩⟩
end
end
section
theorem top_off_Smt : True := by
  w_top off
  trivial
section
variable {w : World}
set_option maxRecDepth 100000 in
set_option maxHeartbeats 8000000 in
theorem t_mk_tbl {wx wdd hl : Addr} {n : Int} {tn : Tok} {yw : Nat → Tok} {vw : Nat → Value} {hs : List Value} {eh : Nat} (h0 : 0 ≤ n) (h1 : n < 90) (zh : hs.length < 50) (n1 : wdd ≠ wx) (n2 : wdd ≠ hl) (n3 : wx ≠ hl) :
    TellU w 380 [.ref wx] [(wdd, wdO w yw vw n tn hl), (hl, listOf hs.toArray eh)] [(wx, instObj 348 wdd)] (fun h r h' => ∃ x' d' ed' pd' b' o2' ep1 ep2 eb, r = .ref x' ∧ Fresh h h' x' (instObj 227 d') ∧ IsTab w (n + 1) ed' pd' b' o2' ∧ Fresh h h' d' o2' ∧ Fresh h h' ed' (tdOf PW w [] ep1) ∧ Fresh h h' pd' (tdOf PW w [] ep2) ∧ Fresh h h' b' (listOf [].toArray eb) ∧ ed' ≠ pd' ∧ (∃ t, h'.get? wdd = some (wdO w yw vw (n + 1) t hl)) ∧ ∃ eh', h'.get? hl = some (listOf (hs ++ [r]).toArray eh')) := by
  walk_at "t_start"
  k_steps
  rename News _ _ _ _ => N9
  refine Hold.in ?_
  refine' Tell.use (t_next (x := wx) (d := wdd) h0 (by omega) n1) ?p1 ?p2 ?p3 ?p4 ?p5 ?p6 ?p7 (two_of N9 (List.mem_cons_self ..) (List.mem_cons_of_mem _ (List.mem_cons_of_mem _ (List.mem_cons_self ..)))) ?_
  case p1 => ktr_room
  case p2 => ktr_units
  case p3 => k_asm
  case p4 => k_asm
  case p5 => k_asm
  case p6 => k_asm
  case p7 => first | exact rfl | assumption
  intro q1 h1 tk1 F1 k1 P1
  obtain ⟨t1, hq1, g1⟩ := P1
  subst hq1
  have N1 := head_after N9 k1 (ne_cons n2.symm (ne_cons n1.symm (fun _ h => nomatch h))) g1
  clear N9 k1
  k_steps
  refine Hold.in ?_
  rename Obj.IsDictOf (intKind _ _) _ [] => hi1
  obtain ⟨ep1, hh1⟩ := td_nil hi1
  subst hh1
  clear hi1
  rename Obj.IsDictOf (intKind _ _) _ [] => hi1
  obtain ⟨ep2, hh2⟩ := td_nil hi1
  subst hh2
  clear hi1
  rename News _ _ _ _ => N9
  have N8 := pull6 N9
  clear N9
  refine' Tell.use (t_held (v := Value.ref _) (hl := hl) zh ?mw ?md ?r2) ?p1 ?p2 ?p3 ?p4 ?p5 ?p6 ?p7 N8 ?_
  case p1 => ktr_room
  case p2 => ktr_units
  case p3 => k_asm
  case p4 => k_asm
  case p5 => k_asm
  case p6 => k_asm
  case p7 => first | exact rfl | assumption
  case mw => walk_at "t_mem"
  case md => walk_at "t_mem"
  case r2 =>
    simp only [List.mem_cons, List.not_mem_nil, or_false, forall_eq_or_imp, forall_eq]
    refine ⟨?_, ?_, ?_, ?_, ?_, ?_, ?_⟩ <;> walk_at "t_ne"
  intro q3 h3 tk3 F3 k3 P3
  obtain ⟨hq3, eh', g3⟩ := P3
  subst hq3
  have N3 := head_after N8 k3 (by
    simp only [List.mem_cons, List.not_mem_nil, or_false, forall_eq_or_imp, forall_eq]
    refine ⟨?_, ?_, ?_, ?_, ?_, ?_, ?_⟩ <;> walk_at "t_ne") g3
  clear N8 k3
  k_steps
  refine hret _ _ _ _ _ _ _ (by k_asm) (by assumption) (by k_asm) (by k_asm) (by intro p hp; rw [List.mem_singleton.mp hp]; walk_at "t_mem") ?_
  rename GSub s.heap _ _ => kG0
  have kG : GSub s.heap _ [wdd, hl, wx] := kG0
  have fb := fresh_of kG N3 (List.mem_cons_of_mem _ (List.mem_cons_self ..)) (off3 (by walk_at "t_ne") (by walk_at "t_ne") (by walk_at "t_ne"))
  have fp := fresh_of kG N3 (List.mem_cons_of_mem _ (List.mem_cons_of_mem _ (List.mem_cons_self ..))) (off3 (by walk_at "t_ne") (by walk_at "t_ne") (by walk_at "t_ne"))
  have fe := fresh_of kG N3 (List.mem_cons_of_mem _ (List.mem_cons_of_mem _ (List.mem_cons_of_mem _ (List.mem_cons_self ..)))) (off3 (by walk_at "t_ne") (by walk_at "t_ne") (by walk_at "t_ne"))
  have fx := fresh_of kG N3 (List.mem_cons_of_mem _ (List.mem_cons_of_mem _ (List.mem_cons_of_mem _ (List.mem_cons_of_mem _ (List.mem_cons_self ..))))) (off3 (by walk_at "t_ne") (by walk_at "t_ne") (by walk_at "t_ne"))
  have fd := fresh_of kG N3 (List.mem_cons_of_mem _ (List.mem_cons_of_mem _ (List.mem_cons_of_mem _ (List.mem_cons_of_mem _ (List.mem_cons_of_mem _ (List.mem_cons_self ..)))))) (off3 (by walk_at "t_ne") (by walk_at "t_ne") (by walk_at "t_ne"))
  exact ⟨_, _, _, _, _, _, _, _, _, rfl, fx, isTab_of, fd, fe, fp, fb, (by walk_at "t_ne"), ⟨_, (N3 _ (List.mem_cons_of_mem _ (List.mem_cons_of_mem _ (List.mem_cons_of_mem _ (List.mem_cons_of_mem _ (List.mem_cons_of_mem _ (List.mem_cons_of_mem _ (List.mem_cons_self ..)))))))).1⟩, ⟨_, g3⟩⟩
end
end
section
theorem news_diff {h₀ h : Heap} {L a b : Addr} {o x : Obj} {K : FX} (N : News h₀ L h K) (m1 : (a, o) ∈ K) (m2 : (b, x) ∈ K) (n : o ≠ x) : a ≠ b := fun e => by
  have h1 := (N _ m1).1
  have h2 := (N _ m2).1
  simp only at h1 h2
  rw [e, h2] at h1
  exact n (Option.some.inj h1).symm
theorem wd_cls {w : World} {n : Int} {hl : Addr} {o : Obj} (h : IsWd w n hl o) : o.cls = .type "dict" := by
  obtain ⟨_, _, _, rfl⟩ := h
  rfl
theorem wd_cell {w : World} {n : Int} {hl : Addr} {o : Obj} (h : IsWd w n hl o) : ∀ v, o.data ≠ .cell v := by
  obtain ⟨_, _, _, rfl⟩ := h
  intro v h
  cases h
end
section
theorem top_off_V23 : True := by
  w_top off
  trivial
section
noncomputable def startStmt : Stmt := match lawStmts with | x :: _ => x | _ => .Pass ⟨0, 0, 0, 0⟩
theorem pickT {h₀ h : Heap} {L : Addr} {a1 a2 a3 a4 a5 a6 a7 a8 c3 c2 c1 : Addr × Obj} (N : News h₀ L h (a1 :: a2 :: a3 :: a4 :: a5 :: a6 :: a7 :: a8 :: c3 :: c2 :: c1 :: [])) : News h₀ L h [a5, a3, a4, a6, a7, c3, c2, c1] := fun p hp => N p (sb_use hp (by walk_at "t_sub"))
theorem News.drop1 {h₀ h : Heap} {L b x : Addr} {p : Addr × Obj} {es : List DictEntry} {n : Nat} {r : List (Addr × Obj)} (N : News h₀ L h (p :: (x, instObj 348 b) :: (b, dictOf es n) :: r)) (_ : Nat.blt n 22 = true) : News h₀ L h ((x, instObj 348 b) :: (b, dictOf es n) :: r) := fun q hq => N q (List.mem_cons_of_mem _ hq)
noncomputable def Mark : Prop := True
local macro_rules | `(tactic| walk_at "execs cons") => `(tactic| (k_here; (rename News _ _ _ _ => N9); dsimp only at N9; walk_at "execs cons"))
set_option hygiene false in
local macro_rules | `(tactic| walk_at "execs cons") => `(tactic| (k_here; (rename News _ _ _ _ => N9); (have N8 := News.drop1 N9 rfl); clear N9; (try dsimp only at N8); walk_at "execs cons"))
set_option hygiene false in
local macro_rules | `(tactic| walk_at "execs cons") => `(tactic| (k_here; (fail_if_success (have hM9 : Mark := by assumption)); (rename Fr _ _ _ _ => F9); (refine let_fr F9 ?_); clear F9; intro mk F9; (have hM9 : Mark := trivial); walk_at "execs cons"))
set_option maxRecDepth 100000 in
set_option maxHeartbeats 8000000 in
theorem law_start {w : World} {mean : ExcName → Option Value} {mg mb : Str → Option Value} {fa : Addr} {cd : Value} {base h₀ : Heap} {L : Addr} {m : Str → Option Value} {s : Shared} {Q : Flow → Shared → Prop} {E : Value → Shared → Prop} {sc : Scope} {st : Stmt} (hsc : lawScope = sc) (B : Below callerA base [] h₀) (X : (hd.heap_1 w.params).In h₀) (T : Top lawView Loose mean mg mb h₀) (hst : startStmt = st) {sa : Addr} {vs : List Value} {xs : List Int} {o1 o2 o3 : Obj} (hL : h₀.IsList sa vs.toArray) (hI : IntsAre vs xs) (hz : ¬ ((63 : Nat) : Int) < (xs.length : Int)) (F : Fr h₀ L s.heap (fun y => if y = "script" then some (.ref sa) else m y)) (N : News h₀ L s.heap [(L + 1 + 1 + 1, o3), (L + 1 + 1, o2), (L + 1, o1)]) (d1 : o1.data = .cell none) (d2 : o2.data = .cell none) (d3 : o3.data = .cell none)
    (done : ∀ h' tk wx wdd hl bx ib ow oc1 (vs' : List Value) xs' m' tn e1 e2 eh, Fr h₀ L h' m' → m' "box" = some (.ref bx) → News h₀ L h' [(wdd, ow), (hl, listOf ([] : List Value).toArray eh), (wx, instObj 348 wdd), (bx, listOf [.ref ib, .int 0 tn].toArray e1), (ib, listOf vs'.toArray e2), (L + 1 + 1 + 1, o3), (L + 1 + 1, o2), (L + 1, oc1)] → IsWd w 0 hl ow → oc1.data = .cell (some (.ref wx)) → IntsAre vs' xs' → vs'.length < 64 → hl ≠ ib → Q .next { s with heap := h', toks := tk }) :
    wpAny (model PW w) (callerA.deeper (envOfC "law" sc L fa cd)) (exec st (envOfC "law" sc L fa cd)) Q E s := by
  have hsc0 := hsc
  conv at hsc => lhs; whnf
  conv at hst => lhs; whnf
  subst hsc hst
  k_steps
  rename IntsAre _ (List.take 40 xs) => hI2
  have hvl := IntsAre.length hI2
  have hvt : (List.take 40 xs).length ≤ 40 := List.length_take_le ..
  rename _ < _ ∧ _ => q1
  clear q1
  rename _ < _ ∧ _ => q1
  clear q1
  rename _ < _ ∧ _ => q1
  rename Fr h₀ L _ _ => F2
  rename News h₀ L _ _ => N2
  rename Obj.data _ = Data.cell (some (Value.ref _)) => dc
  refine done _ _ _ _ _ _ _ _ _ _ _ _ _ _ _ _ F2 ?_ (pickT N2) ?_ dc hI2 (by omega) ?_
  · exact if_pos rfl
  · exact isWd_of
  · repeat (first | exact Nat.ne_of_gt q1.1 | replace q1 := q1.2)
end
end
section
inductive NewHol (w : World) (Fl : FX) (kd : Nat) (num : Int) (h : Heap) (r : Value) (h' : Heap) : Prop
  | mk (fx cs : FX) (x : Addr) (t : Tok) (e : r = .ref x) (fr : ∀ p ∈ fx ++ cs, Fresh h h' p.1 p.2) (nd : (cs.map (·.1)).Nodup) (sp : ∀ p ∈ fx, p.1 ∉ cs.map (·.1)) (ok : HolOk w (fx ++ Fl) ⟨kd, x, num, [.str "" t, .str "" t, .str "" t], cs⟩)
inductive NewTab (w : World) (num : Int) (h : Heap) (r : Value) (h' : Heap) : Prop
  | mk (x d ed pd b : Addr) (o2 : Obj) (exx ey er : Nat) (e : r = .ref x) (i : IsTab w num ed pd b o2) (fr : ∀ p ∈ [(ed, tdOf PW w [] exx), (pd, tdOf PW w [] ey), (b, listOf ([] : List Value).toArray er), (x, instObj 227 d), (d, o2)], Fresh h h' p.1 p.2) (nd : [ed, pd, b, x, d].Nodup)
theorem swap22 {h₀ h : Heap} {L : Addr} {a b c d : Addr × Obj} {K : FX} (N : News h₀ L h (a :: b :: c :: d :: K)) : News h₀ L h ([c, d] ++ (a :: b :: K)) := fun p hp => N p (sb_use hp (by walk_at "t_sub"))
theorem swap22' {h₀ h : Heap} {L fl : Addr} {u1 u2 u3 : Tok} {e : Nat} {a c d : Addr × Obj} {K : FX} (N : News h₀ L h (a :: (fl, listOf [.str "A" u1, .str "B" u2, .str "C" u3].toArray e) :: c :: d :: K)) : ∃ ofl, IsLst [.str "A" u1, .str "B" u2, .str "C" u3] ofl ∧ News h₀ L h ([c, d] ++ (a :: (fl, ofl) :: K)) := ⟨_, ⟨_, rfl⟩, swap22 N⟩
section
variable {w : World} {wx wdd hl : Addr} {n : Int} {ow : Obj} {hs : List Value} {eh : Nat}
theorem u_mk_arr {t1 t2 : Tok} (iw : IsWd w n hl ow) (h0 : 0 ≤ n) (h1 : n < 90) (zh : hs.length < 50) (n1 : wdd ≠ wx) (n2 : wdd ≠ hl) (n3 : wx ≠ hl) :
    TellU w 373 [.ref wx, .str "3" t1, .str "" t2] [(wdd, ow), (hl, listOf hs.toArray eh)] [(wx, instObj 348 wdd)] (fun h r h' => (∃ o', IsWd w (n + 1) hl o' ∧ h'.get? wdd = some o') ∧ (∃ eh', h'.get? hl = some (listOf (hs ++ [r]).toArray eh')) ∧ NewHol w [] 0 (n + 1) h r h') := by
  obtain ⟨_, _, _, rfl⟩ := iw
  refine (t_mk_arr h0 h1 zh n1 n2 n3).post fun h r h' => ?_
  rintro ⟨x', d', b', bl, bt, o2', o3', o4, o5, t, u1, u2, rfl, fx, ia, fd, il, fb, il2, fl, ⟨et, rfl⟩, ft, ⟨t, g⟩, e⟩
  have q1 := fresh_diff fx fb (by obtain ⟨_, rfl⟩ := il; exact ne_cls (by simp))
  have q2 := fresh_diff fd fb (by obtain ⟨_, rfl⟩ := il; obtain ⟨_, _, rfl⟩ := ia; exact ne_cls (by simp))
  have q3 := fresh_diff fl fb (by obtain ⟨_, rfl⟩ := il; obtain ⟨_, rfl⟩ := il2; intro h; cases h)
  have q4 := fresh_diff ft fb (by obtain ⟨_, rfl⟩ := il; exact ne_cls (by simp))
  refine ⟨⟨_, ⟨_, _, _, rfl⟩, g⟩, e, [(x', instObj 208 d'), (d', o2'), (bl, o4), (bt, tup [.int 1 u1, .int 3 u2] et)], [(b', o3')], x', _, rfl, ?_, by simp, ?_, (.arr rfl b' o3' _ _ _ ⟨d', o2', bl, o4, bt, _, u1, u2, List.mem_cons_self .., ia, List.mem_cons_of_mem _ (List.mem_cons_self ..), il2, List.mem_cons_of_mem _ (List.mem_cons_of_mem _ (List.mem_cons_self ..)), ⟨et, rfl⟩, List.mem_cons_of_mem _ (List.mem_cons_of_mem _ (List.mem_cons_of_mem _ (List.mem_cons_self ..)))⟩ rfl il rfl)⟩
  · intro p hp
    simp only [List.cons_append, List.nil_append, List.mem_cons, List.not_mem_nil, or_false] at hp
    rcases hp with rfl | rfl | rfl | rfl | rfl <;> assumption
  · intro p hp
    simp only [List.mem_cons, List.not_mem_nil, or_false] at hp
    simp only [List.map_cons, List.map_nil, List.mem_singleton]
    rcases hp with rfl | rfl | rfl | rfl <;> assumption
theorem u_mk_dat {fl vl : Addr} {t1 u1 u2 u3 : Tok} {o1 o2 : Obj} (iw : IsWd w n hl ow) (h0 : 0 ≤ n) (h1 : n < 90) (zh : hs.length < 50) (i1 : IsLst [.str "A" u1, .str "B" u2, .str "C" u3] o1) (i2 : IsLst [] o2) (n1 : wdd ≠ wx) (n2 : wdd ≠ hl) (n3 : wx ≠ hl) (n4 : fl ≠ wdd) (n5 : fl ≠ hl) (n6 : vl ≠ wdd) (n7 : vl ≠ hl) :
    TellU w 387 [.ref wx, .str "CELL" t1, .ref fl, .ref vl] [(wdd, ow), (hl, listOf hs.toArray eh)] [(wx, instObj 348 wdd), (fl, o1), (vl, o2)] (fun h r h' => (∃ o', IsWd w (n + 1) hl o' ∧ h'.get? wdd = some o') ∧ (∃ eh', h'.get? hl = some (listOf (hs ++ [r]).toArray eh')) ∧ NewHol w [(fl, o1)] 2 (n + 1) h r h') := by
  obtain ⟨_, _, _, rfl⟩ := iw
  refine (t_mk_dat h0 h1 zh i1 i2 n1 n2 n3 n4 n5 n6 n7).post fun h r h' => ?_
  rintro ⟨x', d', b', o2', o3', t, rfl, fx, ia, fd, il, fb, ⟨t, g⟩, e⟩
  have q1 := fresh_diff fx fb (by obtain ⟨_, rfl⟩ := il; exact ne_cls (by simp))
  have q2 := fresh_diff fd fb (by obtain ⟨_, rfl⟩ := il; obtain ⟨_, _, rfl⟩ := ia; exact ne_cls (by simp))
  refine ⟨⟨_, ⟨_, _, _, rfl⟩, g⟩, e, [(x', instObj 246 d'), (d', o2')], [(b', o3')], x', _, rfl, ?_, by simp, ?_, (.dat rfl b' o3' _ _ _ ⟨d', o2', fl, o1, u1, u2, u3, List.mem_cons_self .., ia, List.mem_cons_of_mem _ (List.mem_cons_self ..), i1, List.mem_cons_of_mem _ (List.mem_cons_of_mem _ (List.mem_cons_self ..))⟩ rfl il rfl)⟩
  · intro p hp
    simp only [List.cons_append, List.nil_append, List.mem_cons, List.not_mem_nil, or_false] at hp
    rcases hp with rfl | rfl | rfl <;> assumption
  · intro p hp
    simp only [List.mem_cons, List.not_mem_nil, or_false] at hp
    simp only [List.map_cons, List.map_nil, List.mem_singleton]
    rcases hp with rfl | rfl <;> assumption
theorem u_mk_tbl (iw : IsWd w n hl ow) (h0 : 0 ≤ n) (h1 : n < 90) (zh : hs.length < 50) (n1 : wdd ≠ wx) (n2 : wdd ≠ hl) (n3 : wx ≠ hl) :
    TellU w 380 [.ref wx] [(wdd, ow), (hl, listOf hs.toArray eh)] [(wx, instObj 348 wdd)] (fun h r h' => (∃ o', IsWd w (n + 1) hl o' ∧ h'.get? wdd = some o') ∧ (∃ eh', h'.get? hl = some (listOf (hs ++ [r]).toArray eh')) ∧ NewTab w (n + 1) h r h') := by
  obtain ⟨_, _, _, rfl⟩ := iw
  refine (t_mk_tbl h0 h1 zh n1 n2 n3).post fun h r h' => ?_
  rintro ⟨x', d', ed, pd, b, o2', ep1, ep2, eb, rfl, fx, it, fd, fe, fp, fb, nep, ⟨t, g⟩, e⟩
  refine ⟨⟨_, ⟨_, _, _, rfl⟩, g⟩, e, x', d', ed, pd, b, o2', ep1, ep2, eb, rfl, it, ?_, ?_⟩
  · intro p hp
    simp only [List.mem_cons, List.not_mem_nil, or_false] at hp
    rcases hp with rfl | rfl | rfl | rfl | rfl <;> assumption
  · have q1 := fresh_diff fe fb (ne_cls (by simp))
    have q2 := fresh_diff fe fx (ne_cls (by simp))
    have q3 := fresh_diff fe fd (by obtain ⟨_, _, rfl⟩ := it; simp [tbO, tbL, dictOf])
    have q4 := fresh_diff fp fb (ne_cls (by simp))
    have q5 := fresh_diff fp fx (ne_cls (by simp))
    have q6 := fresh_diff fp fd (by obtain ⟨_, _, rfl⟩ := it; simp [tbO, tbL, dictOf])
    have q7 := fresh_diff fb fx (ne_cls (by simp))
    have q8 := fresh_diff fb fd (by obtain ⟨_, _, rfl⟩ := it; exact ne_cls (by simp))
    have q9 := fresh_diff fx fd (by obtain ⟨_, _, rfl⟩ := it; exact ne_cls (by simp))
    simp only [List.nodup_cons, List.mem_cons, List.not_mem_nil, or_false, not_or, List.nodup_nil, and_true, not_false_eq_true]
    exact ⟨⟨nep, q1, q2, q3⟩, ⟨q4, q5, q6⟩, ⟨q7, q8⟩, q9⟩
end
end
section
structure Three (wdd hl : Addr) (K NF C0 C2 : FX) (ed pd b : Addr) : Prop where
  p1 : ∀ p ∈ NF ++ (C0 ++ C2), p.1 ≠ wdd ∧ p.1 ≠ hl ∧ ∀ q ∈ K, q.1 ≠ p.1
  p2 : ((C0 ++ C2).map (·.1)).Nodup
  p3 : ∀ p ∈ NF, ∀ q ∈ C0 ++ C2, q.1 ≠ p.1
  p4 : ∀ p ∈ NF ++ (C0 ++ C2), p.1 ≠ ed ∧ p.1 ≠ pd ∧ p.1 ≠ b
  p5 : ed ≠ pd ∧ ed ≠ b ∧ pd ≠ b
  p6 : ∀ a, a = ed ∨ a = pd ∨ a = b → a ≠ wdd ∧ a ≠ hl ∧ ∀ q ∈ K, q.1 ≠ a
theorem three_of {wdd hl al vl fl ed pd b x1 d1 : Addr} {ow3 oh3 oal ov ofl oe op ob ox od : Obj} {K fx0 cs0 fx2 cs2 : FX}
    (ra : ∀ p ∈ fx2 ++ cs2 ++ ((vl, ov) :: (fl, ofl) :: ([(ed, oe), (pd, op), (b, ob), (x1, ox), (d1, od)] ++ (fx0 ++ cs0 ++ K))), p.1 ≠ wdd)
    (rb : ∀ p ∈ fx2 ++ cs2 ++ ((vl, ov) :: (fl, ofl) :: ([(ed, oe), (pd, op), (b, ob), (x1, ox), (d1, od)] ++ (fx0 ++ cs0 ++ K))), p.1 ≠ hl)
    (sa : ∀ q ∈ (wdd, ow3) :: (hl, oh3) :: (fx2 ++ cs2 ++ ((vl, ov) :: (fl, ofl) :: ([(ed, oe), (pd, op), (b, ob), (x1, ox), (d1, od)] ++ (fx0 ++ cs0 ++ K)))), q.1 ≠ al)
    (s2 : ∀ p ∈ fx2 ++ cs2, ∀ q ∈ (fl, ofl) :: ([(ed, oe), (pd, op), (b, ob), (x1, ox), (d1, od)] ++ (fx0 ++ cs0 ++ K)), q.1 ≠ p.1)
    (sf : ∀ q ∈ [(ed, oe), (pd, op), (b, ob), (x1, ox), (d1, od)] ++ (fx0 ++ cs0 ++ K), q.1 ≠ fl)
    (s1 : ∀ p ∈ [(ed, oe), (pd, op), (b, ob), (x1, ox), (d1, od)], ∀ q ∈ fx0 ++ cs0 ++ K, q.1 ≠ p.1)
    (s0 : ∀ p ∈ fx0 ++ cs0, ∀ q ∈ K, q.1 ≠ p.1) (nd : [ed, pd, b, x1, d1].Nodup)
    (n0 : (cs0.map (·.1)).Nodup) (f0 : ∀ p ∈ fx0, p.1 ∉ cs0.map (·.1)) (n2 : (cs2.map (·.1)).Nodup) (f2 : ∀ p ∈ fx2, p.1 ∉ cs2.map (·.1)) :
    Three wdd hl K ((al, oal) :: (x1, ox) :: (d1, od) :: (fl, ofl) :: (fx0 ++ fx2)) cs0 cs2 ed pd b := by
  simp only [List.nodup_cons, List.mem_cons, List.not_mem_nil, or_false, not_or, List.nodup_nil, and_true, not_false_eq_true] at nd
  obtain ⟨⟨e1, e2, e3, e4⟩, ⟨e5, e6, e7⟩, ⟨e8, e9⟩, e10⟩ := nd
  simp only [List.mem_map, not_exists, not_and] at f0 f2
  refine ⟨?_, ?_, ?_, ?_, ⟨e1, e2, e5⟩, ?_⟩
  · intro p hp
    simp only [List.mem_append, List.mem_cons] at hp
    rcases hp with (rfl | rfl | rfl | rfl | h | h) | h | h
    · exact ⟨(sa (wdd, ow3) (by walk_at "t_mm")).symm, (sa (hl, oh3) (by walk_at "t_mm")).symm, fun q hq => sa q (by walk_at "t_mm")⟩
    · exact ⟨ra _ (by walk_at "t_mm"), rb _ (by walk_at "t_mm"), fun q hq => s1 (x1, ox) (by walk_at "t_mm") q (by walk_at "t_mm")⟩
    · exact ⟨ra _ (by walk_at "t_mm"), rb _ (by walk_at "t_mm"), fun q hq => s1 (d1, od) (by walk_at "t_mm") q (by walk_at "t_mm")⟩
    · exact ⟨ra _ (by walk_at "t_mm"), rb _ (by walk_at "t_mm"), fun q hq => sf q (by walk_at "t_mm")⟩
    · exact ⟨ra _ (by walk_at "t_mm"), rb _ (by walk_at "t_mm"), fun q hq => s0 p (by walk_at "t_mm") q hq⟩
    · exact ⟨ra _ (by walk_at "t_mm"), rb _ (by walk_at "t_mm"), fun q hq => s2 p (by walk_at "t_mm") q (by walk_at "t_mm")⟩
    · exact ⟨ra _ (by walk_at "t_mm"), rb _ (by walk_at "t_mm"), fun q hq => s0 p (by walk_at "t_mm") q hq⟩
    · exact ⟨ra _ (by walk_at "t_mm"), rb _ (by walk_at "t_mm"), fun q hq => s2 p (by walk_at "t_mm") q (by walk_at "t_mm")⟩
  · rw [List.map_append, List.nodup_append]
    refine ⟨n0, n2, fun a ha c hc e => ?_⟩
    obtain ⟨q, hq, rfl⟩ := List.mem_map.mp ha
    obtain ⟨p, hp, rfl⟩ := List.mem_map.mp hc
    exact s2 p (by walk_at "t_mm") q (by walk_at "t_mm") e
  · intro p hp q hq
    simp only [List.mem_append, List.mem_cons] at hp hq
    rcases hp with rfl | rfl | rfl | rfl | h | h <;> rcases hq with k | k
    · exact sa q (by walk_at "t_mm")
    · exact sa q (by walk_at "t_mm")
    · exact s1 (x1, ox) (by walk_at "t_mm") q (by walk_at "t_mm")
    · exact (s2 q (by walk_at "t_mm") (x1, ox) (by walk_at "t_mm")).symm
    · exact s1 (d1, od) (by walk_at "t_mm") q (by walk_at "t_mm")
    · exact (s2 q (by walk_at "t_mm") (d1, od) (by walk_at "t_mm")).symm
    · exact sf q (by walk_at "t_mm")
    · exact (s2 q (by walk_at "t_mm") (fl, ofl) (by walk_at "t_mm")).symm
    · exact f0 p h q k
    · exact (s2 q (by walk_at "t_mm") p (by walk_at "t_mm")).symm
    · exact s2 p (by walk_at "t_mm") q (by walk_at "t_mm")
    · exact f2 p h q k
  · intro p hp
    simp only [List.mem_append, List.mem_cons] at hp
    rcases hp with (rfl | rfl | rfl | rfl | h | h) | h | h
    · exact ⟨(sa (ed, oe) (by walk_at "t_mm")).symm, (sa (pd, op) (by walk_at "t_mm")).symm, (sa (b, ob) (by walk_at "t_mm")).symm⟩
    · exact ⟨Ne.symm e3, Ne.symm e6, Ne.symm e8⟩
    · exact ⟨Ne.symm e4, Ne.symm e7, Ne.symm e9⟩
    · exact ⟨(sf (ed, oe) (by walk_at "t_mm")).symm, (sf (pd, op) (by walk_at "t_mm")).symm, (sf (b, ob) (by walk_at "t_mm")).symm⟩
    · exact ⟨s1 (ed, oe) (by walk_at "t_mm") p (by walk_at "t_mm"), s1 (pd, op) (by walk_at "t_mm") p (by walk_at "t_mm"), s1 (b, ob) (by walk_at "t_mm") p (by walk_at "t_mm")⟩
    · exact ⟨(s2 p (by walk_at "t_mm") (ed, oe) (by walk_at "t_mm")).symm, (s2 p (by walk_at "t_mm") (pd, op) (by walk_at "t_mm")).symm, (s2 p (by walk_at "t_mm") (b, ob) (by walk_at "t_mm")).symm⟩
    · exact ⟨s1 (ed, oe) (by walk_at "t_mm") p (by walk_at "t_mm"), s1 (pd, op) (by walk_at "t_mm") p (by walk_at "t_mm"), s1 (b, ob) (by walk_at "t_mm") p (by walk_at "t_mm")⟩
    · exact ⟨(s2 p (by walk_at "t_mm") (ed, oe) (by walk_at "t_mm")).symm, (s2 p (by walk_at "t_mm") (pd, op) (by walk_at "t_mm")).symm, (s2 p (by walk_at "t_mm") (b, ob) (by walk_at "t_mm")).symm⟩
  · rintro a (rfl | rfl | rfl)
    · exact ⟨ra (a, oe) (by walk_at "t_mm"), rb (a, oe) (by walk_at "t_mm"), fun q hq => s1 (a, oe) (by walk_at "t_mm") q (by walk_at "t_mm")⟩
    · exact ⟨ra (a, op) (by walk_at "t_mm"), rb (a, op) (by walk_at "t_mm"), fun q hq => s1 (a, op) (by walk_at "t_mm") q (by walk_at "t_mm")⟩
    · exact ⟨ra (a, ob) (by walk_at "t_mm"), rb (a, ob) (by walk_at "t_mm"), fun q hq => s1 (a, ob) (by walk_at "t_mm") q (by walk_at "t_mm")⟩
theorem three_news {h₀ h : Heap} {L : Addr} {A W H V Fl E P B X D : Addr × Obj} {K fx0 cs0 fx2 cs2 : FX} (N : News h₀ L h (A :: W :: H :: (fx2 ++ cs2 ++ (V :: Fl :: ([E, P, B, X, D] ++ (fx0 ++ cs0 ++ K)))))) :
    News h₀ L h (E :: P :: B :: ((A :: X :: D :: Fl :: (fx0 ++ fx2)) ++ (cs0 ++ (cs2 ++ (W :: H :: K))))) := fun p hp => N p (sb_use hp (by walk_at "t_sub"))
theorem name5 {h₀ h : Heap} {L : Addr} {a b c d e : Addr × Obj} {K : FX} (_N : News h₀ L h (a :: b :: c :: d :: e :: K)) : ∃ a' b' c' d' e' : Addr, a' = a.1 ∧ b' = b.1 ∧ c' = c.1 ∧ d' = d.1 ∧ e' = e.1 := ⟨_, _, _, _, _, rfl, rfl, rfl, rfl, rfl⟩
end
section
theorem start_apart {bx ib wdd hl c1 c2 c3 wx nmA du wo dt D0 D1 D2 ed pd b : Addr} {ow oh ox obx oib o1 o2 o3 onm oD0 oD1 oD2 oe op ob owo odt : Obj} {NF C0 C2 fx0 fx1 cs1 T3 fx2 : FX}
    (hb : [bx, ib, wdd, hl, c1, c2, c3].Nodup) (hwx : ∀ a ∈ [bx, ib, wdd, hl, c1, c2, c3], wx ≠ a)
    (Z : Three wdd hl [(wx, ox), (bx, obx), (ib, oib), (c3, o3), (c2, o2), (c1, o1)] NF C0 C2 ed pd b)
    {K K1 K2 K3 : FX} (eK : K = NF ++ (C0 ++ (C2 ++ ((wdd, ow) :: (hl, oh) :: [(wx, ox), (bx, obx), (ib, oib), (c3, o3), (c2, o2), (c1, o1)]))))
    (e1 : K1 = (D0, oD0) :: (fx0 ++ K)) (e2 : K2 = (D1, oD1) :: (T3 ++ (fx1 ++ (cs1 ++ K1)))) (e3 : K3 = (D2, oD2) :: (fx2 ++ K2))
    (onmA : ∀ q ∈ K3, q.1 ≠ nmA) (S0 : ∀ p ∈ fx0, ∀ q ∈ (ed, oe) :: (pd, op) :: (b, ob) :: K, q.1 ≠ p.1) (O0 : ∀ q ∈ (ed, oe) :: (pd, op) :: (b, ob) :: K, q.1 ≠ D0)
    (hT : T3.map (·.1) = [ed, pd, b]) (S1 : ∀ p ∈ fx1 ++ cs1, ∀ q ∈ (ed, oe) :: (pd, op) :: (b, ob) :: K1, q.1 ≠ p.1) (n1 : (cs1.map (·.1)).Nodup) (f1 : ∀ p ∈ fx1, p.1 ∉ cs1.map (·.1))
    (O1 : ∀ q ∈ T3 ++ (fx1 ++ (cs1 ++ K1)), q.1 ≠ D1) (S2 : ∀ p ∈ fx2, ∀ q ∈ K2, q.1 ≠ p.1) (O2 : ∀ q ∈ K2, q.1 ≠ D2)
    (od : ∀ q ∈ (nmA, onm) :: K3, q.1 ≠ wo ∧ q.1 ≠ du ∧ q.1 ≠ dt) (w1 : wo ≠ du) (w2 : wo ≠ dt) (w3 : du ≠ dt) :
    Apart [] [bx, ib, wdd, hl, nmA, du, c1, c2, c3] (C0 ++ (cs1 ++ (C2 ++ []))) ((wo, owo) :: (dt, odt) :: (D2, oD2) :: (fx2 ++ ((D1, oD1) :: (T3 ++ (fx1 ++ ((D0, oD0) :: (fx0 ++ (NF ++ [(wx, ox)])))))))) := by
  have oT : ∀ p ∈ T3, p.1 = ed ∨ p.1 = pd ∨ p.1 = b := fun p hp => by
    have : p.1 ∈ T3.map (·.1) := List.mem_map.mpr ⟨p, hp, rfl⟩
    rw [hT] at this
    simpa using this
  have K1K : ∀ p ∈ K, p ∈ K1 := fun p hp => by rw [e1]; walk_at "t_mm"
  have K2K : ∀ p ∈ K1, p ∈ K2 := fun p hp => by rw [e2]; walk_at "t_mm"
  have K3K : ∀ p ∈ K2, p ∈ K3 := fun p hp => by rw [e3]; walk_at "t_mm"
  have KC : ∀ p ∈ C0 ++ C2, p ∈ K := fun p hp => by rw [eK]; exact sb_use hp (by walk_at "t_sub")
  have KN : ∀ p ∈ NF, p ∈ K := fun p hp => by rw [eK]; walk_at "t_mm"
  have Kw : (wx, ox) ∈ K := by rw [eK]; walk_at "t_mm"
  have D0K : (D0, oD0) ∈ K1 := by rw [e1]; walk_at "t_mm"
  have D1K : (D1, oD1) ∈ K2 := by rw [e2]; walk_at "t_mm"
  have D2K : (D2, oD2) ∈ K3 := by rw [e3]; walk_at "t_mm"
  have f0K : ∀ p ∈ fx0, p ∈ K1 := fun p hp => by rw [e1]; walk_at "t_mm"
  have f1K : ∀ p ∈ fx1, p ∈ K2 := fun p hp => by rw [e2]; walk_at "t_mm"
  have c1K : ∀ p ∈ cs1, p ∈ K2 := fun p hp => by rw [e2]; walk_at "t_mm"
  have tK : ∀ p ∈ T3, p ∈ K2 := fun p hp => by rw [e2]; walk_at "t_mm"
  have f2K : ∀ p ∈ fx2, p ∈ K3 := fun p hp => by rw [e3]; walk_at "t_mm"
  have hot : ∀ a ∈ [bx, ib, wdd, hl, c1, c2, c3], ∃ o, (a, o) ∈ K := fun a ha => by
    rw [eK]
    simp only [List.mem_cons, List.not_mem_nil, or_false] at ha
    rcases ha with rfl | rfl | rfl | rfl | rfl | rfl | rfl
    · exact ⟨obx, by walk_at "t_mm"⟩
    · exact ⟨oib, by walk_at "t_mm"⟩
    · exact ⟨ow, by walk_at "t_mm"⟩
    · exact ⟨oh, by walk_at "t_mm"⟩
    · exact ⟨o1, by walk_at "t_mm"⟩
    · exact ⟨o2, by walk_at "t_mm"⟩
    · exact ⟨o3, by walk_at "t_mm"⟩
  have nN : ∀ a ∈ [bx, ib, wdd, hl, c1, c2, c3], a ≠ nmA := fun a ha => by
    obtain ⟨o, h⟩ := hot a ha
    exact onmA (a, o) (K3K _ (K2K _ (K1K _ h)))
  have nD : ∀ a ∈ [bx, ib, wdd, hl, c1, c2, c3], a ≠ wo ∧ a ≠ du ∧ a ≠ dt := fun a ha => by
    obtain ⟨o, h⟩ := hot a ha
    exact od (a, o) (List.mem_cons_of_mem _ (K3K _ (K2K _ (K1K _ h))))
  have nnm := od (nmA, onm) (List.mem_cons_self ..)
  have inK3 : ∀ p ∈ (C0 ++ (cs1 ++ (C2 ++ []))) ++ ((D2, oD2) :: (fx2 ++ ((D1, oD1) :: (T3 ++ (fx1 ++ ((D0, oD0) :: (fx0 ++ (NF ++ [(wx, ox)])))))))), p ∈ K3 := fun p hp => by
    simp only [List.mem_append, List.mem_cons, List.not_mem_nil, or_false] at hp
    rcases hp with (h | h | h) | h | h | h | h | h | h | h | h | h
    · exact K3K _ (K2K _ (K1K _ (KC _ (by walk_at "t_mm"))))
    · exact K3K _ (c1K _ h)
    · exact K3K _ (K2K _ (K1K _ (KC _ (by walk_at "t_mm"))))
    · rw [h]; exact D2K
    · exact f2K _ h
    · rw [h]; exact K3K _ D1K
    · exact K3K _ (tK _ h)
    · exact K3K _ (f1K _ h)
    · rw [h]; exact K3K _ (K2K _ D0K)
    · exact K3K _ (K2K _ (f0K _ h))
    · exact K3K _ (K2K _ (K1K _ (KN _ h)))
    · rw [h]; exact K3K _ (K2K _ (K1K _ Kw))
  have hot0 : ∀ a ∈ [bx, ib, wdd, hl, c1, c2, c3], ∀ p ∈ NF ++ (C0 ++ C2), a ≠ p.1 := fun a ha p hp => by
    obtain ⟨q1, q2, q3⟩ := Z.p1 p hp
    simp only [List.mem_cons, List.not_mem_nil, or_false] at ha
    rcases ha with rfl | rfl | rfl | rfl | rfl | rfl | rfl
    · exact q3 (a, obx) (by walk_at "t_mm")
    · exact q3 (a, oib) (by walk_at "t_mm")
    · exact q1.symm
    · exact q2.symm
    · exact q3 (a, o1) (by walk_at "t_mm")
    · exact q3 (a, o2) (by walk_at "t_mm")
    · exact q3 (a, o3) (by walk_at "t_mm")
  have hotT : ∀ a ∈ [bx, ib, wdd, hl, c1, c2, c3], ∀ p ∈ T3, a ≠ p.1 := fun a ha p hp => by
    obtain ⟨q1, q2, q3⟩ := Z.p6 p.1 (oT p hp)
    simp only [List.mem_cons, List.not_mem_nil, or_false] at ha
    rcases ha with rfl | rfl | rfl | rfl | rfl | rfl | rfl
    · exact q3 (a, obx) (by walk_at "t_mm")
    · exact q3 (a, oib) (by walk_at "t_mm")
    · exact q1.symm
    · exact q2.symm
    · exact q3 (a, o1) (by walk_at "t_mm")
    · exact q3 (a, o2) (by walk_at "t_mm")
    · exact q3 (a, o3) (by walk_at "t_mm")
  refine ⟨?_, ?_, ?_, ?_, fun _ h => nomatch h⟩
  · refine nodup_ins (A := [bx, ib, wdd, hl]) (B := [du, c1, c2, c3]) (nodup_ins (A := [bx, ib, wdd, hl]) (B := [c1, c2, c3]) hb fun x hx => (nD x hx).2.1) fun x hx => ?_
    rcases mem_mid (A := [bx, ib, wdd, hl]) (B := [c1, c2, c3]) hx with e | hx
    · rw [e]; exact nnm.2.1.symm
    · exact nN x hx
  · have z2 := Z.p2
    rw [List.map_append, List.nodup_append] at z2
    obtain ⟨z1, z2, z3⟩ := z2
    simp only [List.append_nil, List.map_append]
    rw [List.nodup_append, List.nodup_append]
    refine ⟨z1, ⟨n1, z2, fun a ha c hc e => ?_⟩, fun a ha c hc e => ?_⟩
    · obtain ⟨q, hq, rfl⟩ := List.mem_map.mp ha
      obtain ⟨p, hp, rfl⟩ := List.mem_map.mp hc
      exact S1 q (by walk_at "t_mm") p (List.mem_cons_of_mem _ (List.mem_cons_of_mem _ (List.mem_cons_of_mem _ (K1K _ (KC _ (by walk_at "t_mm")))))) e.symm
    · rcases List.mem_append.mp hc with hc | hc
      · obtain ⟨q, hq, rfl⟩ := List.mem_map.mp ha
        obtain ⟨p, hp, rfl⟩ := List.mem_map.mp hc
        exact S1 p (by walk_at "t_mm") q (List.mem_cons_of_mem _ (List.mem_cons_of_mem _ (List.mem_cons_of_mem _ (K1K _ (KC _ (by walk_at "t_mm")))))) e
      · exact z3 a ha c hc e
  · intro p hp hc
    obtain ⟨q, hq, e⟩ := List.mem_map.mp hc
    have hq3 := inK3 q (List.mem_append_left _ hq)
    have hq' : q ∈ cs1 ∨ q ∈ C0 ++ C2 := by
      rcases List.mem_append.mp hq with h | h
      · exact .inr (List.mem_append_left _ h)
      rcases List.mem_append.mp h with h | h
      · exact .inl h
      · exact .inr (List.mem_append_right _ ((List.append_nil C2) ▸ h))
    have m3 : ∀ {x y z : Addr × Obj} {p : Addr × Obj} {M : FX}, p ∈ M → p ∈ x :: y :: z :: M := fun h => List.mem_cons_of_mem _ (List.mem_cons_of_mem _ (List.mem_cons_of_mem _ h))
    have q2 : q ∈ K2 := hq'.elim (c1K _) (fun h => K2K _ (K1K _ (KC _ h)))
    simp only [List.mem_append, List.mem_cons, List.not_mem_nil, or_false] at hp
    rcases hp with rfl | rfl | rfl | h | rfl | h | h | rfl | h | h | rfl
    · exact (od q (List.mem_cons_of_mem _ hq3)).1 e
    · exact (od q (List.mem_cons_of_mem _ hq3)).2.2 e
    · exact O2 q q2 e
    · exact S2 p h q q2 e
    · refine O1 q ?_ e
      rcases hq' with k | k
      · walk_at "t_mm"
      · have hx := K1K _ (KC _ k)
        walk_at "t_mm"
    · rcases hq' with k | k
      · rcases oT p h with g | g | g
        · exact S1 q (by walk_at "t_mm") (ed, oe) (by walk_at "t_mm") (g.symm.trans e.symm)
        · exact S1 q (by walk_at "t_mm") (pd, op) (by walk_at "t_mm") (g.symm.trans e.symm)
        · exact S1 q (by walk_at "t_mm") (b, ob) (by walk_at "t_mm") (g.symm.trans e.symm)
      · obtain ⟨y1, y2, y3⟩ := Z.p4 q (List.mem_append_right _ k)
        rcases oT p h with g | g | g
        · exact y1 (e.trans g)
        · exact y2 (e.trans g)
        · exact y3 (e.trans g)
    · rcases hq' with k | k
      · exact f1 p h (List.mem_map.mpr ⟨q, k, e⟩)
      · exact S1 p (by walk_at "t_mm") q (m3 (K1K _ (KC _ k))) e
    · rcases hq' with k | k
      · exact S1 q (by walk_at "t_mm") (D0, oD0) (m3 D0K) e.symm
      · exact O0 q (m3 (KC _ k)) e
    · rcases hq' with k | k
      · exact S1 q (by walk_at "t_mm") p (m3 (f0K _ h)) e.symm
      · exact S0 p h q (m3 (KC _ k)) e
    · rcases hq' with k | k
      · exact S1 q (by walk_at "t_mm") p (m3 (K1K _ (KN _ h))) e.symm
      · exact Z.p3 p h q k e
    · rcases hq' with k | k
      · exact S1 q (by walk_at "t_mm") (wx, ox) (m3 (K1K _ Kw)) e.symm
      · exact (Z.p1 q (List.mem_append_right _ k)).2.2 (wx, ox) (by walk_at "t_mm") e.symm
  · intro p hp hh
    have m3 : ∀ {x y z : Addr × Obj} {p : Addr × Obj} {M : FX}, p ∈ M → p ∈ x :: y :: z :: M := fun h => List.mem_cons_of_mem _ (List.mem_cons_of_mem _ (List.mem_cons_of_mem _ h))
    have hh' : p.1 ∈ [bx, ib, wdd, hl, c1, c2, c3] ∨ p.1 = nmA ∨ p.1 = du := by
      simp only [List.mem_cons, List.not_mem_nil, or_false] at hh ⊢
      rcases hh with h | h | h | h | h | h | h | h | h <;> simp [h]
    have hp' : p = (wo, owo) ∨ p = (dt, odt) ∨ p ∈ (C0 ++ (cs1 ++ (C2 ++ []))) ++ ((D2, oD2) :: (fx2 ++ ((D1, oD1) :: (T3 ++ (fx1 ++ ((D0, oD0) :: (fx0 ++ (NF ++ [(wx, ox)])))))))) := by
      rcases List.mem_append.mp hp with h | h
      · exact .inr (.inr (List.mem_append_left _ h))
      rcases List.mem_cons.mp h with h | h
      · exact .inl h
      rcases List.mem_cons.mp h with h | h
      · exact .inr (.inl h)
      · exact .inr (.inr (List.mem_append_right _ h))
    rcases hh' with ha | hn | hd
    · obtain ⟨o, hk⟩ := hot _ ha
      rcases hp' with rfl | rfl | hp'
      · exact (nD _ ha).1 rfl
      · exact (nD _ ha).2.2 rfl
      simp only [List.mem_append, List.mem_cons, List.not_mem_nil, or_false] at hp'
      rcases hp' with (h | h | h) | rfl | h | rfl | h | h | rfl | h | h | rfl
      · exact hot0 _ ha p (by walk_at "t_mm") rfl
      · exact S1 p (by walk_at "t_mm") _ (m3 (K1K _ hk)) rfl
      · exact hot0 _ ha p (by walk_at "t_mm") rfl
      · exact O2 _ (K2K _ (K1K _ hk)) rfl
      · exact S2 p h _ (K2K _ (K1K _ hk)) rfl
      · exact O1 (D1, o) (by have hx := K1K _ hk; walk_at "t_mm") rfl
      · exact hotT _ ha p h rfl
      · exact S1 p (by walk_at "t_mm") _ (m3 (K1K _ hk)) rfl
      · exact O0 _ (m3 hk) rfl
      · exact S0 p h _ (m3 hk) rfl
      · exact hot0 _ ha p (by walk_at "t_mm") rfl
      · exact hwx _ ha rfl
    · rcases hp' with rfl | rfl | hp'
      · exact nnm.1 hn.symm
      · exact nnm.2.2 hn.symm
      · exact onmA p (inK3 p hp') hn
    · rcases hp' with rfl | rfl | hp'
      · exact w1 hd
      · exact w3 hd.symm
      · exact (od p (List.mem_cons_of_mem _ (inK3 p hp'))).2.1 hd
end
section
theorem top_off_V24 : True := by
  w_top off
  trivial
section
noncomputable def allStmt : Stmt := match lawStmts with | _ :: x :: _ => x | _ => .Pass ⟨0, 0, 0, 0⟩
set_option maxRecDepth 100000 in
set_option maxHeartbeats 8000000 in
theorem all_body {w : World} {mean : ExcName → Option Value} {mg mb : Str → Option Value} {fa : Addr} {cd : Value} {base h₀ : Heap} {L : Addr} {m : Str → Option Value} {s : Shared} {Q : Flow → Shared → Prop} {E : Value → Shared → Prop} {sc : Scope} {st : Stmt} (hsc : lawScope = sc) (B : Below callerA base [] h₀) (X : (hd.heap_1 w.params).In h₀) (T : Top lawView Loose mean mg mb h₀) (hst : allStmt = st) {wx wdd hl : Addr} {ow oc1 : Obj} {eh : Nat} {K : FX} (F : Fr h₀ L s.heap m) (N : News h₀ L s.heap ((wdd, ow) :: (hl, listOf ([] : List Value).toArray eh) :: K)) (iw : IsWd w 0 hl ow) (mx : (wx, instObj 348 wdd) ∈ K) (mc : (L + 1, oc1) ∈ K) (dc : oc1.data = .cell (some (.ref wx))) (n2 : wdd ≠ hl) (r1 : ∀ p ∈ K, p.1 ≠ wdd) (r2 : ∀ p ∈ K, p.1 ≠ hl)
    (done : ∀ h' tk al e6 (H0 H2 : HR) x1 d1 ed pd b od1 exx ey er ow3 eh3 (NF : FX), Fr h₀ L h' (fun y => if y = "all_of" then some (.ref al) else m y) → News h₀ L h' ((ed, tdOf PW w [] exx) :: (pd, tdOf PW w [] ey) :: (b, listOf ([] : List Value).toArray er) :: (NF ++ (H0.cs ++ (H2.cs ++ ((wdd, ow3) :: (hl, listOf [.ref H0.x, .ref x1, .ref H2.x].toArray eh3) :: K))))) → IsWd w 3 hl ow3 → Three wdd hl K NF H0.cs H2.cs ed pd b → (al, listOf [.ref H0.x, .ref x1, .ref H2.x].toArray e6) ∈ NF → HolOk w NF H0 → HolOk w NF H2 → H0.kd = 0 → H0.num = 1 → (∃ t, H0.vs = [.str "" t, .str "" t, .str "" t]) → H2.kd = 2 → H2.num = 3 → (∃ t, H2.vs = [.str "" t, .str "" t, .str "" t]) → IsTab w 2 ed pd b od1 → (x1, instObj 227 d1) ∈ NF → (d1, od1) ∈ NF → Q .next { s with heap := h', toks := tk }) :
    wpAny (model PW w) (callerA.deeper (envOfC "law" sc L fa cd)) (exec st (envOfC "law" sc L fa cd)) Q E s := by
  have hsc0 := hsc
  conv at hsc => lhs; whnf
  conv at hst => lhs; whnf
  subst hsc hst
  have n1 : wdd ≠ wx := (r1 _ mx).symm
  have n3 : wx ≠ hl := r2 _ mx
  have mc' : (L + 1, oc1) ∈ (wdd, ow) :: (hl, listOf ([] : List Value).toArray eh) :: K := List.mem_cons_of_mem _ (List.mem_cons_of_mem _ mc)
  k_steps
  refine Hold.in ?_
  refine' TellU.use (u_mk_arr (hs := []) iw (by decide) (by decide) (by decide) n1 n2 n3) ?p1 ?p2 ?p3 ?p4 ?p5 ?p6 ?p7 (fun p hp => N p (by simp only [List.cons_append, List.nil_append, List.mem_cons, List.not_mem_nil, or_false] at hp ⊢; rcases hp with h | h | h; (· exact .inl h); (· exact .inr (.inl h)); (· exact .inr (.inr (h ▸ mx))))) ?_
  case p1 => ktr_room
  case p2 => exact Nat.le_of_ble_eq_true rfl
  case p3 => k_asm
  case p4 => k_asm
  case p5 => k_asm
  case p6 => k_asm
  case p7 => first | exact rfl | assumption
  intro q1 h1 tk1 F1 k1 P1
  obtain ⟨⟨ow1, iw1, g1⟩, ⟨eh1, g2⟩, fx0, cs0, x0, t0, rfl, fr0, nc0, sf0, ho0⟩ := P1
  have sep0 := fresh_sep N fr0
  have N1 := two_next F N k1 (fun p hp => ⟨r1 p hp, r2 p hp⟩) g1 g2 fr0
  obtain ⟨K1, eK1⟩ : ∃ K', K' = fx0 ++ cs0 ++ K := ⟨_, rfl⟩
  rw [← eK1] at N1
  have hK1 : ∀ p ∈ K, p ∈ K1 := fun p hp => by rw [eK1]; exact List.mem_append_right _ hp
  have ra1 : ∀ p ∈ K1, p.1 ≠ wdd := by rw [eK1]; exact fun p hp => (List.mem_append.mp hp).elim (fun h => (sep0 p h _ (List.mem_cons_self ..)).symm) (r1 p)
  have rb1 : ∀ p ∈ K1, p.1 ≠ hl := by rw [eK1]; exact fun p hp => (List.mem_append.mp hp).elim (fun h => (sep0 p h _ (List.mem_cons_of_mem _ (List.mem_cons_self ..))).symm) (r2 p)
  have mc1 : (L + 1, oc1) ∈ K1 := hK1 _ mc
  clear N F k1 g1 g2 iw mc'
  k_steps
  refine Hold.in ?_
  refine' TellU.use (u_mk_tbl (hs := [] ++ [Value.ref x0]) iw1 (by decide) (by decide) (Nat.le_of_ble_eq_true rfl) n1 n2 n3) ?p1 ?p2 ?p3 ?p4 ?p5 ?p6 ?p7 (fun p hp => N1 p (by simp only [List.cons_append, List.nil_append, List.mem_cons, List.not_mem_nil, or_false] at hp ⊢; rcases hp with h | h | h; (· exact .inl h); (· exact .inr (.inl h)); (· exact .inr (.inr (h ▸ hK1 _ mx))))) ?_
  case p1 => ktr_room
  case p2 => exact Nat.le_of_ble_eq_true rfl
  case p3 => k_asm
  case p4 => k_asm
  case p5 => k_asm
  case p6 => k_asm
  case p7 => first | exact rfl | assumption
  intro q2 h2 tk2 F2 k2 P2
  obtain ⟨⟨ow2, iw2, g3⟩, ⟨eh2, g4⟩, x1, d1, ed, pd, b, od1, exx, ey, er, rfl, it, fr1, nd1⟩ := P2
  have sep1 := fresh_sep N1 fr1
  have N2 := two_next F1 N1 k2 (fun p hp => ⟨ra1 p hp, rb1 p hp⟩) g3 g4 fr1
  obtain ⟨K2, eK2⟩ : ∃ K', K' = [(ed, tdOf PW w [] exx), (pd, tdOf PW w [] ey), (b, listOf ([] : List Value).toArray er), (x1, instObj 227 d1), (d1, od1)] ++ K1 := ⟨_, rfl⟩
  rw [← eK2] at N2
  have hK2 : ∀ p ∈ K1, p ∈ K2 := fun p hp => by rw [eK2]; exact List.mem_append_right _ hp
  have ra2 : ∀ p ∈ K2, p.1 ≠ wdd := by rw [eK2]; exact fun p hp => (List.mem_append.mp hp).elim (fun h => (sep1 p h _ (List.mem_cons_self ..)).symm) (ra1 p)
  have rb2 : ∀ p ∈ K2, p.1 ≠ hl := by rw [eK2]; exact fun p hp => (List.mem_append.mp hp).elim (fun h => (sep1 p h _ (List.mem_cons_of_mem _ (List.mem_cons_self ..))).symm) (rb1 p)
  have mx2 := hK2 _ (hK1 _ mx)
  have mc2 := hK2 _ (hK1 _ mc)
  clear N1 F1 k2 g3 g4 iw1 mc1
  k_steps
  refine Hold.in ?_
  rename _ < _ ∧ _ < _ ∧ _ < _ ∧ AllLt _ _ => lv
  rename _ < _ ∧ _ < _ ∧ AllLt _ _ => lf
  rename News _ _ _ _ => N3
  rename Fr _ _ _ _ => F3
  obtain ⟨vl, fl, ev, ef⟩ := name2 N3
  dsimp only at ev ef
  subst ev ef
  obtain ⟨lv1, lv2, lv3, lv4⟩ := lv
  obtain ⟨lf1, lf2, lf3⟩ := lf
  obtain ⟨ofl, iofl, N4⟩ := swap22' N3
  have sf : ∀ q ∈ K2, q.1 ≠ fl := fun q hq => Nat.ne_of_lt (allLt_mem lf3 q hq)
  have sv : ∀ q ∈ K2, q.1 ≠ vl := fun q hq => Nat.ne_of_lt (allLt_mem lv4 q hq)
  refine' TellU.use (u_mk_dat (hs := [] ++ [Value.ref x0] ++ [Value.ref x1]) iw2 (by decide) (by decide) (Nat.le_of_ble_eq_true rfl) iofl ⟨0, rfl⟩ n1 n2 n3 (Nat.ne_of_gt lf1) (Nat.ne_of_gt lf2) (Nat.ne_of_gt lv2) (Nat.ne_of_gt lv3)) ?p1 ?p2 ?p3 ?p4 ?p5 ?p6 ?p7 (fun p hp => N4 p (by simp only [List.cons_append, List.nil_append, List.mem_cons, List.not_mem_nil, or_false] at hp ⊢; rcases hp with h | h | h | h | h; (· exact .inl h); (· exact .inr (.inl h)); (· exact .inr (.inr (.inr (.inr (h ▸ mx2))))); (· exact .inr (.inr (.inr (.inl h)))); (· exact .inr (.inr (.inl h))))) ?_
  case p1 => ktr_room
  case p2 => exact Nat.le_of_ble_eq_true rfl
  case p3 => k_asm
  case p4 => k_asm
  case p5 => k_asm
  case p6 => k_asm
  case p7 => first | exact rfl | assumption
  intro q3 h3 tk3 F4 k3 P3
  obtain ⟨⟨ow3, iw3, g5⟩, ⟨eh3, g6⟩, fx2, cs2, x2, t2, rfl, fr2, nc2, sf2, ho2⟩ := P3
  have sep2 := fresh_sep N4 fr2
  have N5 := two_next F3 N4 k3 (fun p hp => by
    rcases List.mem_cons.mp hp with rfl | hp
    · exact ⟨Nat.ne_of_gt lv2, Nat.ne_of_gt lv3⟩
    rcases List.mem_cons.mp hp with rfl | hp
    · exact ⟨Nat.ne_of_gt lf1, Nat.ne_of_gt lf2⟩
    · exact ⟨ra2 p hp, rb2 p hp⟩) g5 g6 fr2
  have ra3 : ∀ p ∈ fx2 ++ cs2 ++ ((vl, listOf ([] : List Value).toArray 0) :: (fl, ofl) :: K2), p.1 ≠ wdd := fun p hp => by
    rcases List.mem_append.mp hp with hp | hp
    · exact (sep2 p hp _ (List.mem_cons_self ..)).symm
    rcases List.mem_cons.mp hp with rfl | hp
    · exact Nat.ne_of_gt lv2
    rcases List.mem_cons.mp hp with rfl | hp
    · exact Nat.ne_of_gt lf1
    · exact ra2 p hp
  have rb3 : ∀ p ∈ fx2 ++ cs2 ++ ((vl, listOf ([] : List Value).toArray 0) :: (fl, ofl) :: K2), p.1 ≠ hl := fun p hp => by
    rcases List.mem_append.mp hp with hp | hp
    · exact (sep2 p hp _ (List.mem_cons_of_mem _ (List.mem_cons_self ..))).symm
    rcases List.mem_cons.mp hp with rfl | hp
    · exact Nat.ne_of_gt lv3
    rcases List.mem_cons.mp hp with rfl | hp
    · exact Nat.ne_of_gt lf2
    · exact rb2 p hp
  clear N3 N4 F3 k3 g5 g6 iw2 mc2
  obtain ⟨K3, eK3⟩ : ∃ K', K' = fx2 ++ cs2 ++ ((vl, listOf ([] : List Value).toArray 0) :: (fl, ofl) :: K2) := ⟨_, rfl⟩
  rw [← eK3] at N5 ra3 rb3
  k_steps
  rename _ < _ ∧ _ < _ ∧ AllLt _ _ => la
  rename News _ _ _ _ => N6
  rename Fr _ _ _ _ => F6
  obtain ⟨la1, la2, la3⟩ := la
  obtain ⟨al, _, ea, _⟩ := name2 N6
  dsimp only at ea
  subst ea
  have sa : ∀ q ∈ (wdd, ow3) :: (hl, listOf ([] ++ [Value.ref x0] ++ [Value.ref x1] ++ [Value.ref x2]).toArray eh3) :: K3, q.1 ≠ al := ne_cons (Nat.ne_of_lt la1) (ne_cons (Nat.ne_of_lt la2) (fun q hq => Nat.ne_of_lt (allLt_mem la3 q hq)))
  subst eK3 eK2 eK1
  have Z := three_of (oal := listOf [Value.ref x0, Value.ref x1, Value.ref x2].toArray 0) ra3 rb3 sa (fun p hp q hq => sep2 p hp q (List.mem_cons_of_mem _ (List.mem_cons_of_mem _ (List.mem_cons_of_mem _ hq)))) sf (fun p hp q hq => sep1 p hp q (List.mem_cons_of_mem _ (List.mem_cons_of_mem _ hq))) (fun p hp q hq => sep0 p hp q (List.mem_cons_of_mem _ (List.mem_cons_of_mem _ hq))) nd1 nc0 sf0 nc2 sf2
  refine done _ _ al 0 ⟨0, x0, _, _, cs0⟩ ⟨2, x2, _, _, cs2⟩ x1 d1 ed pd b od1 exx ey er ow3 eh3 _ F6 (three_news N6) iw3 Z (List.mem_cons_self ..) (ho0.mono fun p hp => ?_) (ho2.mono fun p hp => ?_) rfl rfl ⟨_, rfl⟩ rfl rfl ⟨_, rfl⟩ it (List.mem_cons_of_mem _ (List.mem_cons_self ..)) (List.mem_cons_of_mem _ (List.mem_cons_of_mem _ (List.mem_cons_self ..)))
  · simp only [List.append_nil] at hp
    exact List.mem_cons_of_mem _ (List.mem_cons_of_mem _ (List.mem_cons_of_mem _ (List.mem_cons_of_mem _ (List.mem_append_left _ hp))))
  · rcases List.mem_append.mp hp with hp | hp
    · exact List.mem_cons_of_mem _ (List.mem_cons_of_mem _ (List.mem_cons_of_mem _ (List.mem_cons_of_mem _ (List.mem_append_right _ hp))))
    · rw [List.mem_singleton.mp hp]
      exact List.mem_cons_of_mem _ (List.mem_cons_of_mem _ (List.mem_cons_of_mem _ (List.mem_cons_self ..)))
end
end
section
theorem top_off_V25 : True := by
  w_top off
  trivial
section
noncomputable def dueStmt : Stmt := match lawStmts with | _ :: _ :: _ :: x :: _ => x | _ => .Pass ⟨0, 0, 0, 0⟩
set_option maxRecDepth 100000 in
set_option maxHeartbeats 8000000 in
theorem due_start {w : World} {mean : ExcName → Option Value} {mg mb : Str → Option Value} {fa : Addr} {cd : Value} {base h₀ : Heap} {L : Addr} {m : Str → Option Value} {s : Shared} {Q : Flow → Shared → Prop} {E : Value → Shared → Prop} {sc : Scope} {st : Stmt} (hsc : lawScope = sc) (B : Below callerA base [] h₀) (X : (hd.heap_1 w.params).In h₀) (T : Top lawView Loose mean mg mb h₀) (hst : dueStmt = st) {K : FX} (F : Fr h₀ L s.heap m) (N : News h₀ L s.heap K)
    (done : ∀ h' tk dt du wo (t1 t2 t3 ta tb tc : Tok) (et ed ew : Nat), Fr h₀ L h' (fun y => if y = "due" then some (.ref du) else if y = "words" then some (.ref wo) else m y) → News h₀ L h' ((wo, listOf [.str "ARRAY" ta, .str "TABLE" tb, .str "CELL" tc].toArray ew) :: (du, listOf [.ref dt, .ref dt, .ref dt].toArray ed) :: (dt, tup [.str "" t1, .str "" t2, .str "" t3] et) :: K) → (∀ q ∈ K, q.1 ≠ wo ∧ q.1 ≠ du ∧ q.1 ≠ dt) → wo ≠ du → wo ≠ dt → du ≠ dt → Q .next { s with heap := h', toks := tk }) :
    wpAny (model PW w) (callerA.deeper (envOfC "law" sc L fa cd)) (exec st (envOfC "law" sc L fa cd)) Q E s := by
  have hsc0 := hsc
  conv at hsc => lhs; whnf
  conv at hst => lhs; whnf
  subst hsc hst
  k_steps
  rename _ < _ ∧ _ < _ ∧ _ < _ ∧ AllLt _ _ => la
  rename _ < _ ∧ _ < _ ∧ AllLt _ _ => lb
  rename News _ _ _ _ => N6
  rename Fr _ _ _ _ => F6
  obtain ⟨zz, wo, du, dz, dt, e1, e2, e3, e4, e5⟩ := name5 N6
  dsimp only at e1 e2 e3 e4 e5
  subst e1 e2 e3 e4 e5
  have lc : ∀ p ∈ K, p.1 < dt := by assumption
  obtain ⟨la1, _, la2, la3⟩ := la
  obtain ⟨_, lb1, lb2⟩ := lb
  exact done _ _ dt du wo _ _ _ _ _ _ _ _ _ F6 (fun p hp => N6 p (by
    simp only [List.mem_cons] at hp ⊢
    rcases hp with h | h | h | h
    · exact .inr (.inl h)
    · exact .inr (.inr (.inl h))
    · exact .inr (.inr (.inr (.inr (.inl h))))
    · exact .inr (.inr (.inr (.inr (.inr h)))))) (fun q hq => ⟨Nat.ne_of_lt (allLt_mem la3 q hq), Nat.ne_of_lt (allLt_mem lb2 q hq), Nat.ne_of_lt (lc q hq)⟩) (Nat.ne_of_gt la1) (Nat.ne_of_gt la2) (Nat.ne_of_gt lb1)
end
end
section
theorem start_news {h₀ h : Heap} {L : Addr} {wo du dt nm D0 D1 D2 W H wx bx ib c3 c2 c1 : Addr × Obj} {NF C0 C2 fx0 fx1 cs1 T3 fx2 : FX}
    (N : News h₀ L h (wo :: du :: dt :: nm :: (D2 :: (fx2 ++ (D1 :: (T3 ++ (fx1 ++ (cs1 ++ (D0 :: (fx0 ++ (NF ++ (C0 ++ (C2 ++ (W :: H :: [wx, bx, ib, c3, c2, c1])))))))))))))) :
    News h₀ L h (bx :: ib :: W :: H :: nm :: du :: c1 :: c2 :: c3 :: ((C0 ++ (cs1 ++ (C2 ++ []))) ++ (wo :: dt :: D2 :: (fx2 ++ (D1 :: (T3 ++ (fx1 ++ (D0 :: (fx0 ++ (NF ++ [wx])))))))))) := fun p hp => N p (sb_use hp (by walk_at "t_sub"))
theorem Three.off {wdd hl ed pd b : Addr} {K NF C0 C2 : FX} {ow oh : Obj} (Z : Three wdd hl K NF C0 C2 ed pd b) {a : Addr} (ha : a = ed ∨ a = pd ∨ a = b) : ∀ p ∈ NF ++ (C0 ++ (C2 ++ ((wdd, ow) :: (hl, oh) :: K))), p.1 ≠ a := fun p hp => by
  obtain ⟨q1, q2, q3⟩ := Z.p6 a ha
  have q4 := Z.p4 p
  simp only [List.mem_append, List.mem_cons] at hp q4
  rcases hp with h | h | h | rfl | rfl | h
  · obtain ⟨y1, y2, y3⟩ := q4 (by simp [h]); rcases ha with rfl | rfl | rfl <;> assumption
  · obtain ⟨y1, y2, y3⟩ := q4 (by simp [h]); rcases ha with rfl | rfl | rfl <;> assumption
  · obtain ⟨y1, y2, y3⟩ := q4 (by simp [h]); rcases ha with rfl | rfl | rfl <;> assumption
  · exact q1.symm
  · exact q2.symm
  · exact q3 p h
theorem base_hot {w : World} {h₀ h : Heap} {L wdd hl wx bx ib : Addr} {ow o1 o2 o3 : Obj} {n : Int} {vs : List Value} {xs : List Int} {x : Value} {e1 e2 eh : Nat} {v1 v2 v3 : Option Value}
    (N : News h₀ L h [(wdd, ow), (hl, listOf ([] : List Value).toArray eh), (wx, instObj 348 wdd), (bx, listOf [.ref ib, x].toArray e1), (ib, listOf vs.toArray e2), (L + 1 + 1 + 1, o3), (L + 1 + 1, o2), (L + 1, o1)]) (iw : IsWd w n hl ow) (d1 : o1.data = .cell v1) (d2 : o2.data = .cell v2) (d3 : o3.data = .cell v3) (hI : IntsAre vs xs) (hlib : hl ≠ ib) :
    [bx, ib, wdd, hl, L + 1, L + 1 + 1, L + 1 + 1 + 1].Nodup ∧ ∀ a ∈ [bx, ib, wdd, hl, L + 1, L + 1 + 1, L + 1 + 1 + 1], wx ≠ a := by
  have dc : ∀ {o : Obj} {v : Option Value} {l : List Value} {e : Nat}, o.data = .cell v → listOf l.toArray e ≠ o := fun h1 h2 => by rw [← h2] at h1; cases h1
  have dw : ∀ {o : Obj} {v : Option Value}, o.data = .cell v → ow ≠ o := fun h1 h2 => wd_cell iw _ (h2 ▸ h1)
  have dx : ∀ {o : Obj} {v : Option Value}, o.data = .cell v → instObj 348 wdd ≠ o := fun h1 h2 => by rw [← h2] at h1; cases h1
  have lw : ∀ {l : List Value} {e : Nat}, listOf l.toArray e ≠ ow := fun h1 => by have := wd_cls iw; rw [← h1] at this; revert this; simp
  have lx : ∀ {l : List Value} {e : Nat}, instObj 348 wdd ≠ listOf l.toArray e := fun h1 => by cases h1
  have wxw : instObj 348 wdd ≠ ow := fun h1 => by have := wd_cls iw; rw [← h1] at this; revert this; simp
  have m1 : (wdd, ow) ∈ [(wdd, ow), (hl, listOf ([] : List Value).toArray eh), (wx, instObj 348 wdd), (bx, listOf [.ref ib, x].toArray e1), (ib, listOf vs.toArray e2), (L + 1 + 1 + 1, o3), (L + 1 + 1, o2), (L + 1, o1)] := by walk_at "t_mm"
  have m2 : (hl, listOf ([] : List Value).toArray eh) ∈ [(wdd, ow), (hl, listOf ([] : List Value).toArray eh), (wx, instObj 348 wdd), (bx, listOf [.ref ib, x].toArray e1), (ib, listOf vs.toArray e2), (L + 1 + 1 + 1, o3), (L + 1 + 1, o2), (L + 1, o1)] := by walk_at "t_mm"
  have m3 : (wx, instObj 348 wdd) ∈ [(wdd, ow), (hl, listOf ([] : List Value).toArray eh), (wx, instObj 348 wdd), (bx, listOf [.ref ib, x].toArray e1), (ib, listOf vs.toArray e2), (L + 1 + 1 + 1, o3), (L + 1 + 1, o2), (L + 1, o1)] := by walk_at "t_mm"
  have m4 : (bx, listOf [.ref ib, x].toArray e1) ∈ [(wdd, ow), (hl, listOf ([] : List Value).toArray eh), (wx, instObj 348 wdd), (bx, listOf [.ref ib, x].toArray e1), (ib, listOf vs.toArray e2), (L + 1 + 1 + 1, o3), (L + 1 + 1, o2), (L + 1, o1)] := by walk_at "t_mm"
  have m5 : (ib, listOf vs.toArray e2) ∈ [(wdd, ow), (hl, listOf ([] : List Value).toArray eh), (wx, instObj 348 wdd), (bx, listOf [.ref ib, x].toArray e1), (ib, listOf vs.toArray e2), (L + 1 + 1 + 1, o3), (L + 1 + 1, o2), (L + 1, o1)] := by walk_at "t_mm"
  have m6 : (L + 1 + 1 + 1, o3) ∈ [(wdd, ow), (hl, listOf ([] : List Value).toArray eh), (wx, instObj 348 wdd), (bx, listOf [.ref ib, x].toArray e1), (ib, listOf vs.toArray e2), (L + 1 + 1 + 1, o3), (L + 1 + 1, o2), (L + 1, o1)] := by walk_at "t_mm"
  have m7 : (L + 1 + 1, o2) ∈ [(wdd, ow), (hl, listOf ([] : List Value).toArray eh), (wx, instObj 348 wdd), (bx, listOf [.ref ib, x].toArray e1), (ib, listOf vs.toArray e2), (L + 1 + 1 + 1, o3), (L + 1 + 1, o2), (L + 1, o1)] := by walk_at "t_mm"
  have m8 : (L + 1, o1) ∈ [(wdd, ow), (hl, listOf ([] : List Value).toArray eh), (wx, instObj 348 wdd), (bx, listOf [.ref ib, x].toArray e1), (ib, listOf vs.toArray e2), (L + 1 + 1 + 1, o3), (L + 1 + 1, o2), (L + 1, o1)] := by walk_at "t_mm"
  have vne : listOf [.ref ib, x].toArray e1 ≠ listOf vs.toArray e2 := fun h => by
    have h2 : [.ref ib, x] = vs := by
      have h3 := congrArg Obj.data h
      simp only [PySem.W.listOf, Data.seq.injEq] at h3
      simpa using h3.1
    rw [← h2] at hI
    cases hI
  have bne : listOf [.ref ib, x].toArray e1 ≠ listOf ([] : List Value).toArray eh := fun h => by simp at h
  refine ⟨?_, ?_⟩
  · simp only [List.nodup_cons, List.mem_cons, List.not_mem_nil, or_false, not_or, List.nodup_nil, and_true, not_false_eq_true]
    exact ⟨⟨news_diff N m4 m5 vne, news_diff N m4 m1 lw, news_diff N m4 m2 bne, news_diff N m4 m8 (dc d1), news_diff N m4 m7 (dc d2), news_diff N m4 m6 (dc d3)⟩, ⟨news_diff N m5 m1 lw, hlib.symm, news_diff N m5 m8 (dc d1), news_diff N m5 m7 (dc d2), news_diff N m5 m6 (dc d3)⟩, ⟨news_diff N m1 m2 lw.symm, news_diff N m1 m8 (dw d1), news_diff N m1 m7 (dw d2), news_diff N m1 m6 (dw d3)⟩, ⟨news_diff N m2 m8 (dc d1), news_diff N m2 m7 (dc d2), news_diff N m2 m6 (dc d3)⟩, ⟨Nat.ne_of_lt (Nat.lt_succ_self _), Nat.ne_of_lt (Nat.lt_succ_of_lt (Nat.lt_succ_self _))⟩, Nat.ne_of_lt (Nat.lt_succ_self _)⟩
  · simp only [List.mem_cons, List.not_mem_nil, or_false, forall_eq_or_imp, forall_eq]
    exact ⟨news_diff N m3 m4 lx, news_diff N m3 m5 lx, news_diff N m3 m1 wxw, news_diff N m3 m2 lx, news_diff N m3 m8 (dx d1), news_diff N m3 m7 (dx d2), news_diff N m3 m6 (dx d3)⟩
end
section
theorem law_split : lawStmts = startStmt :: allStmt :: namesStmt :: dueStmt :: turnFor :: endFor :: finStmts := rfl
set_option maxHeartbeats 2000000 in
theorem law_all {w : World} {mean : ExcName → Option Value} {mg mb : Str → Option Value} {fa : Addr} {cd : Value} {base h₀ : Heap} {L : Addr} {m : Str → Option Value} {s : Shared} {Q : Flow → Shared → Prop} {E : Value → Shared → Prop} {sc : Scope} (hsc : lawScope = sc) (B : Below callerA base [] h₀) (X : (hd.heap_1 w.params).In h₀) (T : Top lawView Loose mean mg mb h₀) (hE : PassesOwn (model PW w) (callerA.deeper (envOfC "law" sc L fa cd)) (envOfC "law" sc L fa cd) E) {sa : Addr} {vs : List Value} {xs : List Int} {o1 o2 o3 : Obj} (hL : h₀.IsList sa vs.toArray) (hI : IntsAre vs xs) (hz : ¬ ((63 : Nat) : Int) < (xs.length : Int)) (F : Fr h₀ L s.heap (fun y => if y = "script" then some (.ref sa) else m y)) (N : News h₀ L s.heap [(L + 1 + 1 + 1, o3), (L + 1 + 1, o2), (L + 1, o1)]) (d1 : o1.data = .cell none) (d2 : o2.data = .cell none) (d3 : o3.data = .cell none)
    (done : ∀ h' tk m', Fr h₀ L h' m' → Q (.ret (.bool true)) { s with heap := h', toks := tk }) :
    wpAny (model PW w) (callerA.deeper (envOfC "law" sc L fa cd)) (execs lawStmts (envOfC "law" sc L fa cd)) Q E s := by
  rw [law_split]
  refine wpAny_execs_cons ?_
  refine law_start hsc B X T rfl hL hI hz F N d1 d2 d3 ?_
  intro h1 tk1 wx wdd hl bx ib ow oc1 vs' xs' m1 tn e1 e2 eh F1 mb1 N1 iw1 dc1 hI1 hv1 hlib
  obtain ⟨hb, hwx⟩ := base_hot N1 iw1 dc1 d2 d3 hI1 hlib
  have hb' := hb
  simp only [List.nodup_cons, List.mem_cons, List.not_mem_nil, or_false, not_or, List.nodup_nil, and_true, not_false_eq_true] at hb'
  simp only [List.mem_cons, List.not_mem_nil, or_false, forall_eq_or_imp, forall_eq] at hwx
  obtain ⟨⟨a1, a2, a3, a4, a5, a6⟩, ⟨b1, b2, b3, b4, b5⟩, ⟨q1, q2, q3, q4⟩, ⟨g1, g2, g3⟩, ⟨i1, i2⟩, j1⟩ := hb'
  have hwx' := hwx
  obtain ⟨x1, x2, x3, x4, x5, x6, x7⟩ := hwx'
  refine wpAny_execs_cons ?_
  refine all_body (K := [(wx, instObj 348 wdd), (bx, listOf [.ref ib, .int 0 tn].toArray e1), (ib, listOf vs'.toArray e2), (L + 1 + 1 + 1, o3), (L + 1 + 1, o2), (L + 1, oc1)]) hsc B X T rfl F1 N1 iw1 (by walk_at "t_mm") (by walk_at "t_mm") dc1 q1 (by
    simp only [List.mem_cons, List.not_mem_nil, or_false, forall_eq_or_imp, forall_eq]
    exact ⟨x3, a2, b1, Ne.symm q4, Ne.symm q3, Ne.symm q2⟩) (by
    simp only [List.mem_cons, List.not_mem_nil, or_false, forall_eq_or_imp, forall_eq]
    exact ⟨x4, a3, b2, Ne.symm g3, Ne.symm g2, Ne.symm g1⟩) ?_
  intro h2 tk2 al e6 H0 H2 y1 yd ed pd b od1 exx ey er ow3 eh3 NF F2 N2 iw3 Z mal ho0 ho2 k0 u0 v0 k2 u2 v2 it mx1 md1
  obtain ⟨kd0, z0, n0, vs0, cs0⟩ := H0
  obtain ⟨kd2, z2, n2, vs2, cs2⟩ := H2
  dsimp only at *
  obtain ⟨t0, rfl⟩ := v0
  obtain ⟨t2, rfl⟩ := v2
  subst k0 u0 k2 u2
  refine wpAny_execs_cons ?_
  refine names_body (Fx := NF) (H0 := ⟨0, z0, 1, [.str "" t0, .str "" t0, .str "" t0], cs0⟩) (H2 := ⟨2, z2, 3, [.str "" t2, .str "" t2, .str "" t2], cs2⟩) hsc B X T rfl F2 N2 (List.mem_append_left _ mal) (fun p hp => List.mem_append_left _ hp) ho0 ho2 it (List.mem_append_left _ mx1) (List.mem_append_left _ md1) Z.p5.1 Z.p5.2.1 Z.p5.2.2 (Z.off (.inl rfl)) (Z.off (.inr (.inl rfl))) (Z.off (.inr (.inr rfl))) ?_
  intro h3 tk3 nmA nn D0 D1 D2 f0 f1 f2 p0 p1 p2 r0 r1 r2 s0 s1 s2 fx0 fx1 cs1 T3 fx2 u0 u1 u2 F3 N3 onm S0 O0 rp0 rp1 rp2 hT S1 ncs sfx O1 hol1 rr0 rr1 rr2 S2 O2 rt0 rt1 rt2
  refine wpAny_execs_cons ?_
  refine due_start hsc B X T rfl F3 N3 ?_
  intro h4 tk4 dt du wo tt1 tt2 tt3 ta tb tc et ee ew F4 N4 od w1 w2 w3
  have A := start_apart (owo := listOf [.str "ARRAY" ta, .str "TABLE" tb, .str "CELL" tc].toArray ew) (odt := tup [.str "" tt1, .str "" tt2, .str "" tt3] et) hb (by simp only [List.mem_cons, List.not_mem_nil, or_false, forall_eq_or_imp, forall_eq]; exact hwx) Z rfl rfl rfl rfl onm S0 O0 hT S1 ncs sfx O1 S2 O2 od w1 w2 w3
  obtain ⟨Fx, eF⟩ : ∃ Fx : FX, Fx = ((wo, listOf [.str "ARRAY" ta, .str "TABLE" tb, .str "CELL" tc].toArray ew) :: (dt, tup [.str "" tt1, .str "" tt2, .str "" tt3] et) :: (D2, listOf [s0, s1, s2].toArray f2) :: (fx2 ++ ((D1, listOf [r0, r1, r2].toArray f1) :: (T3 ++ (fx1 ++ ((D0, listOf [p0, p1, p2].toArray f0) :: (fx0 ++ (NF ++ [(wx, instObj 348 wdd)])))))))) := ⟨_, rfl⟩
  have N5 := start_news N4
  rw [← eF] at A N5
  have sN : ∀ p ∈ NF, p ∈ Fx := fun p hp => by rw [eF]; walk_at "t_mm"
  have sT : ∀ p ∈ T3, p ∈ Fx := fun p hp => by rw [eF]; walk_at "t_mm"
  have s0' : ∀ p ∈ fx0, p ∈ Fx := fun p hp => by rw [eF]; walk_at "t_mm"
  have s1' : ∀ p ∈ fx1, p ∈ Fx := fun p hp => by rw [eF]; walk_at "t_mm"
  have s2' : ∀ p ∈ fx2, p ∈ Fx := fun p hp => by rw [eF]; walk_at "t_mm"
  have mwo : (wo, listOf [.str "ARRAY" ta, .str "TABLE" tb, .str "CELL" tc].toArray ew) ∈ Fx := by rw [eF]; walk_at "t_mm"
  have mdt : (dt, tup [.str "" tt1, .str "" tt2, .str "" tt3] et) ∈ Fx := by rw [eF]; walk_at "t_mm"
  have mD0 : (D0, listOf [p0, p1, p2].toArray f0) ∈ Fx := by rw [eF]; walk_at "t_mm"
  have mD1 : (D1, listOf [r0, r1, r2].toArray f1) ∈ Fx := by rw [eF]; walk_at "t_mm"
  have mD2 : (D2, listOf [s0, s1, s2].toArray f2) ∈ Fx := by rw [eF]; walk_at "t_mm"
  have mwx : (wx, instObj 348 wdd) ∈ Fx := by rw [eF]; walk_at "t_mm"
  have hT1 := hol1 Fx (sN _ mx1) (sN _ md1) (fun p hp => (List.mem_append.mp hp).elim (sT p) (s1' p))
  clear eF
  let R0 : RW := ⟨⟨0, z0, 1, [.str "" t0, .str "" t0, .str "" t0], cs0⟩, D0, dt, ta⟩
  let R1 : RW := ⟨⟨1, y1, 2, [.str "" u0, .str "" u1, .str "" u2], cs1⟩, D1, dt, tb⟩
  let R2 : RW := ⟨⟨2, z2, 3, [.str "" t2, .str "" t2, .str "" t2], cs2⟩, D2, dt, tc⟩
  obtain ⟨m4, em4⟩ : ∃ m4, m4 = (fun y => if y = "due" then some (.ref du) else if y = "words" then some (.ref wo) else if y = "names" then some (.ref nmA) else if y = "all_of" then some (.ref al) else m1 y : Str → Option Value) := ⟨_, rfl⟩
  have F5 : Fr h₀ L h4 m4 := by rw [em4]; exact F4
  have S : SOk w [] bx ib wx wdd hl nmA L ⟨[R0, R1, R2], al, wo, du, 0, tn, vs', xs', e1, e2, eh3, nn, ee, e6, ew, ow3, oc1, o2, o3, Fx⟩ m4 := by
    refine ⟨hI1, Int.le_refl _, hv1, Nat.succ_pos _, iw3, dc1, ⟨_, d2⟩, ⟨_, d3⟩, sN _ mal, mwo, mwx, A, ?_, ?_, ?_, ?_, ?_, ?_, ?_⟩
    · intro R hR
      simp only [List.mem_cons, List.not_mem_nil, or_false] at hR
      rcases hR with rfl | rfl | rfl
      · exact ⟨ho0.mono sN, _, _, _, _, _, _, p0, p1, p2, _, _, _, _, _, rfl, .inl ⟨_, rfl, rfl⟩, .inl ⟨_, rfl, rfl⟩, .inl ⟨_, rfl, rfl⟩, mD0, rp0.mono s0', rp1.mono s0', rp2.mono s0', mdt, .inl ⟨_, rfl, rfl⟩, .inl ⟨_, rfl, rfl⟩, .inl ⟨_, rfl, rfl⟩⟩
      · exact ⟨hT1, _, _, _, _, _, _, r0, r1, r2, _, _, _, _, _, rfl, .inl ⟨_, rfl, rfl⟩, .inl ⟨_, rfl, rfl⟩, .inl ⟨_, rfl, rfl⟩, mD1, rr0.mono s1', rr1.mono s1', rr2.mono s1', mdt, .inl ⟨_, rfl, rfl⟩, .inl ⟨_, rfl, rfl⟩, .inl ⟨_, rfl, rfl⟩⟩
      · exact ⟨ho2.mono sN, _, _, _, _, _, _, s0, s1, s2, _, _, _, _, _, rfl, .inl ⟨_, rfl, rfl⟩, .inl ⟨_, rfl, rfl⟩, .inl ⟨_, rfl, rfl⟩, mD2, rt0.mono s2', rt1.mono s2', rt2.mono s2', mdt, .inl ⟨_, rfl, rfl⟩, .inl ⟨_, rfl, rfl⟩, .inl ⟨_, rfl, rfl⟩⟩
    · intro i R hR
      match i, hR with
      | 0, hR => cases hR; rfl
      | 1, hR => cases hR; rfl
      | 2, hR => cases hR; rfl
      | i + 3, hR => simp at hR
    all_goals (rw [em4]; dsimp only; repeat (first | rw [if_pos rfl] | rw [if_neg (by decide)]))
    exact mb1
  refine wpAny_execs_cons ?_
  refine law_loop (d := ⟨[R0, R1, R2], al, wo, du, 0, tn, vs', xs', e1, e2, eh3, nn, ee, e6, ew, ow3, oc1, o2, o3, Fx⟩) hsc B X T rfl hE F5 N5 S rfl rfl ?_
  intro h5 tk5 m5 d5 F6 N6 S6 hl6
  refine wpAny_execs_cons ?_
  refine end_loop hsc B X T rfl hE F6 N6 S6 hl6 ?_
  intro h6 tk6 m6 d6 F7 N7 S7 hR
  exact fin_body hsc B X T rfl F7 N7 S7 (by rw [hR]; exact hl6) (fun h' tk m' F' => done h' tk m' F')
end
section
theorem top_off_V27 : True := by
  w_top off
  trivial
local macro_rules | `(tactic| k_qdec) => `(tactic| decide +kernel)
set_option maxRecDepth 100000 in
set_option maxHeartbeats 2000000 in
theorem tw : PySem.Challenge.rw_sj0193_01.Holds := Mine.hd (by
  k_go0
  all_goals (try k_fold)
  rename IntsAre _ _ => hI
  rename Heap.IsList _ _ _ => hLs
  rename ¬ ((63 : Nat) : Int) < _ => hz
  rename Fr _ _ _ _ => F
  rename News _ _ _ _ => N0
  rename Below _ _ _ _ => K0
  rename Top _ _ _ _ _ _ => T
  refine law_all (sc := lawScope) (m := fun _ => none) rfl K0 ?kx T ?hE hLs hI hz ?F N0 ?d1 ?d2 ?d3 ?done
  case F => with_unfolding_all exact F
  case kx => assumption
  case hE => passes_own
  case d1 => (refine (by assumption : _ = Data.cell _).trans ?_; rfl)
  case d2 => (refine (by assumption : _ = Data.cell _).trans ?_; rfl)
  case d3 => (refine (by assumption : _ = Data.cell _).trans ?_; rfl)
  case done =>
    intro h' tk m' F'
    refine goodW_bool F' (by assumption) (fun _ => rfl) ?_
    first | wrow_post | kc_post)
end
end Mine
theorem PySem.Challenge.cw_sj0193_01_holds : PySem.Challenge.rw_sj0193_01.Holds :=
  Mine.tw
