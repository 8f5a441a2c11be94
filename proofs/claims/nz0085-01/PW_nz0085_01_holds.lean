import PyProof.Rows.All
import Wide.All
import OpenK.AllK
import Wide.FinOn
import PySem.Challenge.RW_nz0085_01
open PySem PySem.W PyProof.Rows
set_option Elab.async false
set_option maxRecDepth 100000
set_option maxHeartbeats 8000000
namespace Mine
noncomputable def vw : Program := view PySem.Challenge.pw_nz0085_01 [1, 2, 3, 4, 5, 6, 7, 8, 9, 10, 11, 13, 14, 15, 16, 17, 18, 19, 20, 21, 22, 23, 24, 25, 26, 27, 28, 30, 31, 32, 33, 34, 36, 37, 38, 39, 40, 41, 42, 43]
theorem left_boot {p q : Program} {loose : List Str} {Xt : Shared → Bool} {α : Type} {Yf : Shared → α} {Ya : World → α} {N : Nat}
    (e : opening p = plainProg p.main.scope.names) (hN : Nat.ble 600 N = true) (f : ∀ s, fenceModules? p s = some s)
    (h : ∀ (w : World) (os : OsState), (topFrom treeTable p w N ⟨boot_heap w.params, Array.mk [], boot_drawn, boot_toks, os⟩).map (fun s => (openSeen q loose (importedModules p.main.body) Xt true s, Yf s)) = some (openGood q loose, Ya w)) : LeftO p q loose Xt Yf Ya N := by
  intro w
  have b := boot_open e hN f w
  unfold openEnds
  cases hs : fencedOpening treeTable p w N with
  | none => rw [hs] at b; cases b
  | some s =>
    rw [hs] at b
    obtain ⟨hp, gs, dr, tk, os⟩ := s
    simp only [Option.map_some, Option.some.injEq, Prod.mk.injEq] at b
    obtain ⟨rfl, rfl, rfl, rfl⟩ := b
    exact h w os
set_option hygiene false in
local macro_rules | `(tactic| o_head $H) => `(tactic| (refine holds_open (q := vw) (loose := []) (Xt := fun s => xlAt vw [] s && recOk (RowW.records (OpenRow.toRowW (OpenLaw.row PySem.Challenge.rw_nz0085_01))) s) (XP := XL vw []) (Yf := Hook.obs $H) (Ya := Hook.val $H) (YP := Hook.says $H) (N := 3384) ?hl (Hook.of $H) (Hook.keeps $H) (fun s e => xl_of s (Bool.and_eq_true_iff.mp e).1) XL.keeps (by rfl) (by rfl) (by rfl) (fun s e => recFacts_of (Bool.and_eq_true_iff.mp e).2) (by rfl) (by first | assumption | decide +kernel) (by decide +kernel) ⟨rfl, rfl, rfl, rfl, rfl, by decide +kernel⟩ ?hw ?hc; (case hl => (refine left_boot (by kernel_rfl) (by decide) (fun _ => by kernel_rfl) ?_; intro w os; (unfold topFrom); (rw [PySem.W.Fast.te14082659384304107361, PySem.W.Fast.te4187177175401517315]); kernel_rfl))))
local macro_rules | `(tactic| o_law) => `(tactic| refine holds_law (by decide +kernel) fun said => ?_)
open_top hd for PySem.Challenge.rw_nz0085_01
open PySem.Spec PySem.Calls

noncomputable abbrev Led := List (Addr × Obj)
noncomputable abbrev TopM (mean : ExcName → Option Value) (mg mb : Str → Option Value) (h : Heap) : Prop := Top vw (looseW vw []) mean mg mb h

/-- f, called with vs while the heap bears news: gives back r, the heap having grown only; nx bears what r is made of -/
noncomputable def Ct (w : World) (mean : ExcName → Option Value) (mg mb : Str → Option Value) (k : Nat) (f : Addr) (vs : List Value) (news : Led) (post : Led → Value → Prop) : Prop :=
  ∀ (dp un : Nat) (gd : Option (List Code)) (cn : Str) (cs : Scope) (a : Addr) (ccd : Value) (cl : List (Str × Addr)) (outer : List Env) (A₀ : Around) (base h₀ : Heap) (L : Addr) (m : Str → Option Value) (s : Shared) (Q E : Value → Shared → Prop),
    Below A₀ base outer h₀ → Fr h₀ L s.heap m → (hd.heap_1 w.params).In h₀ → News h₀ L s.heap news → TopM mean mg mb h₀ → cs.kind = .function → dp + k < 1000 → un + 8 * k < 9900 →
    (∀ r nx h' tk', Fr h₀ L h' m → (∀ b o, s.heap.get? b = some o → h'.get? b = some o) → News h₀ L h' nx → (∀ p ∈ news, p ∈ nx) → (∀ p ∈ nx, s.heap.get? p.1 = none ∨ p ∈ news) → post nx r → Q r { s with heap := h', toks := tk' }) →
    wpAny (model PySem.Challenge.rw_nz0085_01.row.prog w) (ktrTop dp un gd cn cs L a ccd cl outer) (call (.ref f) vs) Q E s

/-- what a body must come to -/
noncomputable def PEnd (g : Heap) (news : Led) (post : Led → Value → Prop) (s : Shared) (v : Value) (s' : Shared) : Prop :=
  ∃ L' m' nx h' tk', s' = { s with heap := h', toks := tk' } ∧ Fr g L' h' m' ∧ News g L' h' nx ∧ (∀ p ∈ news, p ∈ nx) ∧ post nx v

theorem hideAll_back {h : Heap} {as : List Addr} {b : Addr} {o : Obj} (e : h.get? b = some o) : b ∈ as ∨ (hideAll h as).get? b = some o := by
  by_cases hb : b ∈ as
  · exact .inl hb
  · exact .inr (hideAll_get _ e hb)

theorem ct_of {w : World} {mean : ExcName → Option Value} {mg mb : Str → Option Value} {k : Nat} {f : Addr} {vs : List Value} {news : Led} {post : Led → Value → Prop}
    {name qual : Str} {params : Arguments} {body : List Stmt} {scope : Scope} {dV kV doc pm cdv ct oc : Value} {an od : Option Addr} {osl : Array (Option Value)} {binds : List (Str × Value)}
    (ho : (hd.heap_1 w.params).lookup f = some ⟨oc, od, .func (fnOf name qual params body scope dV kV doc pm an cdv ct), osl⟩) (hcd : codeIn (hd.heap_1 w.params) cdv qual = true)
    (hbind : ∀ s, BindsTo s (fnOf name qual params body scope dV kV doc pm an cdv ct) ⟨vs, []⟩ binds) (hloc : ∀ y ∈ binds, scope.names.lookup y.1 = some .local)
    (hcell : ∀ x ∈ scope.names, x.2 ≠ .cell) (hco : scope.isCoroutine = false) (hgen : scope.isGenerator = false) (hk : scope.kind = .function)
    (h : ∀ (dp un : Nat) (gd : Option (List Code)) (outer : List Env) (A₀ : Around) (base g : Heap) (L' : Addr) (s : Shared), dp + (k - 1) < 1000 → un + 8 * (k - 1) < 9900 → Fr g L' s.heap (fun y => binds.reverse.lookup y) → News g L' s.heap news → Below A₀ base outer g → (hd.heap_1 w.params).In g → TopM mean mg mb g → (∀ p ∈ news, p.1 < L') →
      wpAny (model PySem.Challenge.rw_nz0085_01.row.prog w) (ktrTop dp un gd qual scope L' f cdv [] outer) (execs body (envX qual scope L' f cdv [])) (fun fl s' => PEnd g news post s (match fl with | .ret v => v | _ => .none) s') (fun _ _ => False) s)
    (hk1 : 1 ≤ k) : Ct w mean mg mb k f vs news post := by
  intro dp un gd cn cs a ccd cl outer A₀ base h₀ L m s Q E B F X N T hke hd hu hret
  refine wpAny_call ?_
  have hroom : (ktrTop dp un gd cn cs L a ccd cl outer).depth < recursionLimit := by show dp < 1000; omega
  obtain ⟨FG, BG, st, lv⟩ := groundX (R := fun r s' => match r with | .ok (.ret v) => Q v s' | .ok _ => False | .error e => E e s') (A := ktrTop dp un gd cn cs L a ccd cl outer) B F N rfl rfl hke
  refine codeAny_call_def (fd := fnOf name qual params body scope dV kV doc pm an cdv ct) (body := body) (binds := binds) hroom ((X.keeps F.keep) _ _ ho) rfl (T.nolimit.keeps F.keep) (codeRec_of (X.keeps F.keep) hcd) rfl (hbind s) hcell hloc (fun h₁ hns hk₁ => ?_) hco hgen hk
  have NL : ∀ p ∈ news, p.1 < s.heap.objs.size := fun p hp => Heap.lt_size (N p hp).1
  have H := h (dp + 1) (un + 3) gd (envX cn cs L a ccd cl :: outer) _ base (hideAll s.heap (news.map (·.1))) s.heap.objs.size { s with heap := h₁, toks := s.toks + binds.length } (by omega) (by omega) ⟨hns, fun b o e => hk₁ b o (of_hideAll _ e), Nat.le_of_eq (hideAll_size _ _)⟩
    (fun p hp => ⟨hk₁ _ _ (N p hp).1, Nat.ne_of_lt (NL p hp), hideAll_none _ (List.mem_map_of_mem hp)⟩) BG (X.keeps fun b o e => st b o e) (T.keeps fun b o e => st b o e) NL
  refine wpAny_mono H (fun fl s' hl => ?_) fun _ _ y => y.elim
  obtain ⟨L', m', nx, h', tk', rfl, F', N', hsub, hp⟩ := hl
  have keep : ∀ b o, s.heap.get? b = some o → h'.get? b = some o := by
    intro b o e
    rcases hideAll_back (as := news.map (·.1)) e with hb | hb
    · obtain ⟨p, hp, rfl⟩ := List.mem_map.mp hb
      have e2 := (N p hp).1
      rw [e] at e2
      cases e2
      exact (N' p (hsub p hp)).1
    · exact F'.keep b o hb
  refine hret _ nx h' tk' ⟨F.ns.keeps keep, fun b o e => keep b o (F.keep b o e), F.above⟩ keep (fun p hp' => ?_) hsub (fun p hp' => ?_) hp
  · refine ⟨(N' p hp').1, fun q => ?_, ?_⟩
    · obtain ⟨oL, es, ep, hL, hLd, _⟩ := FG.ns
      have := (N' p hp').2.2
      rw [q, hL] at this; cases this
    · cases q : h₀.get? p.1 with
      | none => rfl
      | some o => have := (N' p hp').2.2; rw [st _ _ q] at this; cases this
  · cases q : s.heap.get? p.1 with
    | none => exact .inl rfl
    | some o =>
      rcases hideAll_back (as := news.map (·.1)) q with hb | hb
      · obtain ⟨p', hp1, e1⟩ := List.mem_map.mp hb
        have e2 := (N' p' (hsub p' hp1)).1
        have e3 := (N' p hp').1
        rw [e1, e3] at e2
        have : p' = p := Prod.ext e1 (Option.some.inj e2).symm
        exact .inr (this ▸ hp1)
      · have := (N' p hp').2.2; rw [hb] at this; cases this

theorem leave_back {w : World} {mean : ExcName → Option Value} {mg mb : Str → Option Value} {news : Led} {post : Led → Value → Prop} {h₀ : Heap} {L : Addr} {m : Str → Option Value} {s : Shared} {Q E : Value → Shared → Prop} {s₁ : Shared} {v : Value} {s' : Shared} {h₁ : Heap} {t₁ : Nat} (e₁ : s₁ = { s with heap := h₁, toks := t₁ })
    (F : Fr h₀ L s.heap m) (N : News h₀ L s.heap news) (FG : Fr h₀ L (hideAll s.heap (news.map (·.1))) m) (st : h₀.StaysIn (hideAll s.heap (news.map (·.1))))
    (hret : ∀ r nx h' tk', Fr h₀ L h' m → (∀ b o, s.heap.get? b = some o → h'.get? b = some o) → News h₀ L h' nx → (∀ p ∈ news, p ∈ nx) → (∀ p ∈ nx, s.heap.get? p.1 = none ∨ p ∈ news) → post nx r → Q r { s with heap := h', toks := tk' })
    (hl : PEnd (hideAll s.heap (news.map (·.1))) news post s₁ v s') : Q v s' := by
  subst e₁
  obtain ⟨L', m', nx, h', tk', rfl, F', N', hsub, hp⟩ := hl
  have keep : ∀ b o, s.heap.get? b = some o → h'.get? b = some o := by
    intro b o e
    rcases hideAll_back (as := news.map (·.1)) e with hb | hb
    · obtain ⟨p, hp, rfl⟩ := List.mem_map.mp hb
      have e2 := (N p hp).1
      rw [e] at e2
      cases e2
      exact (N' p (hsub p hp)).1
    · exact F'.keep b o hb
  refine hret _ nx h' tk' ⟨F.ns.keeps keep, fun b o e => keep b o (F.keep b o e), F.above⟩ keep (fun p hp' => ?_) hsub (fun p hp' => ?_) hp
  · refine ⟨(N' p hp').1, fun q => ?_, ?_⟩
    · obtain ⟨oL, es, ep, hL, hLd, _⟩ := FG.ns
      have := (N' p hp').2.2
      rw [q, hL] at this; cases this
    · cases q : h₀.get? p.1 with
      | none => rfl
      | some o => have := (N' p hp').2.2; rw [st _ _ q] at this; cases this
  · cases q : s.heap.get? p.1 with
    | none => exact .inl rfl
    | some o =>
      rcases hideAll_back (as := news.map (·.1)) q with hb | hb
      · obtain ⟨p', hp1, e1⟩ := List.mem_map.mp hb
        have e2 := (N' p' (hsub p' hp1)).1
        have e3 := (N' p hp').1
        rw [e1, e3] at e2
        have : p' = p := Prod.ext e1 (Option.some.inj e2).symm
        exact .inr (this ▸ hp1)
      · have := (N' p hp').2.2; rw [hb] at this; cases this

theorem ct_ofC {w : World} {mean : ExcName → Option Value} {mg mb : Str → Option Value} {k : Nat} {f : Addr} {vs : List Value} {news : Led} {post : Led → Value → Prop}
    {name qual : Str} {params : Arguments} {body : List Stmt} {scope : Scope} {dV kV doc pm cdv ct oc : Value} {an od : Option Addr} {osl : Array (Option Value)} {binds : List (Str × Value)}
    (ho : (hd.heap_1 w.params).lookup f = some ⟨oc, od, .func (fnOf name qual params body scope dV kV doc pm an cdv ct), osl⟩) (hcd : codeIn (hd.heap_1 w.params) cdv qual = true)
    (hbind : ∀ s, BindsTo s (fnOf name qual params body scope dV kV doc pm an cdv ct) ⟨vs, []⟩ binds) (hkind : (binds.all fun y => scope.names.lookup y.1 == some .local || scope.names.lookup y.1 == some .cell) = true)
    (hnd : ((cellsFrom 0 scope.names []).map (·.1)).Nodup) (hco : scope.isCoroutine = false) (hgen : scope.isGenerator = false) (hk : scope.kind = .function)
    (h : ∀ (dp un : Nat) (gd : Option (List Code)) (outer : List Env) (A₀ : Around) (base g : Heap) (L' : Addr) (s : Shared) (cells : Led), dp + (k - 1) < 1000 → un + 8 * (k - 1) < 9900 → Fr g L' s.heap (bindL (envOfC qual scope L' f cdv).kindOf binds fun _ => none) → News g L' s.heap (cells ++ news) →
      CellsAre (bindC (envOfC qual scope L' f cdv).kindOf binds fun _ => none) (cellsFrom (L' + 1) scope.names []) cells → Below A₀ base outer g → (hd.heap_1 w.params).In g → TopM mean mg mb g → (∀ p ∈ news, p.1 < L') →
      wpAny (model PySem.Challenge.rw_nz0085_01.row.prog w) (ktrTop dp un gd qual scope L' f cdv (cellsFrom (L' + 1) scope.names []) outer) (execs body (envOfC qual scope L' f cdv)) (fun fl s' => PEnd g news post s (match fl with | .ret v => v | _ => .none) s') (fun _ _ => False) s)
    (hk1 : 1 ≤ k) : Ct w mean mg mb k f vs news post := by
  intro dp un gd cn cs a ccd cl outer A₀ base h₀ L m s Q E B F X N T hke hd hu hret
  refine wpAny_call ?_
  have hroom : (ktrTop dp un gd cn cs L a ccd cl outer).depth < recursionLimit := by show dp < 1000; omega
  obtain ⟨FG, BG, st, lv⟩ := groundX (R := fun r s' => match r with | .ok (.ret v) => Q v s' | .ok _ => False | .error e => E e s') (A := ktrTop dp un gd cn cs L a ccd cl outer) B F N rfl rfl hke
  refine codeAny_call_function hroom ((X.keeps F.keep) _ _ ho) rfl hco hgen rfl (codeRec_of (X.keeps F.keep) hcd) (hbind s _ _ _ _ ?_)
  refine wpAny_newFunctionEnv_cells hk (kindsX hkind _) fun env' he s' x => ?_
  subst he
  refine ⟨((T.nolimit.keeps F.keep)).keeps x.toInCall.keep, codeAny_func ?_⟩
  obtain ⟨h₁, tk, rfl, _⟩ := x.done
  have hk₁ := x.toInCall.keep
  obtain ⟨cells, NC, Y⟩ := Cl.news (h₀ := s.heap) (Nat.le_refl _) fun n c hm => ⟨x.cell n c (lookup_of_mem_nodup (cellsFrom_names scope.names 0 (s.heap.objs.size + 1) [] [] rfl ▸ hnd) hm), x.above n c hm⟩
  have NL : ∀ p ∈ news, p.1 < s.heap.objs.size := fun p hp => Heap.lt_size (N p hp).1
  have H := h (dp + 1) (un + 3) gd (envX cn cs L a ccd cl :: outer) _ base (hideAll s.heap (news.map (·.1))) s.heap.objs.size { s with heap := h₁, toks := tk } cells (by omega) (by omega) ⟨x.toInCall.ns, fun b o e => hk₁ b o (of_hideAll _ e), Nat.le_of_eq (hideAll_size _ _)⟩
    (fun p hp => by
      rcases List.mem_append.mp hp with hp | hp
      · refine ⟨(NC p hp).1, (NC p hp).2.1, ?_⟩
        cases q : (hideAll s.heap (news.map (·.1))).get? p.1 with
        | none => rfl
        | some o => have := of_hideAll _ q; rw [(NC p hp).2.2] at this; cases this
      · exact ⟨hk₁ _ _ (N p hp).1, Nat.ne_of_lt (Heap.lt_size (N p hp).1), hideAll_none _ (List.mem_map_of_mem hp)⟩) Y BG (X.keeps fun b o e => st b o e) (T.keeps fun b o e => st b o e) NL
  exact wpAny_mono H (fun fl s' hl => leave_back (w := w) (mean := mean) (mg := mg) (mb := mb) (E := E) rfl F N FG st hret hl) fun _ _ y => y.elim
noncomputable abbrev tupS (b : Bool) (l : Addr) (c : Nat) : Obj := { cls := .type "tuple", data := .seq #[.bool b, .ref l] c }
noncomputable def LRes (ns : List Int) (nx : Led) (r : Value) : Prop := ∃ l vs c, r = .ref l ∧ (l, listOf (List.toArray vs) c) ∈ nx ∧ IntsAre vs ns
noncomputable def SRes (b : Bool) (ns : List Int) (nx : Led) (r : Value) : Prop := ∃ a l vs c c', r = .ref a ∧ (a, tupS b l c) ∈ nx ∧ (l, listOf (List.toArray vs) c') ∈ nx ∧ IntsAre vs ns
noncomputable def IRes (i : Int) (_ : Led) (r : Value) : Prop := ∃ t, r = .int i t
noncomputable def BRes (b : Bool) (_ : Led) (r : Value) : Prop := r = .bool b

theorem sres_of {a l : Addr} {b b' : Bool} {c c' : Nat} {vs : List Value} {ns ns' : List Int} {nx : Led} (h1 : (a, tupS b' l c) ∈ nx) (h2 : (l, listOf (List.toArray vs) c') ∈ nx) (h3 : IntsAre vs ns') (e : b' = b) (e' : ns' = ns) : SRes b ns nx (.ref a) := by
  subst e; subst e'; exact ⟨a, l, vs, c, c', rfl, h1, h2, h3⟩
theorem lres_of {l : Addr} {c' : Nat} {vs : List Value} {ns ns' : List Int} {nx : Led} (h2 : (l, listOf (List.toArray vs) c') ∈ nx) (h3 : IntsAre vs ns') (e' : ns' = ns) : LRes ns nx (.ref l) := by
  subst e'; exact ⟨l, vs, c', rfl, h2, h3⟩
theorem lres_push {l : Addr} {c' : Nat} {vs : List Value} {ns ns' : List Int} {nx : Led} {i : Int} {t : Tok} (h2 : (l, listOf ((List.toArray vs).push (.int i t)) c') ∈ nx) (h3 : IntsAre vs ns') (e' : ns' ++ [i] = ns) : LRes ns nx (.ref l) := by
  subst e'
  refine ⟨l, vs ++ [.int i t], c', rfl, ?_, h3.append (.cons _ _ .nil)⟩
  rw [List.push_toArray] at h2; exact h2
theorem ires_of {i j : Int} {t : Tok} {nx : Led} (e : j = i) : IRes i nx (.int j t) := ⟨t, by rw [e]⟩
theorem bres_of {i j : Bool} {nx : Led} (e : j = i) : BRes i nx (.bool j) := by rw [e]; rfl
noncomputable def Sub : Led → Led → Prop
  | [], _ => True
  | p :: r, l => p ∈ l ∧ Sub r l
theorem Sub.all {l : Led} : ∀ {k : Led}, Sub k l → ∀ p ∈ k, p ∈ l
  | [], _, _, h => nomatch h
  | _ :: _, ⟨a, b⟩, p, h => by
    rcases List.mem_cons.mp h with rfl | h
    · exact a
    · exact b.all p h

noncomputable def ORes (o : Option Int) (_ : Led) (r : Value) : Prop := (o = none ∧ r = .none) ∨ ∃ i t, o = some i ∧ r = .int i t
theorem ores_none {o : Option Int} {nx : Led} (e : none = o) : ORes o nx .none := .inl ⟨e.symm, rfl⟩
theorem ores_some {o : Option Int} {nx : Led} {i : Int} {t : Tok} (e : some i = o) : ORes o nx (.int i t) := .inr ⟨i, t, e.symm, rfl⟩
theorem pend {g : Heap} {news : Led} {post : Led → Value → Prop} {s s' : Shared} {v : Value} {L' : Addr} {m' : Str → Option Value} {nx : Led}
    (F : Fr g L' s'.heap m') (N : News g L' s'.heap nx) (hs : Sub news nx) (hp : post nx v) (e : s' = { s with heap := s'.heap, toks := s'.toks }) : PEnd g news post s v s' :=
  ⟨L', m', nx, s'.heap, s'.toks, e, F, N, hs.all, hp⟩

section
variable {w : World} {mean : ExcName → Option Value} {mg mb : Str → Option Value} {k : Nat} {f : Addr} {vs : List Value} {news FL : Led} {ns : List Int} {b : Bool} {i : Int}
  {dp un : Nat} {gd : Option (List Code)} {cn : Str} {cs : Scope} {a : Addr} {ccd : Value} {cl : List (Str × Addr)} {outer : List Env} {A₀ : Around} {base h₀ : Heap} {L : Addr} {m : Str → Option Value} {s : Shared} {Q E : Value → Shared → Prop}
theorem use_L (B : Below A₀ base outer h₀) (F : Fr h₀ L s.heap m) (X : (hd.heap_1 w.params).In h₀) (N : News h₀ L s.heap FL) (T : TopM mean mg mb h₀) (hk : cs.kind = .function)
    (C : Ct w mean mg mb k f vs news (LRes ns)) (hsub : Sub news FL) (hd : dp + k < 1000) (hu : un + 8 * k < 9900)
    (h : ∀ l ls c h' tk', Fr h₀ L h' m → News h₀ L h' ((l, listOf (List.toArray ls) c) :: FL) → IntsAre ls ns → Q (.ref l) { s with heap := h', toks := tk' }) :
    wpAny (model PySem.Challenge.rw_nz0085_01.row.prog w) (ktrTop dp un gd cn cs L a ccd cl outer) (call (.ref f) vs) Q E s := by
  refine C dp un gd cn cs a ccd cl outer A₀ base h₀ L m s Q E B F X (fun p hp => N p (hsub.all p hp)) T hk hd hu ?_
  rintro r nx h' tk' F' keep N' - - ⟨l, ls, c, rfl, hm, hi⟩
  refine h l ls c h' tk' F' (fun p hp => ?_) hi
  rcases List.mem_cons.mp hp with rfl | hp
  · exact N' _ hm
  · exact ⟨keep _ _ (N p hp).1, (N p hp).2⟩
theorem use_S (B : Below A₀ base outer h₀) (F : Fr h₀ L s.heap m) (X : (hd.heap_1 w.params).In h₀) (N : News h₀ L s.heap FL) (T : TopM mean mg mb h₀) (hk : cs.kind = .function)
    (C : Ct w mean mg mb k f vs news (SRes b ns)) (hsub : Sub news FL) (hd : dp + k < 1000) (hu : un + 8 * k < 9900)
    (h : ∀ x l ls c c' h' tk', Fr h₀ L h' m → News h₀ L h' ((x, tupS b l c) :: (l, listOf (List.toArray ls) c') :: FL) → IntsAre ls ns → Q (.ref x) { s with heap := h', toks := tk' }) :
    wpAny (model PySem.Challenge.rw_nz0085_01.row.prog w) (ktrTop dp un gd cn cs L a ccd cl outer) (call (.ref f) vs) Q E s := by
  refine C dp un gd cn cs a ccd cl outer A₀ base h₀ L m s Q E B F X (fun p hp => N p (hsub.all p hp)) T hk hd hu ?_
  rintro r nx h' tk' F' keep N' - - ⟨x, l, ls, c, c', rfl, hm, hm', hi⟩
  refine h x l ls c c' h' tk' F' (fun p hp => ?_) hi
  rcases List.mem_cons.mp hp with rfl | hp
  · exact N' _ hm
  rcases List.mem_cons.mp hp with rfl | hp
  · exact N' _ hm'
  · exact ⟨keep _ _ (N p hp).1, (N p hp).2⟩
theorem use_Sl (B : Below A₀ base outer h₀) (F : Fr h₀ L s.heap m) (X : (hd.heap_1 w.params).In h₀) (N : News h₀ L s.heap FL) (T : TopM mean mg mb h₀) (hk : cs.kind = .function)
    (C : Ct w mean mg mb k f vs news (SRes b ns)) (hsub : Sub news FL) (hd : dp + k < 1000) (hu : un + 8 * k < 9900)
    (h : ∀ x l ls c c' h' tk', let FL' := (x, tupS b l c) :: (l, listOf (List.toArray ls) c') :: FL; Fr h₀ L h' m → News h₀ L h' FL' → IntsAre ls ns → Q (.ref x) { s with heap := h', toks := tk' }) :
    wpAny (model PySem.Challenge.rw_nz0085_01.row.prog w) (ktrTop dp un gd cn cs L a ccd cl outer) (call (.ref f) vs) Q E s := by
  refine C dp un gd cn cs a ccd cl outer A₀ base h₀ L m s Q E B F X (fun p hp => N p (hsub.all p hp)) T hk hd hu ?_
  rintro r nx h' tk' F' keep N' - - ⟨x, l, ls, c, c', rfl, hm, hm', hi⟩
  refine h x l ls c c' h' tk' F' (fun p hp => ?_) hi
  rcases List.mem_cons.mp hp with rfl | hp
  · exact N' _ hm
  rcases List.mem_cons.mp hp with rfl | hp
  · exact N' _ hm'
  · exact ⟨keep _ _ (N p hp).1, (N p hp).2⟩
theorem use_I (B : Below A₀ base outer h₀) (F : Fr h₀ L s.heap m) (X : (hd.heap_1 w.params).In h₀) (N : News h₀ L s.heap FL) (T : TopM mean mg mb h₀) (hk : cs.kind = .function)
    (C : Ct w mean mg mb k f vs news (IRes i)) (hsub : Sub news FL) (hd : dp + k < 1000) (hu : un + 8 * k < 9900)
    (h : ∀ t h' tk', Fr h₀ L h' m → News h₀ L h' FL → Q (.int i t) { s with heap := h', toks := tk' }) :
    wpAny (model PySem.Challenge.rw_nz0085_01.row.prog w) (ktrTop dp un gd cn cs L a ccd cl outer) (call (.ref f) vs) Q E s := by
  refine C dp un gd cn cs a ccd cl outer A₀ base h₀ L m s Q E B F X (fun p hp => N p (hsub.all p hp)) T hk hd hu ?_
  rintro r nx h' tk' F' keep N' - - ⟨t, rfl⟩
  exact h t h' tk' F' fun p hp => ⟨keep _ _ (N p hp).1, (N p hp).2⟩
theorem use_O {o : Option Int} (B : Below A₀ base outer h₀) (F : Fr h₀ L s.heap m) (X : (hd.heap_1 w.params).In h₀) (N : News h₀ L s.heap FL) (T : TopM mean mg mb h₀) (hk : cs.kind = .function)
    (C : Ct w mean mg mb k f vs news (ORes o)) (hsub : Sub news FL) (hd : dp + k < 1000) (hu : un + 8 * k < 9900)
    (h0 : o = none → ∀ h' tk', Fr h₀ L h' m → News h₀ L h' FL → Q .none { s with heap := h', toks := tk' })
    (h1 : ∀ i, o = some i → ∀ t h' tk', Fr h₀ L h' m → News h₀ L h' FL → Q (.int i t) { s with heap := h', toks := tk' }) :
    wpAny (model PySem.Challenge.rw_nz0085_01.row.prog w) (ktrTop dp un gd cn cs L a ccd cl outer) (call (.ref f) vs) Q E s := by
  refine C dp un gd cn cs a ccd cl outer A₀ base h₀ L m s Q E B F X (fun p hp => N p (hsub.all p hp)) T hk hd hu ?_
  rintro r nx h' tk' F' keep N' - - (⟨e, rfl⟩ | ⟨i, t, e, rfl⟩)
  · exact h0 e h' tk' F' fun p hp => ⟨keep _ _ (N p hp).1, (N p hp).2⟩
  · exact h1 i e t h' tk' F' fun p hp => ⟨keep _ _ (N p hp).1, (N p hp).2⟩
theorem use_B (B : Below A₀ base outer h₀) (F : Fr h₀ L s.heap m) (X : (hd.heap_1 w.params).In h₀) (N : News h₀ L s.heap FL) (T : TopM mean mg mb h₀) (hk : cs.kind = .function)
    (C : Ct w mean mg mb k f vs news (BRes b)) (hsub : Sub news FL) (hd : dp + k < 1000) (hu : un + 8 * k < 9900)
    (h : ∀ h' tk', Fr h₀ L h' m → News h₀ L h' FL → Q (.bool b) { s with heap := h', toks := tk' }) :
    wpAny (model PySem.Challenge.rw_nz0085_01.row.prog w) (ktrTop dp un gd cn cs L a ccd cl outer) (call (.ref f) vs) Q E s := by
  refine C dp un gd cn cs a ccd cl outer A₀ base h₀ L m s Q E B F X (fun p hp => N p (hsub.all p hp)) T hk hd hu ?_
  rintro r nx h' tk' F' keep N' - - rfl
  exact h h' tk' F' fun p hp => ⟨keep _ _ (N p hp).1, (N p hp).2⟩
end
theorem dm {n W : Int} (hn : 0 ≤ n) (hw : 2 ≤ W) : 0 ≤ n.fdiv W ∧ n.fdiv W ≤ n ∧ 0 ≤ n.fmod W ∧ n.fmod W < W := by
  rw [Int.fdiv_eq_ediv_of_nonneg _ (by omega), Int.fmod_eq_emod_of_nonneg _ (by omega)]
  exact ⟨Int.ediv_nonneg hn (by omega), Int.ediv_le_self _ hn, Int.emod_nonneg _ (by omega), Int.emod_lt_of_pos _ (by omega)⟩
section
variable {prog : Program} {w : World} {A : Around} {E : Value → Shared → Prop} {s : Shared} {Q : Value → Shared → Prop} {n W : Int} {t u : Tok}
/-- the quotient as a letter -/
theorem fdiv_gen (hn : 0 ≤ n) (hw : 2 ≤ W) (hw' : W ≤ 9) (h : ∀ q, q = n.fdiv W → 0 ≤ q → q ≤ n → Q (.int q s.toks) { s with toks := s.toks + 1 }) : wpAny (model prog w) A (binaryOp .FloorDiv (.int n t) (.int W u)) Q E s :=
  floordiv_int (by omega) (h _ rfl (dm hn hw).1 (dm hn hw).2.1) (Or.inl (PyProof.noPylong_small (by omega)))
theorem fdiv_known {q : Int} (e : q = n.fdiv W) (hw : 2 ≤ W) (hw' : W ≤ 9) (h : Q (.int q s.toks) { s with toks := s.toks + 1 }) : wpAny (model prog w) A (binaryOp .FloorDiv (.int n t) (.int W u)) Q E s := by
  subst e; exact floordiv_int (by omega) h (Or.inl (PyProof.noPylong_small (by omega)))
theorem fmod_known {r : Int} (e : r = n.fmod W) (hw : 2 ≤ W) (h : Q (.int r s.toks) { s with toks := s.toks + 1 }) : wpAny (model prog w) A (binaryOp .Mod (.int n t) (.int W u)) Q E s := by
  subst e; exact mod_int' (by omega) h
/-- the rest as a letter -/
theorem fmod_gen (hn : 0 ≤ n) (hw : 2 ≤ W) (h : ∀ r, r = n.fmod W → 0 ≤ r → r < W → Q (.int r s.toks) { s with toks := s.toks + 1 }) : wpAny (model prog w) A (binaryOp .Mod (.int n t) (.int W u)) Q E s :=
  mod_int' (by omega) (h _ rfl (dm hn hw).2.2.1 (dm hn hw).2.2.2)
end
/-- a place where the walk is to stand still -/
noncomputable def Hold (P : Prop) : Prop := P
theorem hold {P : Prop} (h : Hold P) : P := h
theorem dlt {d a b : Nat} (h : d + b < 1000) (hab : a ≤ b) : d + a < 1000 := by omega
theorem ult {d a b : Nat} (h : d + b < 9900) (hab : a ≤ b) : d + a < 9900 := by omega
/-- a row of limbs -/
noncomputable def LimbB (a : List Int) : Prop := ∀ x ∈ a, 0 ≤ x ∧ x < 512
theorem LimbB.abs {a : List Int} {x : Int} (h : LimbB a) (hx : x ∈ a) : x.natAbs < 2 ^ 64 := by
  have := h x hx; omega
theorem LimbB.at {a : List Int} (h : LimbB a) (k : Nat) : 0 ≤ a.getD k 0 ∧ a.getD k 0 < 512 := by
  by_cases hk : k < a.length
  · have e : a.getD k 0 = a[k] := by simp [List.getD_eq_getElem?_getD, hk]
    rw [e]; exact h _ (List.getElem_mem hk)
  · simp only [List.getD_eq_getElem?_getD]; rw [List.getElem?_eq_none (by omega)]; decide
theorem LimbB.nonneg {a : List Int} {x : Int} (h : LimbB a) (hx : x ∈ a) : 0 ≤ x := (h x hx).1
theorem LimbB.absAt {a : List Int} (h : LimbB a) (k : Nat) : (a.getD k 0).natAbs < 2 ^ 64 := by
  have := h.at k; omega

-- part Base
variable {w : World} {mean : ExcName → Option Value} {mg mb : Str → Option Value}
/-- a carry that runs through so many turns -/
theorem rows1 : True := by
  k_with_none
  k_with "ct" => ((case k6 => k_is); (case k7 => k_is); (case k9 => (intro s; exact BindsTo.of_eq rfl)); (case kB => exact locs rfl); (case c5 => decide); (case c2 => exact rfl); (case c3 => exact rfl); (case c4 => exact rfl); (case c6 => decide))
  k_with "ctc" => ((case k6 => k_is); (case k7 => k_is); (case k9 => (intro s; exact BindsTo.of_eq rfl)); (case kB => exact rfl); (case kD => decide +kernel); (case c2 => exact rfl); (case c3 => exact rfl); (case c4 => exact rfl); (case c6 => decide))
  k_with "m_mem" => first | exact List.mem_cons_self | (refine List.mem_cons_of_mem _ ?_; k_extra "m_mem")
  k_with "m_sub" => first | exact True.intro | (refine' And.intro ?zzm1 ?zzm2; (case zzm1 => first | (with_reducible k_extra "m_mem") | k_mem); (case zzm2 => k_extra "m_sub"))
  k_with "PEnd" => (refine' pend ?zzF ?zzN ?zzS ?_ ?zzE; (case zzF => k_asm); (case zzN => k_asm); (case zzS => k_extra "m_sub"); (case zzE => exact rfl); (try dsimp only))
  k_with "SRes" => (refine' sres_of ?zzm1 ?zzm2 ?zzm3 ?_ ?_; (case zzm1 => k_mem); (case zzm2 => k_mem); (case zzm3 => k_asm))
  k_with "LRes" => (refine' lres_of ?zzm2 ?zzm3 ?_; (case zzm2 => k_mem); (case zzm3 => first | k_asm | exact IntsAre.nil | l_ints))
  k_with "LRes" => (refine' lres_push ?zzm2 ?zzm3 ?_; (case zzm2 => k_mem); (case zzm3 => k_asm))
  k_with "IRes" => (refine' ires_of ?_)
  k_with "ORes" => first | refine' ores_none ?_ | refine' ores_some ?_
  k_with "BRes" => (refine' bres_of ?_)
  k_with "binaryOp FloorDiv int int" => (k_here; k_dflt (refine' fdiv_gen ?zza ?zzb ?zzc ?_; (case zza => omega); (case zzb => omega); (case zzc => omega)); intro _ _ _ _)
  k_with "binaryOp Mod int int" => (k_here; k_dflt (refine' fmod_gen ?zza ?zzb ?_; (case zza => omega); (case zzb => omega)); intro _ _ _ _)
  k_with "binaryOp FloorDiv int int" => (k_here; k_dflt (refine' fdiv_known ?zze ?zzb ?zzc ?_; (case zze => assumption); (case zzb => omega); (case zzc => omega)))
  k_with "binaryOp Mod int int" => (k_here; k_dflt (refine' fmod_known ?zze ?zzb ?_; (case zze => assumption); (case zzb => omega)))
  k_with "m_abs" => first | omega | exact LimbB.abs (by assumption) (by assumption) | exact LimbB.absAt (by assumption) _
  k_with "binaryOp LShift int int" => (k_here; k_dflt (refine' lshift_int_small ?zza ?zzb ?zzc ?_; (case zza => omega); (case zzb => omega); (case zzc => k_extra "m_abs")))
  k_with "binaryOp RShift int int" => (k_here; k_dflt (refine' rshift_int ?zza ?_; (case zza => omega)))
  k_with "m_use" => ((case zzB => k_asm); (case zzF => k_asm); (case zzX => k_asm); (case zzN => k_asm); (case zzT => k_asm); (case zzK => first | exact rfl | assumption); (case zzS => k_extra "m_sub"); (case zzD => first | exact dlt (by assumption) (by decide) | omega); (case zzU => first | exact ult (by assumption) (by decide) | omega))
  k_with "subscriptTail Name Slice ref ref" => (k_here; k_dflt (refine' kmk_slice_ints ?zzF ?zzN ?zzl ?zzp ?zzq ?zzi ?zzm ?zzc ?_ ?zzs ?zzt ?zzz; (case zzF => k_asm); (case zzN => k_asm); (case zzl => exact News.isList (by k_asm) (by k_mem)); (case zzp => kmk_part); (case zzq => kmk_part); (case zzi => k_asm); (case zzm => first | exact kmk_all (by assumption) | exact kmk_upto (by assumption) (by omega)); (case zzc => kmk_len); (case zzs => with_unfolding_all rfl); (case zzt => kmk_pure); (case zzz => exact kmk_sz (by assumption) (by rw [sizeLine_eq]; omega))); intro _ _ _ _ _ l1 _ _ _; (try k_lt l1); (try k_sweep))
  k_with "InvEndN" => k_dflt kst_close
  exact True.intro
noncomputable def runA (W : Int) (f : Int → Nat → Int) (c : Int) : Nat → List Int × Int
  | 0 => ([], c)
  | n + 1 => ((runA W f c n).1 ++ [Builtin.bitAnd (f (runA W f c n).2 n) (1 * 2 ^ W.toNat - 1)], (f (runA W f c n).2 n).fdiv (2 ^ W.toNat))
/-- what runs over is the top limb -/
noncomputable def topL (p : List Int × Int) : List Int := if 0 < p.2 then p.1 ++ [p.2] else p.1
local macro_rules | `(tactic| walk_at $s:str) => `(tactic| k_extra $s)
theorem run_turn {W : Int} {f : Int → Nat → Int} {c d d' : Int} {n : Nat} {found : List Int} (h1 : found = (runA W f c n).1) (h2 : d = (runA W f c n).2) (e : d' = f d n) :
    found ++ [Builtin.bitAnd d' (1 * 2 ^ W.toNat - 1)] = (runA W f c (n + 1)).1 ∧ d'.fdiv (2 ^ W.toNat) = (runA W f c (n + 1)).2 := by
  subst e; rw [h1, h2]; exact ⟨rfl, rfl⟩
noncomputable def addL (W : Int) (a b : List Int) : List Int := topL (runA W (fun c n => c + (a.getD n 0 + b.getD n 0)) 0 a.length)
theorem add_t1 {W : Int} {a b pre found : List Int} {carry k : Int} (h1 : found = (runA W (fun c n => c + (a.getD n 0 + b.getD n 0)) 0 pre.length).1) (h2 : carry = (runA W (fun c n => c + (a.getD n 0 + b.getD n 0)) 0 pre.length).2) (h3 : found.length = pre.length) (hk : k = 0 + (pre.length : Int)) :
    found ++ [Builtin.bitAnd (carry + (a.getD k.toNat 0 + b.getD k.toNat 0)) (1 * 2 ^ W.toNat - 1)] = (runA W (fun c n => c + (a.getD n 0 + b.getD n 0)) 0 (pre ++ [k]).length).1 ∧ (carry + (a.getD k.toNat 0 + b.getD k.toNat 0)).fdiv (2 ^ W.toNat) = (runA W (fun c n => c + (a.getD n 0 + b.getD n 0)) 0 (pre ++ [k]).length).2 ∧
      (found ++ [Builtin.bitAnd (carry + (a.getD k.toNat 0 + b.getD k.toNat 0)) (1 * 2 ^ W.toNat - 1)]).length = (pre ++ [k]).length := by
  have e : k.toNat = pre.length := by omega
  have e2 : (pre ++ [k]).length = pre.length + 1 := by simp
  rw [e, e2]
  have := run_turn h1 h2 (d' := carry + (a.getD pre.length 0 + b.getD pre.length 0)) rfl
  exact ⟨this.1, this.2, by simp [h3]⟩
theorem add_t2 {W : Int} {a b pre found : List Int} {carry k : Int} (h1 : found = (runA W (fun c n => c + (a.getD n 0 + b.getD n 0)) 0 (b.length + pre.length)).1) (h2 : carry = (runA W (fun c n => c + (a.getD n 0 + b.getD n 0)) 0 (b.length + pre.length)).2) (h3 : found.length = b.length + pre.length) (hk : k = (b.length : Int) + (pre.length : Int)) :
    found ++ [Builtin.bitAnd (carry + a.getD k.toNat 0) (1 * 2 ^ W.toNat - 1)] = (runA W (fun c n => c + (a.getD n 0 + b.getD n 0)) 0 (b.length + (pre ++ [k]).length)).1 ∧ (carry + a.getD k.toNat 0).fdiv (2 ^ W.toNat) = (runA W (fun c n => c + (a.getD n 0 + b.getD n 0)) 0 (b.length + (pre ++ [k]).length)).2 ∧
      (found ++ [Builtin.bitAnd (carry + a.getD k.toNat 0) (1 * 2 ^ W.toNat - 1)]).length = b.length + (pre ++ [k]).length := by
  have e : k.toNat = b.length + pre.length := by omega
  have e2 : (pre ++ [k]).length = pre.length + 1 := by simp
  have e3 : b.getD (b.length + pre.length) 0 = 0 := by simp
  rw [e, e2, ← Nat.add_assoc]
  have := run_turn h1 h2 (d' := carry + a.getD (b.length + pre.length) 0) (by rw [e3, Int.add_zero])
  exact ⟨this.1, this.2, by simp only [List.length_append, List.length_cons, List.length_nil, h3, Nat.add_assoc]⟩
theorem add_end {W : Int} {a b found : List Int} {carry : Int} {n : Nat} (h1 : found = (runA W (fun c n => c + (a.getD n 0 + b.getD n 0)) 0 (b.length + (rangeKs b.length n).length)).1) (h2 : carry = (runA W (fun c n => c + (a.getD n 0 + b.getD n 0)) 0 (b.length + (rangeKs b.length n).length)).2) (hn : n = ((a.length : Int) - b.length).toNat) (hl : ¬ (a.length : Int) < b.length) :
    addL W a b = if 0 < carry then found ++ [carry] else found := by
  have e : b.length + (rangeKs b.length n).length = a.length := by rw [rangeKs_length]; omega
  rw [e] at h1 h2
  rw [h1, h2, addL, topL]
/-- one limb more -/
noncomputable def addlL (W : Int) (a : List Int) (i : Int) : List Int := topL (runA W (fun c n => c + a.getD n 0) i a.length)
theorem getD_mid {a pre post : List Int} {k : Int} (h : a = pre ++ k :: post) : a.getD pre.length 0 = k := by subst h; simp [List.getD_eq_getElem?_getD]
theorem addl_t {W i : Int} {a pre post found : List Int} {d k : Int} (h1 : found = (runA W (fun c n => c + a.getD n 0) i pre.length).1) (h2 : d = (runA W (fun c n => c + a.getD n 0) i pre.length).2) (h3 : found.length = pre.length) (hk : a = pre ++ k :: post) :
    found ++ [Builtin.bitAnd (d + k) (1 * 2 ^ W.toNat - 1)] = (runA W (fun c n => c + a.getD n 0) i (pre ++ [k]).length).1 ∧ (d + k).fdiv (2 ^ W.toNat) = (runA W (fun c n => c + a.getD n 0) i (pre ++ [k]).length).2 ∧ (found ++ [Builtin.bitAnd (d + k) (1 * 2 ^ W.toNat - 1)]).length = (pre ++ [k]).length := by
  have e2 : (pre ++ [k]).length = pre.length + 1 := by simp
  have := run_turn h1 h2 (d' := d + k) (by rw [getD_mid hk])
  rw [e2]
  exact ⟨this.1, this.2, by simp [h3]⟩
/-- a shift to the left -/
noncomputable def shlA (W r : Int) (a : List Int) (n : Nat) : List Int × Int := runA W (fun c n => Builtin.bitOr c (a.getD n 0 * 2 ^ r.toNat)) 0 n
noncomputable def shlL (W q r : Int) (a : List Int) : List Int := if a.length = 0 then [] else (List.replicate q.toNat [0]).flatten ++ topL (shlA W r a a.length)
theorem rep_len (k : Nat) : ((List.replicate k [(0 : Int)]).flatten).length = k := by induction k <;> simp_all
theorem shl_0 {W r q : Int} {a : List Int} : (List.replicate q.toNat [0]).flatten = (List.replicate q.toNat [0]).flatten ++ (shlA W r a ([] : List Int).length).1 ∧ (0 : Int) = (shlA W r a ([] : List Int).length).2 ∧ ((List.replicate q.toNat [(0 : Int)]).flatten).length = q.toNat + ([] : List Int).length := by
  refine ⟨?_, rfl, by rw [rep_len]; rfl⟩
  show _ = _ ++ []
  rw [List.append_nil]
theorem shl_t {W r q : Int} {a pre post found : List Int} {d k : Int} (h1 : found = (List.replicate q.toNat [0]).flatten ++ (shlA W r a pre.length).1) (h2 : d = (shlA W r a pre.length).2) (h3 : found.length = q.toNat + pre.length) (hk : a = pre ++ k :: post) :
    found ++ [Builtin.bitAnd (Builtin.bitOr d (k * 2 ^ r.toNat)) (1 * 2 ^ W.toNat - 1)] = (List.replicate q.toNat [0]).flatten ++ (shlA W r a (pre ++ [k]).length).1 ∧ (Builtin.bitOr d (k * 2 ^ r.toNat)).fdiv (2 ^ W.toNat) = (shlA W r a (pre ++ [k]).length).2 ∧ (found ++ [Builtin.bitAnd (Builtin.bitOr d (k * 2 ^ r.toNat)) (1 * 2 ^ W.toNat - 1)]).length = q.toNat + (pre ++ [k]).length := by
  have e2 : (pre ++ [k]).length = pre.length + 1 := by simp
  rw [e2]
  unfold shlA at *
  have := run_turn rfl h2 (d' := Builtin.bitOr d (k * 2 ^ r.toNat)) (by rw [getD_mid hk])
  exact ⟨by rw [h1, List.append_assoc, this.1], this.2, by simp only [List.length_append, List.length_cons, List.length_nil, h3, Nat.add_assoc]⟩
/-- a shift to the right -/
noncomputable def shrI (W q r : Int) (a : List Int) (i : Nat) : Int :=
  Builtin.bitAnd (Builtin.bitOr ((a.getD (q.toNat + i) 0).fdiv (2 ^ r.toNat)) (a.getD (q.toNat + i + 1) 0 * 2 ^ (W - r).toNat)) (1 * 2 ^ W.toNat - 1)
noncomputable def shrA (W q r : Int) (a : List Int) (n : Nat) : List Int := (List.range n).map (shrI W q r a)
theorem shr_t {W q r : Int} {a pre found : List Int} {k : Int} {v : Int} (h1 : found = shrA W q r a pre.length) (h3 : found.length = pre.length) (hk : k = q + (pre.length : Int)) (hq : 0 ≤ q) (hv : v = a.getD (k + 1).toNat 0) :
    found ++ [Builtin.bitAnd (Builtin.bitOr ((a.getD k.toNat 0).fdiv (2 ^ r.toNat)) (v * 2 ^ (W - r).toNat)) (1 * 2 ^ W.toNat - 1)] = shrA W q r a (pre ++ [k]).length ∧
      (found ++ [Builtin.bitAnd (Builtin.bitOr ((a.getD k.toNat 0).fdiv (2 ^ r.toNat)) (v * 2 ^ (W - r).toNat)) (1 * 2 ^ W.toNat - 1)]).length = (pre ++ [k]).length := by
  have e2 : (pre ++ [k]).length = pre.length + 1 := by simp
  have e3 : k.toNat = q.toNat + pre.length := by omega
  have e4 : (k + 1).toNat = q.toNat + pre.length + 1 := by omega
  subst hv
  refine ⟨?_, by simp [h3]⟩
  rw [e2, h1, e3, e4, shrA, shrA, List.range_succ, List.map_append]
  rfl
theorem getD_out {a : List Int} {k : Int} (h : ¬ k < a.length) (h0 : 0 ≤ k) : 0 = a.getD k.toNat 0 := by
  rw [List.getD_eq_getElem?_getD, List.getElem?_eq_none (by omega)]; rfl
theorem getD_out1 {a : List Int} {k : Int} (h : ¬ k + 1 < a.length) (h0 : 0 ≤ k) : 0 = a.getD (k + 1).toNat 0 := getD_out h (by omega)
/-- a difference -/
noncomputable def subA (W : Int) (a b : List Int) : Nat → List Int × Int
  | 0 => ([], 0)
  | n + 1 =>
    ((subA W a b n).1 ++ [if a.getD n 0 - (subA W a b n).2 - b.getD n 0 < 0 then a.getD n 0 - (subA W a b n).2 - b.getD n 0 + 1 * 2 ^ W.toNat else a.getD n 0 - (subA W a b n).2 - b.getD n 0],
     if a.getD n 0 - (subA W a b n).2 - b.getD n 0 < 0 then 1 else 0)
theorem sub_t {W : Int} {a b pre found : List Int} {d k v y d' : Int} (h1 : found = (subA W a b pre.length).1) (h2 : d = (subA W a b pre.length).2) (h3 : found.length = pre.length) (hk : k = 0 + (pre.length : Int)) (hv : v = b.getD k.toNat 0)
    (hy : y = if a.getD k.toNat 0 - d - v < 0 then a.getD k.toNat 0 - d - v + 1 * 2 ^ W.toNat else a.getD k.toNat 0 - d - v) (hd : d' = if a.getD k.toNat 0 - d - v < 0 then 1 else 0) :
    found ++ [y] = (subA W a b (pre ++ [k]).length).1 ∧ d' = (subA W a b (pre ++ [k]).length).2 ∧ (found ++ [y]).length = (pre ++ [k]).length := by
  have e2 : (pre ++ [k]).length = pre.length + 1 := by simp
  have e3 : k.toNat = pre.length := by omega
  rw [e3] at hv hy hd
  subst hv hy hd
  rw [e2, h1, h2]
  exact ⟨rfl, rfl, by rw [← h1]; simp [h3]⟩
/-- without the noughts at the top -/
noncomputable def normL (a : List Int) : List Int := (a.reverse.dropWhile (· == 0)).reverse
theorem normL_snoc0 (l : List Int) : normL (l ++ [0]) = normL l := by simp [normL]
theorem normL_snoc (l : List Int) {x : Int} (h : x ≠ 0) : normL (l ++ [x]) = l ++ [x] := by simp [normL, h]
theorem take_pred {a : List Int} {e : Int} (h0 : 0 < e) (h1 : e ≤ a.length) : a.take e.toNat = a.take (e - 1).toNat ++ [a.getD (e - 1).toNat 0] := by
  have e1 : e.toNat = (e - 1).toNat + 1 := by omega
  have e2 : (e - 1).toNat < a.length := by omega
  generalize (e - 1).toNat = k at e1 e2
  rw [e1, List.take_add_one]
  simp [List.getD_eq_getElem?_getD, e2]
theorem norm_turn {a : List Int} {e : Int} (h : normL a = normL (a.take e.toNat)) (h0 : 0 < e) (h1 : e ≤ a.length) (hz : a.getD (e - 1).toNat 0 = 0) : normL a = normL (a.take (e - 1).toNat) := by
  rw [h, take_pred h0 h1, hz, normL_snoc0]
theorem norm_end {a : List Int} {e : Int} (h : normL a = normL (a.take e.toNat)) (h0 : 0 < e) (h1 : e ≤ a.length) (hz : a.getD (e - 1).toNat 0 ≠ 0) : a.take e.toNat = normL a := by
  rw [h, take_pred h0 h1, normL_snoc _ hz]
theorem norm_end0 {a : List Int} {e : Int} (h : normL a = normL (a.take e.toNat)) (h0 : ¬ 0 < e) : a.take e.toNat = normL a := by
  have : e.toNat = 0 := by omega
  rw [h, this]; rfl
theorem normL_len (a : List Int) : (normL a).length ≤ a.length := by
  have := (List.dropWhile_suffix (p := (· == (0 : Int))) (l := a.reverse)).length_le
  simpa [normL] using this
/-- which of two rows of one length is the greater -/
noncomputable def cmpT (a b : List Int) : Nat → Int
  | 0 => 0
  | n + 1 => if a.getD n 0 ≠ b.getD n 0 then (if a.getD n 0 < b.getD n 0 then -1 else 1) else cmpT a b n
noncomputable def cmpL (a b : List Int) : Int := if a.length ≠ b.length then (if a.length < b.length then -1 else 1) else cmpT a b a.length
theorem cmp_at {a b pre : List Int} {k : Int} (hP : cmpT a b a.length = cmpT a b (a.length - pre.length)) (hk : k = (a.length : Int) - 1 - pre.length) (hlt : pre.length < ((a.length : Int) - 1 - -1).toNat) :
    cmpT a b a.length = if a.getD k.toNat 0 ≠ b.getD k.toNat 0 then (if a.getD k.toNat 0 < b.getD k.toNat 0 then -1 else 1) else cmpT a b (a.length - (pre ++ [k]).length) := by
  have e1 : a.length - pre.length = k.toNat + 1 := by omega
  have e2 : a.length - (pre ++ [k]).length = k.toNat := by simp only [List.length_append, List.length_cons, List.length_nil]; omega
  rw [hP, e1, e2]
  rfl
theorem cmp_t {a b pre : List Int} {k : Int} (hP : cmpT a b a.length = cmpT a b (a.length - pre.length)) (hk : k = (a.length : Int) - 1 - pre.length) (hlt : pre.length < ((a.length : Int) - 1 - -1).toNat) (he : a.getD k.toNat 0 = b.getD k.toNat 0) :
    cmpT a b a.length = cmpT a b (a.length - (pre ++ [k]).length) := by
  rw [cmp_at hP hk hlt, if_neg (by rw [he]; simp)]
theorem cmp_lt {a b pre : List Int} {k : Int} (hl : (a.length : Int) = b.length) (hP : cmpT a b a.length = cmpT a b (a.length - pre.length)) (hk : k = (a.length : Int) - 1 - pre.length) (hlt : pre.length < ((a.length : Int) - 1 - -1).toNat) (he : a.getD k.toNat 0 ≠ b.getD k.toNat 0) (h : a.getD k.toNat 0 < b.getD k.toNat 0) : -1 = cmpL a b := by
  rw [cmpL, if_neg (by omega), cmp_at hP hk hlt, if_pos he, if_pos h]
theorem cmp_gt {a b pre : List Int} {k : Int} (hl : (a.length : Int) = b.length) (hP : cmpT a b a.length = cmpT a b (a.length - pre.length)) (hk : k = (a.length : Int) - 1 - pre.length) (hlt : pre.length < ((a.length : Int) - 1 - -1).toNat) (he : a.getD k.toNat 0 ≠ b.getD k.toNat 0) (h : ¬ a.getD k.toNat 0 < b.getD k.toNat 0) : 1 = cmpL a b := by
  rw [cmpL, if_neg (by omega), cmp_at hP hk hlt, if_pos he, if_neg h]
theorem cmp_eq {a b : List Int} (hl : (a.length : Int) = b.length) (hP : cmpT a b a.length = cmpT a b (a.length - (downKs ((a.length : Int) - 1) ((a.length : Int) - 1 - -1).toNat).length)) : 0 = cmpL a b := by
  rw [cmpL, if_neg (by omega), hP, downKs_length, show a.length - ((a.length : Int) - 1 - -1).toNat = 0 by omega]
  rfl
/-- the top limb's high bit is not set -/
noncomputable abbrev topZ (W : Int) (a : List Int) : Prop := (a.getD (-1 + (a.length : Int)).toNat 0).fdiv (2 ^ (W - 1).toNat) = 0
theorem topZ_nil {W : Int} {a : List Int} (h : (a.length : Int) = 0) : topZ W a := by
  have : a = [] := List.eq_nil_of_length_eq_zero (by omega)
  subst this
  show Int.fdiv 0 _ = 0
  rw [Int.zero_fdiv]
noncomputable def addX (W : Int) (a b : List Int) : List Int := if (a.length : Int) < b.length then addL W b a else addL W a b
noncomputable def numB (W : Int) (a : List Int) : Bool := !decide (topZ W a)
noncomputable def numL (W : Int) (a : List Int) : List Int := if topZ W a then normL a else addX W (normL (a.map (fun k' => 1 * 2 ^ W.toNat - 1 - k'))) [1]
/-! the plain law: rows of limbs and numbers -/
theorem two_pos (k : Nat) : (0 : Int) < 2 ^ k := kbt_pos k
theorem pow_ge {w : Nat} (hw : 2 ≤ w) : (4 : Int) ≤ 2 ^ w := by
  obtain ⟨k, rfl⟩ := Nat.exists_eq_add_of_le hw
  rw [Int.pow_add]
  have := two_pos k
  have e : (2 : Int) ^ 2 = 4 := rfl
  rw [e]; omega
noncomputable def limbsF (w : Nat) : Nat → Nat → List Int
  | 0, _ => []
  | f + 1, n => if n = 0 then [] else ((n % 2 ^ w : Nat) : Int) :: limbsF w f (n / 2 ^ w)
/-- the row of limbs of a number -/
noncomputable def limbs (w n : Nat) : List Int := limbsF w n n
theorem div_less {w n : Nat} (hw : 1 ≤ w) (hn : 0 < n) : n / 2 ^ w < n := Nat.div_lt_self hn (Nat.one_lt_two_pow (by omega))
theorem limbsF_fuel {w : Nat} (hw : 1 ≤ w) : ∀ (f n : Nat), n ≤ f → ∀ g, n ≤ g → limbsF w f n = limbsF w g n := by
  intro f
  induction f with
  | zero =>
    intro n hn g _
    have : n = 0 := by omega
    subst this
    cases g with
    | zero => rfl
    | succ g => rw [limbsF, limbsF, if_pos rfl]
  | succ f ih =>
    intro n hn g hg
    by_cases h0 : n = 0
    · subst h0
      cases g with
      | zero => rw [limbsF, limbsF, if_pos rfl]
      | succ g => rw [limbsF, limbsF, if_pos rfl, if_pos rfl]
    · cases g with
      | zero => omega
      | succ g =>
        have hl := div_less hw (Nat.pos_of_ne_zero h0)
        rw [limbsF, limbsF, if_neg h0, if_neg h0, ih (n / 2 ^ w) (by omega) g (by omega)]
theorem limbs_zero (w : Nat) : limbs w 0 = [] := rfl
theorem limbs_pos {w n : Nat} (hw : 1 ≤ w) (hn : 0 < n) : limbs w n = ((n % 2 ^ w : Nat) : Int) :: limbs w (n / 2 ^ w) := by
  obtain ⟨m, rfl⟩ : ∃ m, n = m + 1 := ⟨n - 1, by omega⟩
  have hl := div_less hw hn
  rw [limbs, limbsF, if_neg (by omega)]
  congr 1
  exact limbsF_fuel hw _ _ (by omega) _ (Nat.le_refl _)
/-- what a row says -/
noncomputable def valL (w : Nat) : List Int → Int
  | [] => 0
  | x :: r => x + 2 ^ w * valL w r
/-- each limb in its bounds -/
noncomputable def Vd (w : Nat) (a : List Int) : Prop := ∀ x ∈ a, 0 ≤ x ∧ x < 2 ^ w
theorem Vd.nil {w : Nat} : Vd w [] := fun _ h => nomatch h
theorem Vd.cons {w : Nat} {x : Int} {r : List Int} (h0 : 0 ≤ x) (h1 : x < 2 ^ w) (hr : Vd w r) : Vd w (x :: r) := by
  intro y hy
  rcases List.mem_cons.mp hy with rfl | hy
  · exact ⟨h0, h1⟩
  · exact hr y hy
theorem Vd.append {w : Nat} {a b : List Int} (ha : Vd w a) (hb : Vd w b) : Vd w (a ++ b) := fun x hx => (List.mem_append.mp hx).elim (ha x) (hb x)
theorem Vd.head {w : Nat} {x : Int} {r : List Int} (h : Vd w (x :: r)) : 0 ≤ x ∧ x < 2 ^ w := h x (.head _)
theorem Vd.tail {w : Nat} {x : Int} {r : List Int} (h : Vd w (x :: r)) : Vd w r := fun y hy => h y (.tail _ hy)
theorem Vd.left {w : Nat} {a b : List Int} (h : Vd w (a ++ b)) : Vd w a := fun x hx => h x (List.mem_append_left _ hx)
theorem Vd.right {w : Nat} {a b : List Int} (h : Vd w (a ++ b)) : Vd w b := fun x hx => h x (List.mem_append_right _ hx)
theorem Vd.at {w : Nat} {a : List Int} (h : Vd w a) (k : Nat) : 0 ≤ a.getD k 0 ∧ a.getD k 0 < 2 ^ w := by
  by_cases hk : k < a.length
  · have e : a.getD k 0 = a[k] := by simp [List.getD_eq_getElem?_getD, hk]
    rw [e]; exact h _ (List.getElem_mem hk)
  · rw [List.getD_eq_getElem?_getD, List.getElem?_eq_none (by omega)]; exact ⟨Int.le_refl _, two_pos w⟩
theorem Vd.limbB {w : Nat} {a : List Int} (hw : w ≤ 9) (h : Vd w a) : LimbB a := fun x hx => by
  have h1 := h x hx
  have h2 : (2 : Int) ^ w ≤ 2 ^ 9 := by
    obtain ⟨k, hk⟩ := Nat.exists_eq_add_of_le hw
    rw [hk, Int.pow_add]
    have a := two_pos w
    have b := two_pos k
    have c : (2 : Int) ^ w * 1 ≤ 2 ^ w * 2 ^ k := Int.mul_le_mul_of_nonneg_left (by omega) (by omega)
    omega
  have e : (2 : Int) ^ 9 = 512 := rfl
  omega
theorem valL_nonneg {w : Nat} : ∀ {a : List Int}, Vd w a → 0 ≤ valL w a
  | [], _ => Int.le_refl _
  | x :: r, h => by
    have h1 := h.head
    have h2 := valL_nonneg h.tail
    have h3 : 0 ≤ 2 ^ w * valL w r := Int.mul_nonneg (Int.le_of_lt (two_pos w)) h2
    rw [valL]; omega
theorem valL_append (w : Nat) : ∀ (a b : List Int), valL w (a ++ b) = valL w a + 2 ^ (w * a.length) * valL w b
  | [], b => by simp [valL]
  | x :: r, b => by
    rw [List.cons_append, valL, valL, valL_append w r b, List.length_cons, Nat.mul_add, Nat.mul_one, Int.pow_add, Int.mul_add, Int.mul_comm (2 ^ (w * r.length)) (2 ^ w), Int.mul_assoc]
    omega
theorem valL_snoc (w : Nat) (a : List Int) (x : Int) : valL w (a ++ [x]) = valL w a + 2 ^ (w * a.length) * x := by
  rw [valL_append]; simp [valL]
theorem valL_lt {w : Nat} : ∀ {a : List Int}, Vd w a → valL w a < 2 ^ (w * a.length)
  | [], _ => by simp [valL]
  | x :: r, h => by
    have h1 := h.head
    have h2 := valL_lt h.tail
    rw [valL, List.length_cons, Nat.mul_add, Nat.mul_one, Int.pow_add, Int.mul_comm (2 ^ (w * r.length))]
    have h3 : 2 ^ w * (valL w r + 1) ≤ 2 ^ w * 2 ^ (w * r.length) := Int.mul_le_mul_of_nonneg_left (by omega) (Int.le_of_lt (two_pos w))
    rw [Int.mul_add] at h3
    omega
theorem limbs_val {w : Nat} (hw : 1 ≤ w) (n : Nat) : valL w (limbs w n) = n := by
  induction n using Nat.strongRecOn with
  | ind n ih =>
    by_cases h0 : n = 0
    · subst h0; rfl
    · have hp := Nat.pos_of_ne_zero h0
      rw [limbs_pos hw hp, valL, ih _ (div_less hw hp)]
      have h := Nat.mod_add_div n (2 ^ w)
      have h2 : ((n % 2 ^ w + 2 ^ w * (n / 2 ^ w) : Nat) : Int) = n := by rw [h]
      rw [Int.natCast_add, Int.natCast_mul, kbt_cast] at h2
      exact h2
theorem limbs_vd {w : Nat} (hw : 1 ≤ w) (n : Nat) : Vd w (limbs w n) := by
  induction n using Nat.strongRecOn with
  | ind n ih =>
    by_cases h0 : n = 0
    · subst h0; exact Vd.nil
    · have hp := Nat.pos_of_ne_zero h0
      rw [limbs_pos hw hp]
      refine Vd.cons (by omega) ?_ (ih _ (div_less hw hp))
      rw [← kbt_cast]
      exact Int.ofNat_lt.mpr (Nat.mod_lt _ (Nat.two_pow_pos w))
theorem valL_cons_div {w : Nat} {x : Int} {r : List Int} (h : Vd w (x :: r)) : (valL w (x :: r)).toNat % 2 ^ w = x.toNat ∧ (valL w (x :: r)).toNat / 2 ^ w = (valL w r).toNat := by
  have h1 := h.head
  have h2 := valL_nonneg h.tail
  have e : (valL w (x :: r)).toNat = x.toNat + 2 ^ w * (valL w r).toNat := by
    have h3 : 0 ≤ 2 ^ w * valL w r := Int.mul_nonneg (Int.le_of_lt (two_pos w)) h2
    have h4 : ((2 ^ w * (valL w r).toNat : Nat) : Int) = 2 ^ w * valL w r := by rw [Int.natCast_mul, kbt_cast, Int.toNat_of_nonneg h2]
    rw [valL]
    omega
  have hx : x.toNat < 2 ^ w := by
    have h5 : ((2 ^ w : Nat) : Int) = 2 ^ w := kbt_cast w
    omega
  rw [e]
  exact ⟨by rw [Nat.add_mul_mod_self_left, Nat.mod_eq_of_lt hx], by rw [Nat.add_mul_div_left _ _ (Nat.two_pow_pos w), Nat.div_eq_of_lt hx, Nat.zero_add]⟩
/-- a row whose top is not nought is its number's row -/
theorem limbs_of {w : Nat} (hw : 1 ≤ w) : ∀ {a : List Int}, Vd w a → (∀ l x, a = l ++ [x] → x ≠ 0) → a = limbs w (valL w a).toNat
  | [], _, _ => rfl
  | x :: r, h, ht => by
    have hd := valL_cons_div h
    have h1 := h.head
    have hr := valL_nonneg h.tail
    have ih := limbs_of hw h.tail fun l y e => ht (x :: l) y (by rw [e]; rfl)
    have hp : 0 < (valL w (x :: r)).toNat := by
      have h3 : 0 ≤ 2 ^ w * valL w r := Int.mul_nonneg (Int.le_of_lt (two_pos w)) hr
      cases r with
      | nil =>
        have := ht [] x rfl
        simp only [valL] at h3 ⊢
        omega
      | cons y r' =>
        have h4 : (valL w (y :: r')).toNat ≠ 0 := fun e => by rw [e] at ih; cases ih
        have h5 : 0 < 2 ^ w * valL w (y :: r') := Int.mul_pos (two_pos w) (by omega)
        rw [valL]
        omega
    rw [limbs_pos hw hp, hd.1, hd.2, ← ih, Int.toNat_of_nonneg h1.1]
theorem limbs_low {w : Nat} (hw : 1 ≤ w) {a : List Int} (h : Vd w a) (hl : a = [] ∨ 2 ^ (w * (a.length - 1)) ≤ valL w a) : a = limbs w (valL w a).toNat := by
  refine limbs_of hw h fun l x e hx => ?_
  subst hx
  subst e
  rcases hl with hl | hl
  · simp at hl
  · rw [valL_snoc, Int.mul_zero, Int.add_zero, List.length_append, List.length_singleton, Nat.add_sub_cancel] at hl
    have := valL_lt h.left
    omega
theorem limbs_top {w n : Nat} (hw : 1 ≤ w) : limbs w n = [] ∨ (2 : Int) ^ (w * ((limbs w n).length - 1)) ≤ n := by
  induction n using Nat.strongRecOn with
  | ind n ih =>
    by_cases h0 : n = 0
    · subst h0; exact .inl rfl
    · have hp := Nat.pos_of_ne_zero h0
      refine .inr ?_
      have hv := limbs_val hw n
      rw [limbs_pos hw hp] at hv ⊢
      rw [valL, limbs_val hw] at hv
      rw [List.length_cons, Nat.add_sub_cancel]
      rcases ih _ (div_less hw hp) with e | e
      · rw [e]; simp; omega
      · have hlen : (limbs w (n / 2 ^ w)).length ≠ 0 ∨ (limbs w (n / 2 ^ w)).length = 0 := by omega
        rcases hlen with hlen | hlen
        · have e2 : (limbs w (n / 2 ^ w)).length = (limbs w (n / 2 ^ w)).length - 1 + 1 := by omega
          rw [e2, Nat.mul_add, Nat.mul_one, Int.pow_add, Int.mul_comm]
          have h3 := Int.mul_le_mul_of_nonneg_left e (Int.le_of_lt (two_pos w))
          omega
        · rw [hlen]; simp; omega
theorem limbs_len_lt {w n : Nat} (hw : 1 ≤ w) {k : Nat} (h : (n : Int) < 2 ^ (w * k)) : (limbs w n).length ≤ k := by
  rcases limbs_top (n := n) hw with e | e
  · rw [e]; exact Nat.zero_le _
  · by_cases hk : (limbs w n).length ≤ k
    · exact hk
    · exfalso
      have h1 : w * k ≤ w * ((limbs w n).length - 1) := Nat.mul_le_mul_left _ (by omega)
      have h2 : (2 : Int) ^ (w * k) ≤ 2 ^ (w * ((limbs w n).length - 1)) := by
        rw [← kbt_cast, ← kbt_cast]; exact Int.ofNat_le.mpr (Nat.pow_le_pow_right (by decide) h1)
      omega
theorem normL_limbs {w : Nat} (hw : 1 ≤ w) : ∀ (n : Nat) {a : List Int}, a.length = n → Vd w a → normL a = limbs w (valL w a).toNat := by
  intro n
  induction n with
  | zero => intro a ha _; rw [List.eq_nil_of_length_eq_zero ha]; rfl
  | succ n ih =>
    intro a ha h
    rcases List.eq_nil_or_concat a with rfl | ⟨l, x, rfl⟩
    · simp at ha
    · rw [List.concat_eq_append] at ha h ⊢
      rw [List.length_append, List.length_singleton] at ha
      by_cases hx : x = 0
      · subst hx
        rw [normL_snoc0, ih (by omega) h.left, valL_snoc, Int.mul_zero, Int.add_zero]
      · rw [normL_snoc _ hx]
        refine limbs_of hw h fun l' y e => ?_
        have := (List.append_inj' e rfl).2
        simp at this
        rw [← this]; exact hx
theorem norm_limbs {w : Nat} (hw : 1 ≤ w) {a : List Int} (h : Vd w a) : normL a = limbs w (valL w a).toNat := normL_limbs hw _ rfl h
theorem limbs_inj {w m n : Nat} (hw : 1 ≤ w) (h : limbs w m = limbs w n) : m = n := by
  have h1 := limbs_val hw m
  have h2 := limbs_val hw n
  rw [h] at h1
  omega
/-- the sum of so many places -/
noncomputable def sumT (w : Nat) (t : Nat → Int) : Nat → Int
  | 0 => 0
  | n + 1 => sumT w t n + 2 ^ (w * n) * t n
theorem sumT_add (w : Nat) (s t : Nat → Int) : ∀ n, sumT w (fun k => s k + t k) n = sumT w s n + sumT w t n
  | 0 => rfl
  | n + 1 => by rw [sumT, sumT, sumT, sumT_add w s t n, Int.mul_add]; omega
theorem sumT_mul (w : Nat) (t : Nat → Int) (c : Int) : ∀ n, sumT w (fun k => t k * c) n = sumT w t n * c
  | 0 => by simp [sumT]
  | n + 1 => by rw [sumT, sumT, sumT_mul w t c n, Int.add_mul, Int.mul_assoc]
theorem take_succ_getD (a : List Int) {n : Nat} (h : n < a.length) : a.take (n + 1) = a.take n ++ [a.getD n 0] := by
  rw [List.take_add_one]
  simp [List.getD_eq_getElem?_getD, h]
theorem sumT_take {w : Nat} (a : List Int) : ∀ n, n ≤ a.length → sumT w (fun k => a.getD k 0) n = valL w (a.take n)
  | 0, _ => by simp [sumT, valL]
  | n + 1, h => by
    rw [sumT, sumT_take a n (by omega), take_succ_getD a (by omega), valL_snoc, List.length_take, Nat.min_eq_left (by omega)]
theorem sumT_val {w : Nat} (a : List Int) {n : Nat} (h : a.length ≤ n) : sumT w (fun k => a.getD k 0) n = valL w a := by
  induction n with
  | zero =>
    have : a = [] := List.eq_nil_of_length_eq_zero (by omega)
    subst this; rfl
  | succ n ih =>
    by_cases hn : a.length ≤ n
    · rw [sumT, ih hn]
      have e : a.getD n 0 = 0 := by rw [List.getD_eq_getElem?_getD, List.getElem?_eq_none hn]; rfl
      rw [e, Int.mul_zero, Int.add_zero]
    · have e : n + 1 = a.length := by omega
      rw [sumT_take a (n + 1) (by omega), e, List.take_length]
theorem mask_mod (d : Int) (w : Nat) : Builtin.bitAnd d (1 * 2 ^ ((w : Int)).toNat - 1) = d % 2 ^ w := by
  rw [Int.one_mul, Int.toNat_natCast, kbt_mask]
theorem fdiv_pow (d : Int) (w : Nat) : d.fdiv (2 ^ ((w : Int)).toNat) = d / 2 ^ w := by
  rw [Int.toNat_natCast, Int.fdiv_eq_ediv_of_nonneg _ (Int.le_of_lt (two_pos w))]
/-- a carry that runs: what stands behind it -/
theorem run_spec {w : Nat} {f : Int → Nat → Int} {t : Nat → Int} {c : Int} (Inv : Int → Prop) (h0 : Inv c) (hpos : ∀ d, Inv d → 0 ≤ d)
    (hf : ∀ d n, Inv d → f d n = d + t n ∧ Inv ((d + t n) / 2 ^ w)) : ∀ n,
    (runA (w : Int) f c n).1.length = n ∧ Vd w (runA (w : Int) f c n).1 ∧ Inv (runA (w : Int) f c n).2 ∧ valL w (runA (w : Int) f c n).1 + 2 ^ (w * n) * (runA (w : Int) f c n).2 = c + sumT w t n
  | 0 => ⟨rfl, Vd.nil, h0, by simp [runA, valL, sumT]⟩
  | n + 1 => by
    obtain ⟨i1, i2, i3, i4⟩ := run_spec Inv h0 hpos hf n
    obtain ⟨e1, e2⟩ := hf _ n i3
    rw [runA]
    dsimp only
    rw [mask_mod, fdiv_pow, e1]
    generalize (runA (w : Int) f c n).1 = F at *
    generalize (runA (w : Int) f c n).2 = d at *
    have hp := two_pos w
    refine ⟨by rw [List.length_append, List.length_singleton, i1], i2.append (Vd.cons (Int.emod_nonneg _ (by omega)) (Int.emod_lt_of_pos _ hp) Vd.nil), e2, ?_⟩
    rw [valL_snoc, i1, Nat.mul_add, Nat.mul_one, Int.pow_add, sumT]
    have h := Int.emod_add_mul_ediv (d + t n) (2 ^ w)
    have h2 : 2 ^ (w * n) * ((d + t n) % 2 ^ w) + 2 ^ (w * n) * 2 ^ w * ((d + t n) / 2 ^ w) = 2 ^ (w * n) * d + 2 ^ (w * n) * t n := by
      rw [Int.mul_assoc, ← Int.mul_add, h, Int.mul_add]
    omega
/-- the top is laid on: a row of its number, if it is not too long -/
theorem top_limbs {w : Nat} (hw : 1 ≤ w) {p : List Int × Int} {n : Nat} {v : Int} (h1 : p.1.length = n) (h2 : Vd w p.1) (h3 : 0 ≤ p.2) (h4 : p.2 < 2 ^ w) (h5 : valL w p.1 + 2 ^ (w * n) * p.2 = v) (h6 : n = 0 ∨ 2 ^ (w * (n - 1)) ≤ v) : topL p = limbs w v.toNat ∧ 0 ≤ v := by
  have hv := valL_nonneg h2
  have hc : 0 ≤ 2 ^ (w * n) * p.2 := Int.mul_nonneg (Int.le_of_lt (two_pos _)) h3
  rw [topL]
  by_cases hp : 0 < p.2
  · rw [if_pos hp]
    refine ⟨?_, by omega⟩
    have e : valL w (p.1 ++ [p.2]) = v := by rw [valL_snoc, h1, h5]
    rw [← e]
    refine limbs_of hw (h2.append (Vd.cons h3 h4 Vd.nil)) fun l x e' => ?_
    have := (List.append_inj' e' rfl).2
    simp at this
    omega
  · rw [if_neg hp]
    have e0 : p.2 = 0 := by omega
    rw [e0, Int.mul_zero, Int.add_zero] at h5
    refine ⟨?_, by omega⟩
    rw [← h5]
    refine limbs_low hw h2 ?_
    rcases h6 with h6 | h6
    · left; exact List.eq_nil_of_length_eq_zero (by omega)
    · right; rw [h1, h5]; exact h6
theorem carry_one {w : Nat} (hw : 2 ≤ w) {d t : Int} (h0 : 0 ≤ d) (h1 : d ≤ 1) (t0 : 0 ≤ t) (t1 : t ≤ 2 * 2 ^ w - 2) : 0 ≤ (d + t) / 2 ^ w ∧ (d + t) / 2 ^ w ≤ 1 := by
  have hp := two_pos w
  have hq := pow_ge hw
  refine ⟨Int.ediv_nonneg (by omega) (by omega), ?_⟩
  have : (d + t) / 2 ^ w < 2 := Int.ediv_lt_of_lt_mul hp (by omega)
  omega
theorem addL_limbs {w : Nat} (hw : 2 ≤ w) {m n : Nat} (hlen : (limbs w n).length ≤ (limbs w m).length) : addL (w : Int) (limbs w m) (limbs w n) = limbs w (m + n) := by
  have hv1 := limbs_vd (w := w) (by omega) m
  have hv2 := limbs_vd (w := w) (by omega) n
  obtain ⟨i1, i2, i3, i4⟩ := run_spec (w := w) (f := fun c k => c + ((limbs w m).getD k 0 + (limbs w n).getD k 0)) (t := fun k => (limbs w m).getD k 0 + (limbs w n).getD k 0) (c := 0) (fun d => 0 ≤ d ∧ d ≤ 1) ⟨by decide, by decide⟩ (fun d h => h.1)
    (fun d k h => ⟨rfl, carry_one hw h.1 h.2 (by have a := hv1.at k; have b := hv2.at k; omega) (by have a := hv1.at k; have b := hv2.at k; omega)⟩) (limbs w m).length
  rw [sumT_add, sumT_val _ (Nat.le_refl _), sumT_val _ hlen, limbs_val (by omega), limbs_val (by omega)] at i4
  have hq := pow_ge hw
  have h := top_limbs (by omega : 1 ≤ w) i1 i2 i3.1 (by omega) i4 (by
    rcases limbs_top (w := w) (n := m) (by omega) with e | e
    · left; rw [e]; rfl
    · right; omega)
  rw [addL, h.1]
  congr 1
  omega
theorem limbs_len_mono {w m n : Nat} (hw : 1 ≤ w) (h : n ≤ m) : (limbs w n).length ≤ (limbs w m).length := by
  refine limbs_len_lt hw ?_
  have h1 := valL_lt (limbs_vd hw m)
  rw [limbs_val hw] at h1
  omega
theorem addX_limbs {w : Nat} (hw : 2 ≤ w) (m n : Nat) : addX (w : Int) (limbs w m) (limbs w n) = limbs w (m + n) := by
  rw [addX]
  by_cases h : ((limbs w m).length : Int) < (limbs w n).length
  · rw [if_pos h, addL_limbs hw (by omega), Nat.add_comm]
  · rw [if_neg h, addL_limbs hw (by omega)]
theorem one_limbs {w : Nat} (hw : 2 ≤ w) : ([1] : List Int) = limbs w 1 := by
  have h1 : 1 < 2 ^ w := Nat.one_lt_two_pow (by omega)
  rw [limbs_pos (by omega) (by decide), Nat.mod_eq_of_lt h1, Nat.div_eq_of_lt h1]
  rfl
theorem two_limbs {w : Nat} (hw : 2 ≤ w) : ([2] : List Int) = limbs w 2 := by
  have h1 : 2 < 2 ^ w := by
    have := pow_ge hw
    have := kbt_cast w
    omega
  rw [limbs_pos (by omega) (by decide), Nat.mod_eq_of_lt h1, Nat.div_eq_of_lt h1]
  rfl
theorem addlL_limbs {w : Nat} (hw : 2 ≤ w) (m : Nat) : addlL (w : Int) (limbs w m) 1 = limbs w (m + 1) := by
  have hv1 := limbs_vd (w := w) (by omega) m
  have hq := pow_ge hw
  obtain ⟨i1, i2, i3, i4⟩ := run_spec (w := w) (f := fun c k => c + (limbs w m).getD k 0) (t := fun k => (limbs w m).getD k 0) (c := 1) (fun d => 0 ≤ d ∧ d ≤ 1) ⟨by decide, by decide⟩ (fun d h => h.1)
    (fun d k h => ⟨rfl, carry_one hw h.1 h.2 (hv1.at k).1 (by have a := hv1.at k; omega)⟩) (limbs w m).length
  rw [sumT_val _ (Nat.le_refl _), limbs_val (by omega)] at i4
  have h := top_limbs (by omega : 1 ≤ w) i1 i2 i3.1 (by omega) i4 (by
    rcases limbs_top (w := w) (n := m) (by omega) with e | e
    · left; rw [e]; rfl
    · right; omega)
  rw [addlL, h.1]
  congr 1
  omega
theorem sub_spec {w : Nat} {a b : List Int} (ha : Vd w a) (hb : Vd w b) : ∀ n,
    (subA (w : Int) a b n).1.length = n ∧ Vd w (subA (w : Int) a b n).1 ∧ (0 ≤ (subA (w : Int) a b n).2 ∧ (subA (w : Int) a b n).2 ≤ 1) ∧
      valL w (subA (w : Int) a b n).1 - 2 ^ (w * n) * (subA (w : Int) a b n).2 = sumT w (fun k => a.getD k 0) n - sumT w (fun k => b.getD k 0) n
  | 0 => ⟨rfl, Vd.nil, ⟨Int.le_refl _, by show (0 : Int) ≤ 1; decide⟩, by simp [subA, valL, sumT]⟩
  | n + 1 => by
    obtain ⟨i1, i2, i3, i4⟩ := sub_spec ha hb n
    have ba := ha.at n
    have bb := hb.at n
    rw [subA, sumT, sumT]
    dsimp only
    rw [Int.one_mul, Int.toNat_natCast]
    generalize (subA (w : Int) a b n).1 = F at *
    generalize (subA (w : Int) a b n).2 = d at *
    generalize a.getD n 0 = x at *
    generalize b.getD n 0 = y at *
    have hp := two_pos w
    by_cases h : x - d - y < 0
    · rw [if_pos h, if_pos h]
      refine ⟨by rw [List.length_append, List.length_singleton, i1], i2.append (Vd.cons (by omega) (by omega) Vd.nil), ⟨by decide, by decide⟩, ?_⟩
      rw [valL_snoc, i1, Nat.mul_add, Nat.mul_one, Int.pow_add, Int.mul_one, Int.mul_add, Int.mul_sub, Int.mul_sub]
      omega
    · rw [if_neg h, if_neg h]
      refine ⟨by rw [List.length_append, List.length_singleton, i1], i2.append (Vd.cons (by omega) (by omega) Vd.nil), ⟨by decide, by decide⟩, ?_⟩
      rw [valL_snoc, i1, Int.mul_zero, Int.mul_sub, Int.mul_sub]
      omega
theorem subL_limbs {w : Nat} (hw : 1 ≤ w) {m n : Nat} (h : n ≤ m) : normL (subA (w : Int) (limbs w m) (limbs w n) (limbs w m).length).1 = limbs w (m - n) := by
  obtain ⟨i1, i2, i3, i4⟩ := sub_spec (limbs_vd hw m) (limbs_vd hw n) (limbs w m).length
  rw [sumT_val _ (Nat.le_refl _), sumT_val _ (limbs_len_mono hw h), limbs_val hw, limbs_val hw] at i4
  have hlt := valL_lt i2
  rw [i1] at hlt
  have hd : (subA (w : Int) (limbs w m) (limbs w n) (limbs w m).length).2 = 0 := by
    by_cases h1 : (subA (w : Int) (limbs w m) (limbs w n) (limbs w m).length).2 = 1
    · rw [h1] at i4; omega
    · omega
  rw [hd, Int.mul_zero, Int.sub_zero] at i4
  rw [norm_limbs hw i2, i4]
  congr 1
  omega
theorem cmpT_spec {w : Nat} {a b : List Int} (ha : Vd w a) (hb : Vd w b) : ∀ n, n ≤ a.length → n ≤ b.length → (cmpT a b n < 0 ↔ valL w (a.take n) < valL w (b.take n))
  | 0, _, _ => by simp [cmpT, valL]
  | n + 1, h1, h2 => by
    have ih := cmpT_spec ha hb n (by omega) (by omega)
    have va : Vd w (a.take n) := fun x hx => ha x (List.mem_of_mem_take hx)
    have vb : Vd w (b.take n) := fun x hx => hb x (List.mem_of_mem_take hx)
    have la := valL_lt va
    have lb := valL_lt vb
    have na := valL_nonneg va
    have nb := valL_nonneg vb
    rw [List.length_take, Nat.min_eq_left (by omega)] at la lb
    rw [cmpT, take_succ_getD a (by omega), take_succ_getD b (by omega), valL_snoc, valL_snoc, List.length_take, List.length_take, Nat.min_eq_left (by omega), Nat.min_eq_left (by omega)]
    generalize a.getD n 0 = x at *
    generalize b.getD n 0 = y at *
    generalize valL w (a.take n) = u at *
    generalize valL w (b.take n) = v at *
    have hp := two_pos (w * n)
    by_cases he : x = y
    · subst he
      rw [if_neg (by simp), ih]
      omega
    · rw [if_pos he]
      by_cases hlt : x < y
      · rw [if_pos hlt]
        have h3 : 2 ^ (w * n) * (x + 1) ≤ 2 ^ (w * n) * y := Int.mul_le_mul_of_nonneg_left (by omega) (Int.le_of_lt hp)
        rw [Int.mul_add] at h3
        exact ⟨fun _ => by omega, fun _ => by decide⟩
      · rw [if_neg hlt]
        have h3 : 2 ^ (w * n) * (y + 1) ≤ 2 ^ (w * n) * x := Int.mul_le_mul_of_nonneg_left (by omega) (Int.le_of_lt hp)
        rw [Int.mul_add] at h3
        exact ⟨fun h => absurd h (by decide), fun h => by omega⟩
theorem cmpL_limbs {w : Nat} (hw : 1 ≤ w) (m n : Nat) : cmpL (limbs w m) (limbs w n) < 0 ↔ m < n := by
  have lm := limbs_len_mono (w := w) (m := m) (n := n) hw
  have ln := limbs_len_mono (w := w) (m := n) (n := m) hw
  rw [cmpL]
  by_cases he : (limbs w m).length = (limbs w n).length
  · rw [if_neg (by simpa using he), cmpT_spec (limbs_vd hw m) (limbs_vd hw n) _ (Nat.le_refl _) (by omega), List.take_length, he, List.take_length, limbs_val hw, limbs_val hw]
    omega
  · rw [if_pos he]
    by_cases hlt : (limbs w m).length < (limbs w n).length
    · rw [if_pos hlt]
      exact ⟨fun _ => by omega, fun _ => by decide⟩
    · rw [if_neg hlt]
      exact ⟨fun h => absurd h (by decide), fun h => by omega⟩
/-- so many places of a number, below nought too -/
noncomputable def digs (w : Nat) (Z : Int) (k : Nat) : List Int := (List.range k).map fun i => Z / 2 ^ (w * i) % 2 ^ w
theorem digs_len (w : Nat) (Z : Int) (k : Nat) : (digs w Z k).length = k := by simp [digs]
theorem digs_vd (w : Nat) (Z : Int) (k : Nat) : Vd w (digs w Z k) := by
  intro x hx
  obtain ⟨i, _, rfl⟩ := List.mem_map.mp hx
  have hp := two_pos w
  exact ⟨Int.emod_nonneg _ (by omega), Int.emod_lt_of_pos _ hp⟩
theorem digs_succ (w : Nat) (Z : Int) (k : Nat) : digs w Z (k + 1) = digs w Z k ++ [Z / 2 ^ (w * k) % 2 ^ w] := by
  rw [digs, List.range_succ, List.map_append]; rfl
theorem pow_split (w k : Nat) : (2 : Int) ^ (w * (k + 1)) = 2 ^ (w * k) * 2 ^ w := by rw [Nat.mul_add, Nat.mul_one, Int.pow_add]
theorem emod_split (Z : Int) {A B : Int} (hA : 0 < A) (hB : 0 < B) : Z % (A * B) = Z % A + A * (Z / A % B) := by
  have h1 := Int.emod_add_mul_ediv Z A
  have h2 := Int.emod_add_mul_ediv (Z / A) B
  have b1 := Int.emod_nonneg Z (show A ≠ 0 by omega)
  have b2 := Int.emod_lt_of_pos Z hA
  have b3 := Int.emod_nonneg (Z / A) (show B ≠ 0 by omega)
  have b4 := Int.emod_lt_of_pos (Z / A) hB
  have c1 : A * (Z / A % B) ≤ A * (B - 1) := Int.mul_le_mul_of_nonneg_left (by omega) (by omega)
  have c2 : 0 ≤ A * (Z / A % B) := Int.mul_nonneg (by omega) b3
  rw [Int.mul_sub, Int.mul_one] at c1
  refine (kbt_unique (q := Z / A / B) (Int.mul_pos hA hB) ?_ (by omega) (by omega)).2
  have h3 : A * (Z / A % B) + A * B * (Z / A / B) = A * (Z / A) := by rw [Int.mul_assoc, ← Int.mul_add, h2]
  omega
theorem ediv_split (Z : Int) {A : Int} (hA : 0 ≤ A) (B : Int) : Z / (A * B) = Z / A / B := (Int.ediv_ediv_of_nonneg hA).symm
theorem digs_val (w : Nat) (Z : Int) : ∀ k, valL w (digs w Z k) = Z % 2 ^ (w * k)
  | 0 => by simp [digs, valL, Int.emod_one]
  | k + 1 => by rw [digs_succ, valL_snoc, digs_len, digs_val w Z k, pow_split, emod_split Z (two_pos _) (two_pos _)]
/-- rows of one length are one if they say one number -/
theorem vd_ext {w : Nat} : ∀ {a b : List Int}, a.length = b.length → Vd w a → Vd w b → valL w a = valL w b → a = b
  | [], [], _, _, _, _ => rfl
  | [], _ :: _, h, _, _, _ => by simp at h
  | _ :: _, [], h, _, _, _ => by simp at h
  | x :: r, y :: t, h, ha, hb, hv => by
    have h1 := valL_cons_div ha
    have h2 := valL_cons_div hb
    rw [hv] at h1
    have hx := ha.head
    have hy := hb.head
    have e1 : x.toNat = y.toNat := h1.1.symm.trans h2.1
    have e2 : (valL w r).toNat = (valL w t).toNat := h1.2.symm.trans h2.2
    have n1 := valL_nonneg ha.tail
    have n2 := valL_nonneg hb.tail
    have e3 : x = y := by omega
    rw [e3, vd_ext (by simpa using h) ha.tail hb.tail (by omega)]
theorem digs_limbs {w : Nat} (hw : 1 ≤ w) {m k : Nat} (h : (m : Int) < 2 ^ (w * k)) : normL (digs w m k) = limbs w m := by
  rw [norm_limbs hw (digs_vd _ _ _), digs_val, Int.emod_eq_of_lt (by omega) h]
  congr 1
theorem valL_rep0 (w k : Nat) : valL w ((List.replicate k [(0 : Int)]).flatten) = 0 := by
  induction k with
  | zero => rfl
  | succ k ih => rw [List.replicate_succ, List.flatten_cons, List.singleton_append, valL, ih]; simp
theorem rep_vd {w : Nat} {x : Int} (h0 : 0 ≤ x) (h1 : x < 2 ^ w) (k : Nat) : Vd w ((List.replicate k [x]).flatten) := by
  induction k with
  | zero => exact Vd.nil
  | succ k ih => rw [List.replicate_succ, List.flatten_cons, List.singleton_append]; exact Vd.cons h0 h1 ih
theorem rep_length {x : Int} (k : Nat) : ((List.replicate k [x]).flatten).length = k := by
  induction k with
  | zero => rfl
  | succ k ih => rw [List.replicate_succ, List.flatten_cons, List.singleton_append, List.length_cons, ih]
theorem rowP {w : Nat} (hw : 1 ≤ w) {m k : Nat} (h : (limbs w m).length ≤ k) : limbs w m ++ (List.replicate (k - (limbs w m).length) [(0 : Int)]).flatten = digs w m k := by
  have hv := limbs_vd (w := w) hw m
  refine vd_ext ?_ (hv.append (rep_vd (Int.le_refl _) (two_pos w) _)) (digs_vd _ _ _) ?_
  · rw [List.length_append, rep_length, digs_len]; omega
  · rw [valL_append, valL_rep0, Int.mul_zero, Int.add_zero, limbs_val hw, digs_val, Int.emod_eq_of_lt (by omega)]
    have h1 := valL_lt hv
    rw [limbs_val hw] at h1
    have h2 : (2 : Int) ^ (w * (limbs w m).length) ≤ 2 ^ (w * k) := by
      rw [← kbt_cast, ← kbt_cast]; exact Int.ofNat_le.mpr (Nat.pow_le_pow_right (by decide) (Nat.mul_le_mul_left _ h))
    omega
theorem not_digs (w : Nat) (Z : Int) (k : Nat) : (digs w Z k).map (fun v => 2 ^ w - 1 - v) = digs w (-Z - 1) k := by
  rw [digs, digs, List.map_map]
  refine List.map_congr_left fun i _ => ?_
  have h1 := kbt_below (-Z - 1) (two_pos (w * i))
  have h2 := kbt_below ((-Z - 1) / 2 ^ (w * i)) (two_pos w)
  have e : -(-Z - 1) - 1 = Z := by omega
  rw [e] at h1
  rw [h2.2, h1.1]
  have e3 : -(-(Z / 2 ^ (w * i)) - 1) - 1 = Z / 2 ^ (w * i) := by omega
  rw [e3]
  rfl
theorem map_rep (k : Nat) (f : Int → Int) (x : Int) : ((List.replicate k [x]).flatten).map f = (List.replicate k [f x]).flatten := by
  induction k with
  | zero => rfl
  | succ k ih => rw [List.replicate_succ, List.flatten_cons, List.singleton_append, List.map_cons, ih, List.replicate_succ, List.flatten_cons, List.singleton_append]
theorem rowN {w : Nat} (hw : 1 ≤ w) {m k : Nat} (h : (limbs w m).length ≤ k) :
    (limbs w m).map (fun v => 1 * 2 ^ ((w : Int)).toNat - 1 - v) ++ (List.replicate (k - (limbs w m).length) [(1 : Int) * 2 ^ ((w : Int)).toNat - 1]).flatten = digs w (-(m : Int) - 1) k := by
  rw [Int.one_mul, Int.toNat_natCast, ← not_digs, ← rowP hw h, List.map_append, map_rep]
  simp
/-- an operator on bits: known by halves -/
structure Bits (op : Int → Int → Int) (g : Int → Int → Int) : Prop where
  halves : ∀ x y, op x y = 2 * op (x / 2) (y / 2) + g (x % 2) (y % 2)
  bit : ∀ a b, 0 ≤ a → a < 2 → 0 ≤ b → b < 2 → 0 ≤ g a b ∧ g a b < 2
  zero : op 0 0 = 0
theorem Bits.half {op g : Int → Int → Int} (h : Bits op g) (x y : Int) : op x y / 2 = op (x / 2) (y / 2) ∧ op x y % 2 = g (x % 2) (y % 2) := by
  have h1 := h.halves x y
  have h2 := h.bit (x % 2) (y % 2) (by omega) (by omega) (by omega) (by omega)
  omega
theorem Bits.shr {op g : Int → Int → Int} (h : Bits op g) : ∀ (j : Nat) (x y : Int), op x y / 2 ^ j = op (x / 2 ^ j) (y / 2 ^ j)
  | 0, x, y => by simp
  | j + 1, x, y => by
    have e : (2 : Int) ^ (j + 1) = 2 * 2 ^ j := by rw [Int.pow_succ, Int.mul_comm]
    rw [e, ediv_split _ (by decide), ediv_split _ (by decide), ediv_split _ (by decide), (h.half x y).1, h.shr j]
theorem Bits.low {op g : Int → Int → Int} (h : Bits op g) : ∀ (k : Nat) (x y : Int), op (x % 2 ^ k) (y % 2 ^ k) = op x y % 2 ^ k
  | 0, x, y => by simp [Int.emod_one, h.zero]
  | k + 1, x, y => by
    have e : (2 : Int) ^ (k + 1) = 2 * 2 ^ k := by rw [Int.pow_succ, Int.mul_comm]
    have hp := two_pos k
    have sx := emod_split x (A := 2) (B := 2 ^ k) (by decide) hp
    have sy := emod_split y (A := 2) (B := 2 ^ k) (by decide) hp
    have so := emod_split (op x y) (A := 2) (B := 2 ^ k) (by decide) hp
    rw [e, h.halves (x % (2 * 2 ^ k)) (y % (2 * 2 ^ k)), so, (h.half x y).1, (h.half x y).2, sx, sy]
    have a1 : (x % 2 + 2 * (x / 2 % 2 ^ k)) / 2 = x / 2 % 2 ^ k := by omega
    have a2 : (y % 2 + 2 * (y / 2 % 2 ^ k)) / 2 = y / 2 % 2 ^ k := by omega
    have a3 : (x % 2 + 2 * (x / 2 % 2 ^ k)) % 2 = x % 2 := by omega
    have a4 : (y % 2 + 2 * (y / 2 % 2 ^ k)) % 2 = y % 2 := by omega
    rw [a1, a2, a3, a4, h.low k]
    omega
theorem Bits.digs {op g : Int → Int → Int} (h : Bits op g) (w : Nat) (X Y : Int) (k : Nat) : List.zipWith op (digs w X k) (digs w Y k) = digs w (op X Y) k := by
  rw [Mine.digs, Mine.digs, Mine.digs, List.zipWith_map, List.zipWith_self]
  refine List.map_congr_left fun i _ => ?_
  rw [h.low, ← h.shr]
theorem bits_and : Bits Builtin.bitAnd (fun a b => if a = 1 ∧ b = 1 then 1 else 0) where
  halves := kbt_halves
  bit := fun a b _ _ _ _ => by (try dsimp only); split <;> omega
  zero := by decide
theorem bits_or : Bits Builtin.bitOr (fun a b => if a = 1 ∨ b = 1 then 1 else 0) where
  halves := fun x y => by
    have h := kbt_halves x y
    rw [bitOr_and, bitOr_and]
    try dsimp only
    split at h <;> split <;> omega
  bit := fun a b _ _ _ _ => by (try dsimp only); split <;> omega
  zero := by decide
theorem bits_xor : Bits Builtin.bitXor (fun a b => if a = b then 0 else 1) where
  halves := fun x y => by
    have h := kbt_halves x y
    rw [bitXor_and, bitXor_and]
    try dsimp only
    split at h <;> split <;> omega
  bit := fun a b _ _ _ _ => by (try dsimp only); split <;> omega
  zero := by decide
/-- within so many places an operator stays within them -/
theorem Bits.bound {op g : Int → Int → Int} (h : Bits op g) {k : Nat} {x y : Int} (x0 : -2 ^ k ≤ x) (x1 : x < 2 ^ k) (y0 : -2 ^ k ≤ y) (y1 : y < 2 ^ k) : -2 ^ k ≤ op x y ∧ op x y < 2 ^ k := by
  have hp := two_pos k
  have key : ∀ z : Int, -2 ^ k ≤ z → z < 2 ^ k → z / 2 ^ k = 0 ∨ z / 2 ^ k = -1 := by
    intro z h0 h1
    by_cases hz : 0 ≤ z
    · left; exact Int.ediv_eq_zero_of_lt hz h1
    · right
      have := (kbt_unique (a := z) (q := -1) (r := z + 2 ^ k) hp (by omega) (by omega) (by omega)).1
      exact this
  have two : ∀ a b : Int, (a = 0 ∨ a = -1) → (b = 0 ∨ b = -1) → (op a b = 0 ∨ op a b = -1) := by
    intro a b ha hb
    have e1 : a / 2 = a := by omega
    have e2 : b / 2 = b := by omega
    have h1 := h.halves a b
    have h2 := h.bit (a % 2) (b % 2) (by omega) (by omega) (by omega) (by omega)
    rw [e1, e2] at h1
    omega
  have hq := h.shr k x y
  have := two _ _ (key x x0 x1) (key y y0 y1)
  rw [← hq] at this
  have hd := Int.emod_add_mul_ediv (op x y) (2 ^ k)
  have b1 := Int.emod_nonneg (op x y) (show (2 : Int) ^ k ≠ 0 by omega)
  have b2 := Int.emod_lt_of_pos (op x y) hp
  rcases this with e | e
  · rw [e, Int.mul_zero] at hd; omega
  · rw [e] at hd; omega
/-- the sign of a number and its size -/
noncomputable def sg (z : Int) : Bool := decide (z < 0)
noncomputable abbrev mag (w : Nat) (z : Int) : List Int := limbs w z.natAbs
theorem half_pow {w : Nat} (hw : 1 ≤ w) : (2 : Int) ^ w = 2 * 2 ^ (w - 1) := by
  obtain ⟨k, rfl⟩ : ∃ k, w = k + 1 := ⟨w - 1, by omega⟩
  rw [Int.pow_succ, Nat.add_sub_cancel, Int.mul_comm]
theorem topZ_digs {w k : Nat} (hw : 1 ≤ w) (hk : 1 ≤ k) {Z : Int} (z0 : -2 ^ (w * k - 1) ≤ Z) (z1 : Z < 2 ^ (w * k - 1)) : topZ (w : Int) (digs w Z k) ↔ 0 ≤ Z := by
  obtain ⟨j, rfl⟩ : ∃ j, k = j + 1 := ⟨k - 1, by omega⟩
  have hp := two_pos (w * j)
  have hq := two_pos (w - 1)
  have e0 : (2 : Int) ^ (w * (j + 1) - 1) = 2 ^ (w * j) * 2 ^ (w - 1) := by
    rw [← Int.pow_add]; congr 1; rw [Nat.mul_add, Nat.mul_one]; omega
  rw [e0] at z0 z1
  have e1 : (digs w Z (j + 1)).getD (-1 + ((digs w Z (j + 1)).length : Int)).toNat 0 = Z / 2 ^ (w * j) % 2 ^ w := by
    rw [digs_len, digs_succ]
    have : (-1 + ((j + 1 : Nat) : Int)).toNat = (digs w Z j).length := by rw [digs_len]; omega
    rw [this]
    simp [List.getD_eq_getElem?_getD]
  have e2 : ((w : Int) - 1).toNat = w - 1 := by omega
  rw [topZ, e1, e2, Int.fdiv_eq_ediv_of_nonneg _ (Int.le_of_lt hq)]
  have hw2 := half_pow hw
  generalize hD : Z / 2 ^ (w * j) = d at *
  have hd0 : -2 ^ (w - 1) ≤ d := by
    rw [← hD]
    refine (Int.le_ediv_iff_mul_le hp).mpr ?_
    rw [Int.neg_mul, Int.mul_comm]; omega
  have hd1 : d < 2 ^ (w - 1) := by
    rw [← hD]
    refine Int.ediv_lt_of_lt_mul hp ?_
    rw [Int.mul_comm]; exact z1
  have hz : 0 ≤ Z ↔ 0 ≤ d := by
    rw [← hD]
    exact ⟨fun h => Int.ediv_nonneg h (Int.le_of_lt hp), fun h => by
      have := Int.mul_le_of_le_ediv hp h
      omega⟩
  rw [hz]
  by_cases h : 0 ≤ d
  · rw [Int.emod_eq_of_lt h (by omega), Int.ediv_eq_zero_of_lt h hd1]
    exact ⟨fun _ => h, fun _ => rfl⟩
  · have e3 : d % 2 ^ w = d + 2 ^ w := (kbt_unique (a := d) (q := -1) (r := d + 2 ^ w) (two_pos w) (by omega) (by omega) (by omega)).2
    rw [e3]
    refine ⟨fun h2 => ?_, fun h2 => absurd h2 h⟩
    have h4 : 1 ≤ (d + 2 ^ w) / 2 ^ (w - 1) := (Int.le_ediv_iff_mul_le hq).mpr (by omega)
    omega
theorem pow_half_le {w k : Nat} (hw : 1 ≤ w) (hk : 1 ≤ k) : (2 : Int) ^ (w * k - 1) < 2 ^ (w * k) := by
  have h1 : 1 ≤ w * k := Nat.mul_pos hw hk
  have := half_pow h1
  have := two_pos (w * k - 1)
  omega
theorem numL_digs {w k : Nat} (hw : 2 ≤ w) (hk : 1 ≤ k) {Z : Int} (z0 : -2 ^ (w * k - 1) ≤ Z) (z1 : Z < 2 ^ (w * k - 1)) : numB (w : Int) (digs w Z k) = sg Z ∧ numL (w : Int) (digs w Z k) = mag w Z := by
  have ht := topZ_digs (by omega : 1 ≤ w) hk z0 z1
  have hl := pow_half_le (by omega : 1 ≤ w) hk
  rw [numB, numL, sg, mag]
  by_cases h : 0 ≤ Z
  · have h' := ht.mpr h
    refine ⟨by rw [decide_eq_true h', decide_eq_false (by omega)]; rfl, ?_⟩
    rw [if_pos h']
    have e : Z = (Z.natAbs : Int) := by omega
    rw [e, digs_limbs (by omega) (by omega)]
    congr 1
  · have h' : ¬ topZ (w : Int) (digs w Z k) := fun q => h (ht.mp q)
    refine ⟨by rw [decide_eq_false h', decide_eq_true (by omega)]; rfl, ?_⟩
    rw [if_neg h', Int.one_mul, Int.toNat_natCast, not_digs]
    have e : -Z - 1 = ((Z.natAbs - 1 : Nat) : Int) := by omega
    rw [e, digs_limbs (by omega) (by omega), one_limbs hw, addX_limbs hw]
    congr 1
    omega
/-- a sum of parts that do not meet -/
theorem and_apart : ∀ (k : Nat) (x z : Int), 0 ≤ x → x < 2 ^ k → Builtin.bitAnd x (2 ^ k * z) = 0
  | 0, x, z, h0, h1 => by
    have : x = 0 := by
      have e : (2 : Int) ^ 0 = 1 := rfl
      omega
    subst this
    rw [bitAnd_comm, bitAnd_zero]
  | k + 1, x, z, h0, h1 => by
    have e : (2 : Int) ^ (k + 1) = 2 * 2 ^ k := by rw [Int.pow_succ, Int.mul_comm]
    rw [e] at h1
    have e2 : (2 : Int) ^ (k + 1) * z = 2 * (2 ^ k * z) := by rw [e, Int.mul_assoc]
    have e3 : 2 * (2 ^ k * z) / 2 = 2 ^ k * z := by omega
    rw [kbt_halves, e2, e3, and_apart k (x / 2) z (by omega) (by omega), if_neg (by omega)]
    rfl
theorem or_apart {k : Nat} {x z : Int} (h0 : 0 ≤ x) (h1 : x < 2 ^ k) : Builtin.bitOr x (z * 2 ^ k) = x + z * 2 ^ k := by
  rw [bitOr_and, Int.mul_comm z, and_apart k x z h0 h1]
  omega
theorem limb_at {w : Nat} (hw : 1 ≤ w) (m k : Nat) : (limbs w m).getD k 0 = (m : Int) / 2 ^ (w * k) % 2 ^ w := by
  have hv := limbs_vd (w := w) hw m
  have e := rowP hw (m := m) (k := max (limbs w m).length (k + 1)) (Nat.le_max_left ..)
  have h1 : (digs w m (max (limbs w m).length (k + 1))).getD k 0 = (m : Int) / 2 ^ (w * k) % 2 ^ w := by
    have hk : k < max (limbs w m).length (k + 1) := by omega
    simp only [digs, List.getD_eq_getElem?_getD, List.getElem?_map, List.getElem?_range hk]
    rfl
  rw [← h1, ← e]
  by_cases hk : k < (limbs w m).length
  · simp only [List.getD_eq_getElem?_getD, List.getElem?_append_left hk]
  · simp only [List.getD_eq_getElem?_getD]
    rw [List.getElem?_eq_none (by omega), List.getElem?_append_right (by omega)]
    have key : ∀ (n j : Nat), (((List.replicate n [(0 : Int)]).flatten)[j]?).getD 0 = 0 := by
      intro n
      induction n with
      | zero => intro j; rfl
      | succ n ih =>
        intro j
        rw [List.replicate_succ, List.flatten_cons, List.singleton_append]
        cases j with
        | zero => rfl
        | succ j => simpa using ih j
    rw [key]; rfl
theorem toNatW (w : Nat) : ((w : Int)).toNat = w := Int.toNat_natCast w
/-- a bit -/
theorem bit_limbs {w : Nat} (hw : 1 ≤ w) {m q r : Nat} (hr : r < w) : Builtin.bitAnd (((limbs w m).getD q 0).fdiv (2 ^ r)) 1 = (m : Int) / 2 ^ (w * q + r) % 2 := by
  have e1 : (1 : Int) = 2 ^ 1 - 1 := rfl
  have e2 : (2 : Int) = 2 ^ 1 := rfl
  obtain ⟨j, hj⟩ : ∃ j, w = r + (j + 1) := ⟨w - r - 1, by omega⟩
  rw [limb_at hw, Int.fdiv_eq_ediv_of_nonneg _ (Int.le_of_lt (two_pos r)), bitAnd_m1, Int.pow_add, ediv_split _ (Int.le_of_lt (two_pos _))]
  generalize (m : Int) / 2 ^ (w * q) = d
  have e3 : (2 : Int) ^ w = 2 ^ r * 2 ^ (j + 1) := by rw [hj, Int.pow_add]
  have e4 : (2 : Int) ^ (j + 1) = 2 * 2 ^ j := by rw [Int.pow_succ, Int.mul_comm]
  have hp := two_pos r
  rw [e3, emod_split d hp (two_pos _), Int.add_mul_ediv_left _ _ (by omega), Int.ediv_eq_zero_of_lt (Int.emod_nonneg _ (by omega)) (Int.emod_lt_of_pos _ hp), Int.zero_add, e4, emod_split _ (by decide) (two_pos j)]
  omega
/-- the lowest bits -/
theorem low_limbs {w : Nat} (hw : 1 ≤ w) {m q r : Nat} (hr : r < w) :
    (if (q : Int) < ((limbs w m).length : Int) then normL ((limbs w m).take q ++ [Builtin.bitAnd ((limbs w m).getD q 0) (1 * 2 ^ r - 1)]) else limbs w m) = limbs w (m % 2 ^ (w * q + r)) := by
  have hv := limbs_vd (w := w) hw m
  have e0 : ((m % 2 ^ (w * q + r) : Nat) : Int) = (m : Int) % 2 ^ (w * q + r) := by rw [Int.natCast_emod, kbt_cast]
  by_cases h : (q : Int) < ((limbs w m).length : Int)
  · rw [if_pos h, Int.one_mul, kbt_mask, limb_at hw]
    have et : (limbs w m).take q = digs w m q := by
      have e := rowP hw (m := m) (k := (limbs w m).length) (Nat.le_refl _)
      rw [Nat.sub_self] at e
      simp only [List.replicate_zero, List.flatten_nil, List.append_nil] at e
      rw [e, digs, ← List.map_take, List.take_range, Nat.min_eq_left (by omega)]
      rfl
    have hp := two_pos r
    obtain ⟨j, hj⟩ : ∃ j, w = r + j := ⟨w - r, by omega⟩
    have e3 : (2 : Int) ^ w = 2 ^ r * 2 ^ j := by rw [hj, Int.pow_add]
    have em : (m : Int) / 2 ^ (w * q) % 2 ^ w % 2 ^ r = (m : Int) / 2 ^ (w * q) % 2 ^ r := by
      rw [e3]; exact Int.emod_emod_of_dvd _ ⟨_, rfl⟩
    have hle : (2 : Int) ^ r ≤ 2 ^ w := by
      rw [e3]
      have := Int.mul_le_mul_of_nonneg_left (show (1 : Int) ≤ 2 ^ j by have := two_pos j; omega) (Int.le_of_lt hp)
      omega
    have b1 := Int.emod_nonneg ((m : Int) / 2 ^ (w * q)) (show (2 : Int) ^ r ≠ 0 by omega)
    have b2 := Int.emod_lt_of_pos ((m : Int) / 2 ^ (w * q)) hp
    rw [et, em, norm_limbs hw ((digs_vd w m q).append (Vd.cons b1 (by omega) Vd.nil)), valL_snoc, digs_len, digs_val]
    congr 1
    have := emod_split (m : Int) (two_pos (w * q)) hp
    rw [← Int.pow_add] at this
    omega
  · rw [if_neg h]
    congr 1
    have h1 := valL_lt hv
    rw [limbs_val hw] at h1
    have h2 : w * (limbs w m).length ≤ w * q + r := by
      have := Nat.mul_le_mul_left w (show (limbs w m).length ≤ q by omega)
      omega
    have h3 : (2 : Int) ^ (w * (limbs w m).length) ≤ 2 ^ (w * q + r) := by
      rw [← kbt_cast, ← kbt_cast]; exact Int.ofNat_le.mpr (Nat.pow_le_pow_right (by decide) h2)
    have h4 : (m : Int) % 2 ^ (w * q + r) = m := Int.emod_eq_of_lt (by omega) (by omega)
    omega
/-- to the right -/
theorem shrI_at {w : Nat} (hw : 1 ≤ w) {m q r : Nat} (hr : r < w) (i : Nat) : shrI (w : Int) (q : Int) (r : Int) (limbs w m) i = (m : Int) / 2 ^ (w * q + r) / 2 ^ (w * i) % 2 ^ w := by
  have hp := two_pos r
  obtain ⟨j, hj⟩ : ∃ j, w = r + j := ⟨w - r, by omega⟩
  have e3 : (2 : Int) ^ w = 2 ^ r * 2 ^ j := by rw [hj, Int.pow_add]
  have hj2 : ((w : Int) - (r : Int)).toNat = j := by omega
  rw [shrI, toNatW, toNatW, hj2, limb_at hw, limb_at hw, Int.toNat_natCast, Int.one_mul, Int.fdiv_eq_ediv_of_nonneg _ (Int.le_of_lt hp), kbt_mask]
  have a1 : (m : Int) / 2 ^ (w * q + r) / 2 ^ (w * i) = (m : Int) / 2 ^ (w * (q + i)) / 2 ^ r := by
    rw [← ediv_split _ (Int.le_of_lt (two_pos _)), ← ediv_split _ (Int.le_of_lt (two_pos _)), ← Int.pow_add, ← Int.pow_add]
    congr 2
    rw [Nat.mul_add]; omega
  have a2 : (m : Int) / 2 ^ (w * (q + i + 1)) = (m : Int) / 2 ^ (w * (q + i)) / 2 ^ w := by
    rw [pow_split, ediv_split _ (Int.le_of_lt (two_pos _))]
  rw [a1, a2]
  generalize (m : Int) / 2 ^ (w * (q + i)) = A
  have hB := two_pos w
  have hS := two_pos j
  have b1 := Int.emod_nonneg A (show (2 : Int) ^ w ≠ 0 by omega)
  have b2 := Int.emod_lt_of_pos A hB
  have x0 : 0 ≤ A % 2 ^ w / 2 ^ r := Int.ediv_nonneg b1 (Int.le_of_lt hp)
  have x1 : A % 2 ^ w / 2 ^ r < 2 ^ j := Int.ediv_lt_of_lt_mul hp (by rw [Int.mul_comm, ← e3]; exact b2)
  rw [or_apart x0 x1]
  have hA := Int.emod_add_mul_ediv A (2 ^ w)
  have hD := Int.emod_add_mul_ediv (A / 2 ^ w) (2 ^ w)
  have c1 : A / 2 ^ r = A % 2 ^ w / 2 ^ r + 2 ^ j * (A / 2 ^ w) := by
    conv => lhs; rw [← hA]
    rw [e3, Int.mul_assoc, Int.add_mul_ediv_left _ _ (by omega)]
  have c2 : A % 2 ^ w / 2 ^ r + 2 ^ j * (A / 2 ^ w) = A % 2 ^ w / 2 ^ r + A / 2 ^ w % 2 ^ w * 2 ^ j + 2 ^ w * (2 ^ j * (A / 2 ^ w / 2 ^ w)) := by
    have : 2 ^ j * (A / 2 ^ w) = 2 ^ j * (A / 2 ^ w % 2 ^ w) + 2 ^ j * (2 ^ w * (A / 2 ^ w / 2 ^ w)) := by rw [← Int.mul_add, hD]
    rw [this, Int.mul_comm (2 ^ j) (A / 2 ^ w % 2 ^ w), Int.mul_left_comm (2 ^ j) (2 ^ w)]
    omega
  rw [c1, c2, Int.add_mul_emod_self_left]
theorem shr_limbs {w : Nat} (hw : 1 ≤ w) {m q r : Nat} (hr : r < w) : normL (shrA (w : Int) (q : Int) (r : Int) (limbs w m) (((limbs w m).length : Int) - (q : Int)).toNat) = limbs w (m / 2 ^ (w * q + r)) := by
  have e0 : ((m / 2 ^ (w * q + r) : Nat) : Int) = (m : Int) / 2 ^ (w * q + r) := by rw [Int.natCast_ediv, kbt_cast]
  have e : shrA (w : Int) (q : Int) (r : Int) (limbs w m) (((limbs w m).length : Int) - (q : Int)).toNat = digs w ((m / 2 ^ (w * q + r) : Nat) : Int) (((limbs w m).length : Int) - (q : Int)).toNat := by
    rw [shrA, digs]
    refine List.map_congr_left fun i _ => ?_
    rw [shrI_at hw hr, e0]
  rw [e, digs_limbs hw]
  rw [e0]
  refine Int.ediv_lt_of_lt_mul (two_pos _) ?_
  rw [← Int.pow_add]
  have h1 := valL_lt (limbs_vd hw m)
  rw [limbs_val hw] at h1
  have h2 : w * (limbs w m).length ≤ w * (((limbs w m).length : Int) - (q : Int)).toNat + (w * q + r) := by
    have := Nat.mul_le_mul_left w (show (limbs w m).length ≤ (((limbs w m).length : Int) - (q : Int)).toNat + q by omega)
    rw [Nat.mul_add] at this
    omega
  have h3 : (2 : Int) ^ (w * (limbs w m).length) ≤ 2 ^ (w * (((limbs w m).length : Int) - (q : Int)).toNat + (w * q + r)) := by
    rw [← kbt_cast, ← kbt_cast]; exact Int.ofNat_le.mpr (Nat.pow_le_pow_right (by decide) h2)
  omega
/-- to the left -/
theorem shlA_spec {w : Nat} (hw : 2 ≤ w) {m r : Nat} (hr : r < w) (n : Nat) (hn : n = (limbs w m).length) :
    (shlA (w : Int) (r : Int) (limbs w m) n).1.length = n ∧ Vd w (shlA (w : Int) (r : Int) (limbs w m) n).1 ∧ (0 ≤ (shlA (w : Int) (r : Int) (limbs w m) n).2 ∧ (shlA (w : Int) (r : Int) (limbs w m) n).2 < 2 ^ r) ∧
      valL w (shlA (w : Int) (r : Int) (limbs w m) n).1 + 2 ^ (w * n) * (shlA (w : Int) (r : Int) (limbs w m) n).2 = (m : Int) * 2 ^ r := by
  have hv := limbs_vd (w := w) (by omega) m
  have hp := two_pos r
  have h := run_spec (w := w) (f := fun c n => Builtin.bitOr c ((limbs w m).getD n 0 * 2 ^ ((r : Int)).toNat)) (t := fun n => (limbs w m).getD n 0 * 2 ^ r) (c := 0) (fun d => 0 ≤ d ∧ d < 2 ^ r) ⟨Int.le_refl _, hp⟩ (fun d h => h.1)
    (fun d k h => by
      have hk := hv.at k
      rw [toNatW]
      have hb := two_pos w
      have m0 : 0 ≤ (limbs w m).getD k 0 * 2 ^ r := Int.mul_nonneg hk.1 (Int.le_of_lt hp)
      have m1 : ((limbs w m).getD k 0 + 1) * 2 ^ r ≤ 2 ^ w * 2 ^ r := Int.mul_le_mul_of_nonneg_right (by omega) (Int.le_of_lt hp)
      rw [Int.add_mul, Int.one_mul, Int.mul_comm (2 ^ w)] at m1
      refine ⟨or_apart h.1 h.2, Int.ediv_nonneg (by omega) (by omega), Int.ediv_lt_of_lt_mul hb (by omega)⟩) n
  rw [sumT_mul, sumT_val _ (by omega), limbs_val (by omega), Int.zero_add] at h
  exact h
theorem shl_limbs {w : Nat} (hw : 2 ≤ w) {m q r : Nat} (hr : r < w) : shlL (w : Int) (q : Int) (r : Int) (limbs w m) = limbs w (m * 2 ^ (w * q + r)) := by
  have hp := two_pos r
  by_cases hm : m = 0
  · subst hm
    rw [shlL, limbs_zero, if_pos (show ([] : List Int).length = 0 from rfl), Nat.zero_mul, limbs_zero]
  · have hne : (limbs w m).length ≠ 0 := by
      rw [limbs_pos (by omega) (Nat.pos_of_ne_zero hm)]; simp
    obtain ⟨i1, i2, i3, i4⟩ := shlA_spec hw (m := m) hr _ rfl
    have hle : (2 : Int) ^ r ≤ 2 ^ w := by
      rw [← kbt_cast, ← kbt_cast]; exact Int.ofNat_le.mpr (Nat.pow_le_pow_right (by decide) (Nat.le_of_lt hr))
    have hge : (m : Int) ≤ (m : Int) * 2 ^ r := by
      have := Int.mul_le_mul_of_nonneg_left (show (1 : Int) ≤ 2 ^ r by omega) (show (0 : Int) ≤ m by omega)
      omega
    have ht := top_limbs (by omega : 1 ≤ w) i1 i2 i3.1 (by omega) i4 (by
      rcases limbs_top (w := w) (n := m) (by omega) with e | e
      · left; rw [e]; rfl
      · right; omega)
    rw [shlL, if_neg hne, ht.1, toNatW]
    have hw1 : 1 ≤ w := by omega
    have hv := (rep_vd (w := w) (Int.le_refl _) (two_pos w) q).append (limbs_vd hw1 ((m : Int) * 2 ^ r).toNat)
    have e5 : valL w ((List.replicate q [(0 : Int)]).flatten ++ limbs w ((m : Int) * 2 ^ r).toNat) = ((m * 2 ^ (w * q + r) : Nat) : Int) := by
      rw [valL_append, valL_rep0, rep_length, limbs_val hw1, Int.toNat_of_nonneg ht.2, Int.natCast_mul, kbt_cast, Int.pow_add, Int.zero_add, Int.mul_left_comm]
    have e6 := limbs_of hw1 hv (fun l x e hx => by
      subst hx
      have hl := limbs_top (w := w) (n := ((m : Int) * 2 ^ r).toNat) hw1
      have hlv := limbs_vd (w := w) hw1 ((m : Int) * 2 ^ r).toNat
      have hval := limbs_val (w := w) hw1 ((m : Int) * 2 ^ r).toNat
      rcases List.eq_nil_or_concat (limbs w ((m : Int) * 2 ^ r).toNat) with e0 | ⟨l', y, e0⟩
      · rw [e0] at hval
        simp [valL] at hval
        omega
      · rw [List.concat_eq_append] at e0
        rw [e0, ← List.append_assoc] at e
        have := (List.append_inj' e rfl).2
        simp at this
        subst this
        rw [e0] at hl hval hlv
        rw [valL_snoc, Int.mul_zero, Int.add_zero] at hval
        rcases hl with hl | hl
        · simp at hl
        · rw [List.length_append, List.length_singleton, Nat.add_sub_cancel] at hl
          have := valL_lt hlv.left
          omega)
    rw [e6, e5, Int.toNat_natCast]
/-- ones -/
noncomputable def onesF : Nat → Nat → Int
  | 0, _ => 0
  | f + 1, n => ((n % 2 : Nat) : Int) + onesF f (n / 2)
noncomputable def onesI (i : Int) : Int := onesF i.toNat i.toNat
theorem onesF_zero : ∀ f, onesF f 0 = 0
  | 0 => rfl
  | f + 1 => by
    show ((0 % 2 : Nat) : Int) + onesF f (0 / 2) = 0
    rw [Nat.zero_div, onesF_zero f]; rfl
theorem onesF_fuel : ∀ (f n : Nat), n ≤ f → ∀ g, n ≤ g → onesF f n = onesF g n := by
  intro f
  induction f with
  | zero =>
    intro n hn g _
    have : n = 0 := by omega
    subst this
    rw [onesF_zero, onesF_zero]
  | succ f ih =>
    intro n hn g hg
    cases g with
    | zero =>
      have : n = 0 := by omega
      subst this
      rw [onesF_zero, onesF_zero]
    | succ g => rw [onesF, onesF, ih (n / 2) (by omega) g (by omega)]
theorem onesI_step {x : Int} (h : 0 ≤ x) : onesI x = x % 2 + onesI (x / 2) := by
  have e1 : (x / 2).toNat = x.toNat / 2 := by omega
  have e2 : ((x.toNat % 2 : Nat) : Int) = x % 2 := by omega
  rw [onesI, onesI, onesF_fuel x.toNat x.toNat (Nat.le_refl _) (x.toNat + 1) (by omega), onesF, e1, e2, onesF_fuel x.toNat (x.toNat / 2) (by omega) (x.toNat / 2) (Nat.le_refl _)]
theorem onesI_zero : onesI 0 = 0 := rfl
theorem ones_turn : ∀ (n : Nat) (l : Int), l.toNat = n → 0 < l → onesI (Builtin.bitAnd l (l - 1)) = onesI l - 1 ∧ 0 ≤ Builtin.bitAnd l (l - 1) ∧ Builtin.bitAnd l (l - 1) < l := by
  intro n
  induction n using Nat.strongRecOn with
  | ind n ih =>
    intro l hl h
    have hh := kbt_halves l (l - 1)
    rw [if_neg (by omega), Int.add_zero] at hh
    by_cases ho : l % 2 = 1
    · have e : (l - 1) / 2 = l / 2 := by omega
      rw [e, bitAnd_self] at hh
      have e2 : 2 * (l / 2) = l - 1 := by omega
      rw [hh, e2, onesI_step (x := l - 1) (by omega), onesI_step (x := l) (by omega), e]
      omega
    · have e : (l - 1) / 2 = l / 2 - 1 := by omega
      have hi := ih (l / 2).toNat (by omega) (l / 2) rfl (by omega)
      rw [e] at hh
      rw [hh, onesI_step (x := 2 * Builtin.bitAnd (l / 2) (l / 2 - 1)) (by omega), onesI_step (x := l) (by omega)]
      have e3 : 2 * Builtin.bitAnd (l / 2) (l / 2 - 1) / 2 = Builtin.bitAnd (l / 2) (l / 2 - 1) := by omega
      rw [e3]
      omega
theorem ones_less {l : Int} (h : 0 < l) : 0 ≤ Builtin.bitAnd l (l - 1) ∧ Builtin.bitAnd l (l - 1) < l := (ones_turn _ l rfl h).2
theorem ones_zero {l : Int} (h : ¬ 0 < l) : onesI l = 0 := by
  have : l.toNat = 0 := by omega
  rw [onesI, this]; rfl
theorem ones_split : ∀ (k : Nat) (x z : Int), 0 ≤ x → x < 2 ^ k → 0 ≤ z → onesI (x + 2 ^ k * z) = onesI x + onesI z
  | 0, x, z, h0, h1, _ => by
    have e : (2 : Int) ^ 0 = 1 := rfl
    have : x = 0 := by omega
    subst this
    rw [e, Int.one_mul, Int.zero_add, onesI_zero, Int.zero_add]
  | k + 1, x, z, h0, h1, hz => by
    have e : (2 : Int) ^ (k + 1) = 2 * 2 ^ k := by rw [Int.pow_succ, Int.mul_comm]
    rw [e] at h1
    have hm : 0 ≤ 2 ^ k * z := Int.mul_nonneg (Int.le_of_lt (two_pos k)) hz
    rw [e, Int.mul_assoc, onesI_step (x := x + 2 * (2 ^ k * z)) (by omega), onesI_step (x := x) h0]
    have e1 : (x + 2 * (2 ^ k * z)) / 2 = x / 2 + 2 ^ k * z := by omega
    have e2 : (x + 2 * (2 ^ k * z)) % 2 = x % 2 := by omega
    rw [e1, e2, ones_split k (x / 2) z (by omega) (by omega) hz]
    omega
theorem ones_val {w : Nat} : ∀ {a : List Int}, Vd w a → (a.map onesI).sum = onesI (valL w a)
  | [], _ => rfl
  | x :: r, h => by
    rw [List.map_cons, List.sum_cons, valL, ones_split w x _ h.head.1 h.head.2 (valL_nonneg h.tail), ones_val h.tail]
theorem ones_limbs {w : Nat} (hw : 1 ≤ w) (m : Nat) : ((limbs w m).map onesI).sum = onesI m := by
  rw [ones_val (limbs_vd hw m), limbs_val hw]
theorem xor_nonneg {x y : Int} (hx : 0 ≤ x) (hy : 0 ≤ y) : 0 ≤ Builtin.bitXor x y := by
  have h1 : ∀ k : Nat, x < 2 ^ k → y < 2 ^ k → 0 ≤ Builtin.bitXor x y := fun k a b => by
    have h := bits_xor.low k x y
    rw [Int.emod_eq_of_lt hx a, Int.emod_eq_of_lt hy b] at h
    rw [h]
    exact Int.emod_nonneg _ (by have := two_pos k; omega)
  have hb : ∀ (z : Int) (k : Nat), z.toNat ≤ k → z < 2 ^ k := fun z k hk => by
    have h2 : z.toNat < 2 ^ z.toNat := Nat.lt_two_pow_self
    have h3 : 2 ^ z.toNat ≤ 2 ^ k := Nat.pow_le_pow_right (by decide) hk
    have h4 := kbt_cast k
    omega
  exact h1 (max x.toNat y.toNat) (hb x _ (Nat.le_max_left ..)) (hb y _ (Nat.le_max_right ..))
theorem half_le (x : Int) : (x / 2).natAbs ≤ x.natAbs := by omega
theorem half_lt {x : Int} (h : ¬ (x = 0 ∨ x = -1)) : (x / 2).natAbs < x.natAbs := by omega
theorem halfN_le {x : Int} (hx : 0 ≤ x) : (x / 2).toNat ≤ x.toNat := by omega
theorem halfN_lt {x : Int} (hx : 0 ≤ x) (h : x ≠ 0) : (x / 2).toNat < x.toNat := by omega
theorem half_0 {x : Int} (hx : 0 ≤ x) : 0 ≤ x / 2 := Int.ediv_nonneg hx (by decide)
theorem ones_xor : ∀ (n : Nat) (x y : Int), x.toNat + y.toNat = n → 0 ≤ x → 0 ≤ y → onesI (Builtin.bitXor x y) ≤ onesI x + onesI y := by
  intro n
  induction n using Nat.strongRecOn with
  | ind n ih =>
    intro x y hn hx hy
    by_cases h0 : x = 0 ∧ y = 0
    · obtain ⟨rfl, rfl⟩ := h0
      rw [bits_xor.zero]; decide
    · have hh := bits_xor.half x y
      have hl : (x / 2).toNat + (y / 2).toNat < n := by
        rw [← hn]
        by_cases hx0 : x = 0
        · exact Nat.add_lt_add_of_le_of_lt (halfN_le hx) (halfN_lt hy fun e => h0 ⟨hx0, e⟩)
        · exact Nat.add_lt_add_of_lt_of_le (halfN_lt hx hx0) (halfN_le hy)
      have h1 := ih ((x / 2).toNat + (y / 2).toNat) hl (x / 2) (y / 2) rfl (half_0 hx) (half_0 hy)
      clear hl hn h0 ih
      rw [onesI_step (xor_nonneg hx hy), onesI_step hx, onesI_step hy, hh.1, hh.2]
      split <;> omega
theorem len_of {z m : Nat} (hz : 2 ≤ z) (h : m < 2 ^ 190) : (limbs z m).length < 97 := by
  have h1 : (limbs z m).length ≤ 95 := by
    refine limbs_len_lt (by omega) ?_
    have h2 : (2 : Int) ^ 190 ≤ 2 ^ (z * 95) := by
      rw [← kbt_cast, ← kbt_cast]; exact Int.ofNat_le.mpr (Nat.pow_le_pow_right (by decide) (by omega))
    have h3 : ((2 ^ 190 : Nat) : Int) = 2 ^ 190 := kbt_cast 190
    omega
  omega
theorem one_ints {z : Nat} {t : Tok} (hz : 2 ≤ z) : IntsAre [.int 1 t] (limbs z 1) := by rw [← one_limbs hz]; exact .cons _ _ .nil
theorem two_ints {z : Nat} {t : Tok} (hz : 2 ≤ z) : IntsAre [.int 2 t] (limbs z 2) := by rw [← two_limbs hz]; exact .cons _ _ .nil
theorem nil_ints {z : Nat} : IntsAre [] (limbs z 0) := .nil
theorem qr_split {z : Nat} (hz : 2 ≤ z) {n : Int} (hn : 0 ≤ n) : n.fdiv (z : Int) = ((n.toNat / z : Nat) : Int) ∧ n.fmod (z : Int) = ((n.toNat % z : Nat) : Int) ∧ n.toNat % z < z ∧ z * (n.toNat / z) + n.toNat % z = n.toNat := by
  have e : n = (n.toNat : Int) := by omega
  refine ⟨?_, ?_, Nat.mod_lt _ (by omega), Nat.div_add_mod _ _⟩
  · rw [Int.fdiv_eq_ediv_of_nonneg _ (by omega), Int.natCast_ediv, ← e]
  · rw [Int.fmod_eq_emod_of_nonneg _ (by omega), Int.natCast_emod, ← e]
theorem shl_n {z m : Nat} (hz : 2 ≤ z) {n : Int} (hn : 0 ≤ n) : shlL (z : Int) (n.fdiv (z : Int)) (n.fmod (z : Int)) (limbs z m) = limbs z (m * 2 ^ n.toNat) := by
  obtain ⟨e1, e2, e3, e4⟩ := qr_split hz hn
  rw [e1, e2, shl_limbs hz e3, e4]
theorem shr_n {z m : Nat} (hz : 2 ≤ z) {n : Int} (hn : 0 ≤ n) : normL (shrA (z : Int) (n.fdiv (z : Int)) (n.fmod (z : Int)) (limbs z m) (((limbs z m).length : Int) - n.fdiv (z : Int)).toNat) = limbs z (m / 2 ^ n.toNat) := by
  obtain ⟨e1, e2, e3, e4⟩ := qr_split hz hn
  rw [e1, e2, shr_limbs (by omega) e3, e4]
theorem bit_n {z m : Nat} (hz : 2 ≤ z) {n : Int} (hn : 0 ≤ n) : Builtin.bitAnd (((limbs z m).getD (n.fdiv (z : Int)).toNat 0).fdiv (2 ^ (n.fmod (z : Int)).toNat)) 1 = (m : Int) / 2 ^ n.toNat % 2 := by
  obtain ⟨e1, e2, e3, e4⟩ := qr_split hz hn
  rw [e1, e2, Int.toNat_natCast, Int.toNat_natCast, bit_limbs (by omega) e3, e4]
theorem low_n {z m : Nat} (hz : 2 ≤ z) {n : Int} (hn : 0 ≤ n) : (if n.fdiv (z : Int) < ((limbs z m).length : Int) then normL ((limbs z m).take (n.fdiv (z : Int)).toNat ++ [Builtin.bitAnd ((limbs z m).getD (n.fdiv (z : Int)).toNat 0) (1 * 2 ^ (n.fmod (z : Int)).toNat - 1)]) else limbs z m) = limbs z (m % 2 ^ n.toNat) := by
  obtain ⟨e1, e2, e3, e4⟩ := qr_split hz hn
  rw [e1, e2, Int.toNat_natCast, Int.toNat_natCast, low_limbs (by omega) e3, e4]
theorem and_digs {z k : Nat} {X Y : Int} {ys : List Value} (h : IntsAre ys (List.zipWith Builtin.bitAnd (digs z X k) (digs z Y k))) : IntsAre ys (digs z (Builtin.bitAnd X Y) k) := by rwa [bits_and.digs] at h
theorem or_digs {z k : Nat} {X Y : Int} {ys : List Value} (h : IntsAre ys (List.zipWith Builtin.bitOr (digs z X k) (digs z Y k))) : IntsAre ys (digs z (Builtin.bitOr X Y) k) := by rwa [bits_or.digs] at h
theorem xor_digs {z k : Nat} {X Y : Int} {ys : List Value} (h : IntsAre ys (List.zipWith Builtin.bitXor (digs z X k) (digs z Y k))) : IntsAre ys (digs z (Builtin.bitXor X Y) k) := by rwa [bits_xor.digs] at h
theorem mag_room {z : Nat} (hz : 2 ≤ z) {X : Int} {k : Nat} (hk : (mag z X).length + 1 ≤ k) : -2 ^ (z * k - 1) ≤ X ∧ X < 2 ^ (z * k - 1) := by
  have h1 := valL_lt (limbs_vd (w := z) (by omega) X.natAbs)
  rw [limbs_val (by omega)] at h1
  have h2 : z * (limbs z X.natAbs).length ≤ z * k - 1 := by
    have := Nat.mul_le_mul_left z hk
    rw [Nat.mul_add] at this
    show z * (mag z X).length ≤ _
    omega
  have h3 : (2 : Int) ^ (z * (limbs z X.natAbs).length) ≤ 2 ^ (z * k - 1) := by
    rw [← kbt_cast, ← kbt_cast]; exact Int.ofNat_le.mpr (Nat.pow_le_pow_right (by decide) h2)
  omega
/-- an operator's answer is told by a row one limb longer -/
theorem num_op {z : Nat} (hz : 2 ≤ z) {op g : Int → Int → Int} (h : Bits op g) {X Y : Int} {k : Nat} (h1 : (mag z X).length + 1 ≤ k) (h2 : (mag z Y).length + 1 ≤ k) : numB (z : Int) (digs z (op X Y) k) = sg (op X Y) ∧ numL (z : Int) (digs z (op X Y) k) = mag z (op X Y) := by
  have a := mag_room hz h1
  have b := mag_room hz h2
  have c := h.bound a.1 a.2 b.1 b.2
  exact numL_digs hz (by omega) c.1 c.2
theorem row_pos {z : Nat} (hz : 2 ≤ z) {X : Int} (hX : 0 ≤ X) {k : Nat} (hk : (mag z X).length ≤ k) : mag z X ++ (List.replicate ((k : Int) - ((mag z X).length : Int)).toNat [(0 : Int)]).flatten = digs z X k := by
  have e : ((k : Int) - ((mag z X).length : Int)).toNat = k - (limbs z X.natAbs).length := by show ((k : Int) - ((limbs z X.natAbs).length : Int)).toNat = _; omega
  rw [e, mag, rowP (by omega) hk]
  congr 1
  omega
theorem row_neg {z : Nat} (hz : 2 ≤ z) {X : Int} (hX : X < 0) {k : Nat} (hk : (limbs z (X.natAbs - 1)).length ≤ k) :
    (limbs z (X.natAbs - 1)).map (fun v => 1 * 2 ^ ((z : Int)).toNat - 1 - v) ++ (List.replicate ((k : Int) - ((limbs z (X.natAbs - 1)).length : Int)).toNat [(1 : Int) * 2 ^ ((z : Int)).toNat - 1]).flatten = digs z X k := by
  have e : ((k : Int) - ((limbs z (X.natAbs - 1)).length : Int)).toNat = k - (limbs z (X.natAbs - 1)).length := by omega
  rw [e, rowN (by omega) hk]
  congr 1
  omega
/-- a list of what two rows make of each other, place by place -/
noncomputable def KzSrc (prog : Program) (w : World) (A : Around) (h₀ : Heap) (L : Addr) (m : Str → Option Value) (f : Int → Int → Int) (Q : Value → Shared → Prop) (xv : Value) (s₁ : Shared) : Prop :=
  ∃ (I₀ : Nat) (news : Led) (l1 l2 : Addr) (vs1 vs2 : List Value) (ns1 ns2 : List Int), xv = .ref (I₀ + 4) ∧ A.handled = none ∧ ZipApart (I₀ + 4) (I₀ + 2) (I₀ + 3) I₀ (I₀ + 1) l1 l2 ∧
    IsZip s₁.heap (I₀ + 4) (I₀ + 2) (I₀ + 3) .none ∧ IsPair s₁.heap (I₀ + 2) (.ref I₀) (.ref (I₀ + 1)) ∧ IsPair s₁.heap (I₀ + 3) .none .none ∧ s₁.heap.IsListIter I₀ l1 0 ∧ s₁.heap.IsListIter (I₀ + 1) l2 0 ∧ s₁.heap.IsList l1 vs1.toArray ∧ s₁.heap.IsList l2 vs2.toArray ∧
    Fr h₀ L s₁.heap m ∧ News h₀ L s₁.heap news ∧ @LT.lt Nat _ L I₀ ∧ (∀ p ∈ news, @LT.lt Nat _ p.1 I₀) ∧ (∀ b : Nat, I₀ ≤ b → h₀.get? b = none) ∧ I₀ + 5 ≤ s₁.heap.objs.size ∧ @LT.lt Nat _ l1 I₀ ∧ @LT.lt Nat _ l2 I₀ ∧
    IntsAre vs1 ns1 ∧ IntsAre vs2 ns2 ∧ vs1.length ≤ sizeLine ∧
    ∀ D ys h tk, Fr h₀ L h m → News h₀ L h ((D, PyProof.Rows.LCg.lst ys) :: news) → (∀ p ∈ news, @LT.lt Nat _ p.1 D) → IntsAre ys (List.zipWith f ns1 ns2) → Q (.ref D) { s₁ with heap := h, toks := tk }

section
variable {prog : Program} {w : World} {A : Around} {E : Value → Shared → Prop} {s : Shared} {h₀ : Heap} {L : Addr} {m : Str → Option Value} {env : Env}
theorem zipWith_at {f : Int → Int → Int} {ns1 ns2 : List Int} {i : Nat} {x y : Int} (h1 : ns1[i]? = some x) (h2 : ns2[i]? = some y) : (List.zipWith f ns1 ns2)[i]? = some (f x y) := by
  simp [List.getElem?_zipWith, h1, h2]

theorem kz_comp {elt iter : Expr} {f : Int → Int → Int} {a b : Str} {pa pb tp : Pos} {kk : Nat} {scope : Scope} {cl : List (Str × Addr)} {pos : Pos} {Q : Value → Shared → Prop} (_F₀ : Fr h₀ L s.heap m)
    (hclos : closureFor scope env = pure cl) (hcell : ∀ y ∈ scope.names, y.2 ≠ .cell) (hkind : scope.kind = .function)
    (hnames : ∀ y ∈ scope.names, y.2 = .local → scope.names.lookup y.1 = some .local) (hxa : scope.names.lookup a = some .local) (hxb : scope.names.lookup b = some .local) (hab : ¬ a = b)
    (helt : ∀ (C : Addr) (m₂ : Str → Option Value) (x y : Int) (tx ty : Tok) (s' : Shared) (Q' : Value → Shared → Prop) (E' : Value → Shared → Prop), s'.heap.Ns C m₂ → m₂ a = some (.int x tx) → m₂ b = some (.int y ty) →
      (∀ t tk, Q' (.int (f x y) t) { s' with toks := tk }) → wpAny (model prog w) A (eval elt (compEnvC scope cl C env)) Q' E' s')
    (h : wpAny (model prog w) A (eval iter env) (fun xv s₁ => KzSrc prog w A h₀ L m f Q xv s₁) E s)
    (hs : ∀ x, foldedSetIterable iter env x = pure x := by intro _; rfl) :
    wpAny (model prog w) A (eval (.ListComp elt [⟨.Tuple [.Name a pa, .Name b pb] kk tp, iter, [], 0⟩] scope pos) env) Q E s := by
  rw [eval_ListComp]
  refine wpAny_comprehension_free (use := none) rfl hs hclos hkind hnames (wpAny_mono h (fun xv s₁ h₁ => ?_) fun _ _ e => e)
  obtain ⟨I₀, news, l1, l2, vs1, vs2, ns1, ns2, rfl, hh, D, hz, hTI, hTO, hi1, hi2, hl1, hl2, F, N, hL, hN, hI, hsz, hlt1, hlt2, iv1, iv2, hfit, fin⟩ := h₁
  have hI' : ∀ b : Nat, I₀ ≤ b → h₀.get? b = none := hI
  refine wpAny_pyIter_zip hz ?_
  refine wpAny_newObj_type (wpAny_newFunctionEnv hcell (by intro y hy; simp at hy) (fun h₁ hns₁ hsb₁ => ?_) hkind)
  dsimp only at hns₁ hsb₁ ⊢
  generalize hH2 : s₁.heap.push { cls := .type "list", dict := none, data := .seq ([] : List Value).toArray } = H2 at hns₁ hsb₁ ⊢
  have hC : H2.objs.size = s₁.heap.objs.size + 1 := by rw [← hH2, Heap.size_push]
  generalize hDD : s₁.heap.objs.size = Da at *
  have hDC : Da ≠ H2.objs.size := by rw [hC]; exact Nat.ne_of_lt (Nat.lt_succ_self _)
  have below : ∀ b : Nat, b < Da → b ≠ H2.objs.size ∧ b ≠ Da := fun b hb => ⟨by rw [hC]; exact Nat.ne_of_lt (Nat.lt_succ_of_lt hb), Nat.ne_of_lt hb⟩
  have lt : ∀ {b : Addr} {o : Obj}, s₁.heap.get? b = some o → @LT.lt Nat _ b Da := fun e => hDD ▸ Heap.lt_size e
  have old : ∀ b o, s₁.heap.get? b = some o → h₁.get? b = some o := fun b o e => hsb₁.extBut b o (below b (lt e)).1 (Heap.get?_push_of_some _ (hH2 ▸ Heap.get?_push_of_some _ e))
  have hacc : h₁.get? Da = some (PyProof.Rows.LCg.lst []) := hsb₁.extBut _ _ hDC (Heap.get?_push_of_some _ (by rw [← hH2, ← hDD]; exact Heap.get?_push_size _ rfl))
  generalize hCC : H2.objs.size = Ca at *
  have hCn : Ca = Da + 1 := hC
  have W := KTurns.ofWalksU (elts := [.Name a pa, .Name b pb]) (k := kk) (pos := tp) (WalksT.zip2 (prog := prog) (w := w) hh (I₀ + 4) (I₀ + 2) (I₀ + 3) I₀ (I₀ + 1) l1 l2 D vs1.toArray vs2.toArray).toU
  generalize hn : min vs1.toArray.size vs2.toArray.size = n at W
  have hnn : (List.zipWith f ns1 ns2).length = n := by rw [List.length_zipWith, ← iv1.length, ← iv2.length, ← hn, List.size_toArray, List.size_toArray]
  have hnz : n ≤ sizeLine := by rw [← hn, List.size_toArray]; omega
  have loop : ∀ s₃ : Shared, s₃ = { s₁ with heap := h₁, toks := s₁.toks + ([] : List (Str × Value)).length } →
      codeAny (model prog w) A (.compLoop (.ListComp elt [⟨.Tuple [.Name a pa, .Name b pb] kk tp, iter, [], 0⟩] scope pos) 0 (.ref (I₀ + 4)) (.ref Da) (compEnvC scope cl Ca env))
        (compPost (model prog w) A E none Q (.ref Da) Ca) s₃ := by
    rintro s₃ rfl
    refine kcp_loop
      (fun k s' => ∃ h' tk i ys m', s' = { s₁ with heap := h', toks := tk } ∧ i ≤ n ∧ k = n + 1 - i ∧
        (IsZip h' (I₀ + 4) (I₀ + 2) (I₀ + 3) .none ∧ IsPair h' (I₀ + 2) (.ref I₀) (.ref (I₀ + 1)) ∧ (∃ a b, IsPair h' (I₀ + 3) a b) ∧ h'.IsListIter I₀ l1 i ∧ h'.IsListIter (I₀ + 1) l2 i ∧ h'.IsList l1 vs1.toArray ∧ h'.IsList l2 vs2.toArray) ∧
        Fr h₀ L h' m ∧ h'.Ns Ca m' ∧ h'.get? Da = some (PyProof.Rows.LCg.lst ys) ∧ News h₀ L h' news ∧ IntsAre ys ((List.zipWith f ns1 ns2).take i)) ?_ (n + 1)
      ⟨h₁, _, 0, [], _, rfl, Nat.zero_le _, rfl, ⟨old _ _ hz, old _ _ hTI, ⟨_, _, old _ _ hTO⟩, hi1.at fun o e => old _ o e, hi2.at fun o e => old _ o e, hl1.at fun o e => old _ o e, hl2.at fun o e => old _ o e⟩,
        F.keeps old, hns₁, hacc, fun p hp => ⟨old _ _ (N p hp).1, (N p hp).2⟩, by rw [List.take_zero]; exact .nil⟩
    rintro k s' ⟨h', tk, i, ys, m', rfl, hi, rfl, hst, F', hn', hD', N', iy⟩
    have hyl : ys.length = i := by rw [iy.length, List.length_take, hnn]; omega
    -- what lies off the walk's own objects
    have offW : ∀ c : Nat, c < I₀ ∨ Da ≤ c → c ∉ [I₀ + 4, I₀ + 3, I₀, I₀ + 1] := by
      intro c hc hm
      simp only [List.mem_cons, List.not_mem_nil, or_false] at hm
      omega
    by_cases hlt : i < n
    · refine W.item i _ _ _ hlt hst fun v h₂ tk₂ hMd hk₂ => ?_
      refine W.go i v _ _ _ hMd fun h₃ hP hst₃ hk₃ => ?_
      obtain ⟨T, vals, rfl, ⟨x, y, hx, hy, rfl⟩, hT⟩ := hP
      obtain ⟨x, tx, rfl, hx'⟩ := iv1.at i x (by simpa using hx)
      obtain ⟨y, ty, rfl, hy'⟩ := iv2.at i y (by simpa using hy)
      have up₃ : ∀ c o, (@LT.lt Nat _ c I₀ ∨ @LE.le Nat _ Da c) → h'.get? c = some o → h₃.get? c = some o := fun c o hc e => hk₃ c o (offW c hc) (hk₂ c o (offW c hc) e)
      refine kcp_assign (env := compEnvC scope cl Ca env) hh hT (lookup_relabel_local hxa) (lookup_relabel_local hxb) (by simp [compEnvC, relabel, hkind]) (hn'.at' fun o e => up₃ _ o (.inr (by rw [hCn]; exact Nat.le_succ _)) e) fun h₄ tk₄ hn₄ hs₄ => ?_
      have up₄ : ∀ c o, (@LT.lt Nat _ c I₀ ∨ c = Da) → h'.get? c = some o → h₄.get? c = some o := fun c o hc e => hs₄ c o (by
        show ¬ @Eq Nat c Ca
        rcases hc with hc | hc
        · omega
        · omega) (up₃ c o (by rcases hc with hc | hc; exact .inl hc; exact .inr (Nat.le_of_eq hc.symm)) e)
      have hst₄ := W.frame (i + 1) h₃ h₄ hst₃ fun c hc o e => hs₄ c o (by
        simp only [List.mem_cons, List.not_mem_nil, or_false] at hc
        show ¬ @Eq Nat c Ca
        rcases hc with rfl | rfl | rfl | rfl | rfl | rfl | rfl <;> omega) e
      refine helt Ca _ x y tx ty _ _ _ hn₄ (by simp [hab]) (by simp) fun t tk₅ => ?_
      refine append_at (hsz := by show ys.toArray.size ≤ sizeLine; rw [List.size_toArray, hyl]; exact Nat.le_trans hi hnz) (up₄ Da _ (.inr rfl) hD') fun h₆ hs₆ hD₆ => ?_
      have up₆ : ∀ c o, @LT.lt Nat _ c I₀ → h'.get? c = some o → h₆.get? c = some o := fun c o hc e => hs₆.extBut c o (by
        show ¬ @Eq Nat c Da
        omega) (up₄ c o (.inl hc) e)
      have up₀ : ∀ c o, h₀.get? c = some o → @LT.lt Nat _ c I₀ := fun c o e => by
        by_cases hc : @LT.lt Nat _ c I₀
        · exact hc
        · rw [hI' c (Nat.le_of_not_lt hc)] at e; cases e
      refine ⟨n + 1 - (i + 1), by omega, h₆, _, i + 1, ys ++ [.int (f x y) t], _, rfl, hlt, rfl, ?_, ⟨F'.ns.at' fun o e => up₆ _ o hL e, fun c o e => up₆ c o (up₀ c o e) (F'.keep c o e), F'.above⟩,
        hn₄.sameBut hs₆ (by show ¬ @Eq Nat Ca Da; omega), hD₆.trans (congrArg some (PyProof.Rows.LCg.lst_snoc ys _)), fun p hp => ⟨up₆ _ _ (hN p hp) (N' p hp).1, (N' p hp).2⟩, ?_⟩
      · exact W.frame (i + 1) h₄ h₆ hst₄ fun c hc o e => hs₆.extBut c o (by
          simp only [List.mem_cons, List.not_mem_nil, or_false] at hc
          show ¬ @Eq Nat c Da
          rcases hc with rfl | rfl | rfl | rfl | rfl | rfl | rfl <;> omega) e
      · rw [List.take_add_one, zipWith_at hx' hy']
        exact iy.append (.cons _ t .nil)
    · have hin : i = n := Nat.le_antisymm hi (Nat.not_lt.mp hlt)
      subst hin
      rw [List.take_of_length_le (Nat.le_of_eq hnn)] at iy
      refine W.done _ _ _ hst fun h₂ tk₂ hk₂ => ?_
      have up : ∀ c o, (@LT.lt Nat _ c I₀ ∨ @LE.le Nat _ Da c) → h'.get? c = some o → h₂.get? c = some o := fun c o hc e => hk₂ c o (offW c hc) e
      have up₀ : ∀ c o, h₀.get? c = some o → @LT.lt Nat _ c I₀ := fun c o e => by
        by_cases hc : @LT.lt Nat _ c I₀
        · exact hc
        · rw [hI' c (Nat.le_of_not_lt hc)] at e; cases e
      refine ⟨m', hn'.at' fun o e => up _ o (.inr (by omega)) e, fun h'' hs'' => ?_⟩
      have up2 : ∀ c o, @LT.lt Nat _ c I₀ → h'.get? c = some o → h''.get? c = some o := fun c o hc e => hs''.extBut c o (by
        show ¬ @Eq Nat c Ca
        omega) (up c o (.inl hc) e)
      refine fin Da ys h'' _ ⟨F'.ns.at' fun o e => up2 _ o hL e, fun c o e => up2 c o (up₀ c o e) (F'.keep c o e), F'.above⟩ (fun p hp => ?_) (fun p hp => Nat.lt_of_lt_of_le (hN p hp) (by omega)) iy
      rcases List.mem_cons.mp hp with rfl | hp
      · refine ⟨hs''.extBut _ _ (by show ¬ @Eq Nat Da Ca; omega) (up _ _ (.inr (Nat.le_refl _)) hD'), ?_, hI' _ (by omega)⟩
        show ¬ @Eq Nat Da L
        omega
      · exact ⟨up2 _ _ (hN p hp) (N' p hp).1, (N' p hp).2⟩
  exact codeAny_compStart_list (loop _ rfl) (wpAny_pyIter_zip (old _ _ hz) (loop _ rfl))

theorem kz_helt {f : Int → Int → Int} {a b : Str} {pa pb ep : Pos} {op : Operator} {scope : Scope} {cl : List (Str × Addr)} (hk : ∀ C, (compEnvC scope cl C env).scope.kind = .function) (ha : ∀ C, (compEnvC scope cl C env).kindOf a = some .local) (hb : ∀ C, (compEnvC scope cl C env).kindOf b = some .local)
    (da : (a == ("__debug__" : Str)) = false) (db : (b == ("__debug__" : Str)) = false)
    (hop : ∀ (x y : Int) (t u : Tok) (s' : Shared) (Q' : Value → Shared → Prop) (E' : Value → Shared → Prop), (∀ t' tk, Q' (.int (f x y) t') { s' with toks := tk }) → wpAny (model prog w) A (binaryOp op (.int x t) (.int y u)) Q' E' s') :
    ∀ (C : Addr) (m₂ : Str → Option Value) (x y : Int) (tx ty : Tok) (s' : Shared) (Q' : Value → Shared → Prop) (E' : Value → Shared → Prop), s'.heap.Ns C m₂ → m₂ a = some (.int x tx) → m₂ b = some (.int y ty) →
      (∀ t tk, Q' (.int (f x y) t) { s' with toks := tk }) → wpAny (model prog w) A (eval (.BinOp (.Name a pa) op (.Name b pb) ep) (compEnvC scope cl C env)) Q' E' s' := by
  intro C m₂ x y tx ty s' Q' E' hn h1 h2 hq
  exact wpAny_BinOp (wpAny_Name (wpAny_loadName_local (hk C) (ha C) hn h1 (wpAny_Name (wpAny_loadName_local (hk C) (hb C) hn h2 (hop _ _ _ _ _ _ _ hq)) db)) da)
theorem kz_call {l1 l2 : Addr} {vs1 vs2 : List Value} {c1 c2 : Nat} {ns1 ns2 : List Int} {news : Led} {f : Int → Int → Int} {Q : Value → Shared → Prop} (hh : A.handled = none) (F : Fr h₀ L s.heap m) (N : News h₀ L s.heap news)
    (hm1 : (l1, listOf (List.toArray vs1) c1) ∈ news) (hm2 : (l2, listOf (List.toArray vs2) c2) ∈ news) (i1 : IntsAre vs1 ns1) (i2 : IntsAre vs2 ns2) (hz : ns1.length ≤ 1000)
    (h : ∀ D ys h tk, Fr h₀ L h m → News h₀ L h ((D, PyProof.Rows.LCg.lst ys) :: news) → (∀ p ∈ news, @LT.lt Nat _ p.1 D) → IntsAre ys (List.zipWith f ns1 ns2) → Q (.ref D) { s with heap := h, toks := tk }) :
    wpAny (model prog w) A (call (.type "zip") [.ref l1, .ref l2]) (fun xv s₁ => KzSrc prog w A h₀ L m f Q xv s₁) E s := by
  have hl1 : s.heap.IsList l1 vs1.toArray := ⟨_, (N _ hm1).1, rfl, c1, rfl⟩
  have hl2 : s.heap.IsList l2 vs2.toArray := ⟨_, (N _ hm2).1, rfl, c2, rfl⟩
  have hlt1 : l1 < s.heap.objs.size := Heap.lt_size (N _ hm1).1
  have hlt2 : l2 < s.heap.objs.size := Heap.lt_size (N _ hm2).1
  refine call_zip_2 hl1 hl2 fun h' hz' hTI hTO hi1 hi2 hsz hk => ?_
  exact ⟨s.heap.objs.size, news, l1, l2, vs1, vs2, ns1, ns2, rfl, hh, ktu_apart _ _ _ hlt1 hlt2, hz', hTI, hTO, hi1, hi2, hl1.at fun o e => hk _ o e, hl2.at fun o e => hk _ o e, F.keeps hk, N.grown hk, F.ns.lt, fun p hp => Heap.lt_size (N p hp).1,
    fun b hb => ktu_new F hb, Nat.le_of_eq hsz.symm, hlt1, hlt2, i1, i2, by rw [i1.length, sizeLine_eq]; omega, h⟩
end

theorem pk0 {X R : Prop} (h : X ∧ R) : X := h.1
theorem pk1 {P X R : Prop} (h : P ∧ X ∧ R) : X := h.2.1
theorem pk2 {P Q X R : Prop} (h : P ∧ Q ∧ X ∧ R) : X := h.2.2.1
theorem pk3 {P Q S X R : Prop} (h : P ∧ Q ∧ S ∧ X ∧ R) : X := h.2.2.2.1
theorem pk4 {P Q S T X R : Prop} (h : P ∧ Q ∧ S ∧ T ∧ X ∧ R) : X := h.2.2.2.2.1
theorem pk5 {P Q S T U X R : Prop} (h : P ∧ Q ∧ S ∧ T ∧ U ∧ X ∧ R) : X := h.2.2.2.2.2.1
theorem pk6 {P Q S T U V X R : Prop} (h : P ∧ Q ∧ S ∧ T ∧ U ∧ V ∧ X ∧ R) : X := h.2.2.2.2.2.2.1
theorem pl1 {P X : Prop} (h : P ∧ X) : X := h.2
theorem pl2 {P Q X : Prop} (h : P ∧ Q ∧ X) : X := h.2.2
theorem pl3 {P Q S X : Prop} (h : P ∧ Q ∧ S ∧ X) : X := h.2.2.2
theorem pl4 {P Q S T X : Prop} (h : P ∧ Q ∧ S ∧ T ∧ X) : X := h.2.2.2.2
theorem pl5 {P Q S T U X : Prop} (h : P ∧ Q ∧ S ∧ T ∧ U ∧ X) : X := h.2.2.2.2.2
theorem int_le_of {a b c : Int} (h : b ≤ c) (hab : a ≤ b) : a ≤ c := Int.le_trans hab h
theorem int_lt_of {a b c : Int} (h : b ≤ c) (hab : a < b) : a < c := Int.lt_of_lt_of_le hab h
theorem nat_le_of {a b c : Nat} (h : b ≤ c) (hab : a ≤ b) : a ≤ c := Nat.le_trans hab h
theorem lp_lt {k a b : Int} {p : Nat} (h1 : k = a + (p : Int)) (h2 : p < (b - a).toNat) : k < b := by omega
theorem lp_sz' {A B p l : Nat} (h1 : B = A) (h2 : A = p) (h3 : p < ((l : Int) - 0).toNat) (h4 : l < 100) : B ≤ 16777216 := by omega

-- part La
local macro_rules | `(tactic| omega) => `(tactic| k_extra "m_om")
local macro_rules | `(tactic| k_ne) => `(tactic| k_extra "m_ne")
theorem rows2 : True := by
  k_with_none
  k_with "ct" => ((case k6 => k_is); (case k7 => k_is); (case k9 => (intro s; exact BindsTo.of_eq rfl)); (case kB => exact locs rfl); (case c5 => decide); (case c2 => exact rfl); (case c3 => exact rfl); (case c4 => exact rfl); (case c6 => decide))
  k_with "ctc" => ((case k6 => k_is); (case k7 => k_is); (case k9 => (intro s; exact BindsTo.of_eq rfl)); (case kB => exact rfl); (case kD => decide +kernel); (case c2 => exact rfl); (case c3 => exact rfl); (case c4 => exact rfl); (case c6 => decide))
  k_with "m_mem" => first | exact List.mem_cons_self | (refine List.mem_cons_of_mem _ ?_; k_extra "m_mem")
  k_with "m_sub" => first | exact True.intro | (refine' And.intro ?zzm1 ?zzm2; (case zzm1 => first | (with_reducible k_extra "m_mem") | k_mem); (case zzm2 => k_extra "m_sub"))
  k_with "PEnd" => (refine' pend ?zzF ?zzN ?zzS ?_ ?zzE; (case zzF => k_asm); (case zzN => k_asm); (case zzS => k_extra "m_sub"); (case zzE => exact rfl); (try dsimp only))
  k_with "SRes" => (refine' sres_of ?zzm1 ?zzm2 ?zzm3 ?_ ?_; (case zzm1 => k_mem); (case zzm2 => k_mem); (case zzm3 => k_asm))
  k_with "LRes" => (refine' lres_of ?zzm2 ?zzm3 ?_; (case zzm2 => k_mem); (case zzm3 => first | k_asm | exact IntsAre.nil | l_ints))
  k_with "LRes" => (refine' lres_push ?zzm2 ?zzm3 ?_; (case zzm2 => k_mem); (case zzm3 => k_asm))
  k_with "IRes" => (refine' ires_of ?_)
  k_with "ORes" => first | refine' ores_none ?_ | refine' ores_some ?_
  k_with "BRes" => (refine' bres_of ?_)
  k_with "binaryOp FloorDiv int int" => (k_here; k_dflt (refine' fdiv_gen ?zza ?zzb ?zzc ?_; (case zza => omega); (case zzb => omega); (case zzc => omega)); intro _ _ _ _)
  k_with "binaryOp Mod int int" => (k_here; k_dflt (refine' fmod_gen ?zza ?zzb ?_; (case zza => omega); (case zzb => omega)); intro _ _ _ _)
  k_with "binaryOp FloorDiv int int" => (k_here; k_dflt (refine' fdiv_known ?zze ?zzb ?zzc ?_; (case zze => assumption); (case zzb => omega); (case zzc => omega)))
  k_with "binaryOp Mod int int" => (k_here; k_dflt (refine' fmod_known ?zze ?zzb ?_; (case zze => assumption); (case zzb => omega)))
  k_with "m_abs" => first | omega | exact LimbB.abs (by assumption) (by assumption) | exact LimbB.absAt (by assumption) _
  k_with "binaryOp LShift int int" => (k_here; k_dflt (refine' lshift_int_small ?zza ?zzb ?zzc ?_; (case zza => omega); (case zzb => omega); (case zzc => k_extra "m_abs")))
  k_with "binaryOp RShift int int" => (k_here; k_dflt (refine' rshift_int ?zza ?_; (case zza => omega)))
  k_with "m_use" => ((case zzB => k_asm); (case zzF => k_asm); (case zzX => k_asm); (case zzN => k_asm); (case zzT => k_asm); (case zzK => first | exact rfl | assumption); (case zzS => k_extra "m_sub"); (case zzD => first | exact dlt (by assumption) (by decide) | omega); (case zzU => first | exact ult (by assumption) (by decide) | omega))
  k_with "subscriptTail Name Slice ref ref" => (k_here; k_dflt (refine' kmk_slice_ints ?zzF ?zzN ?zzl ?zzp ?zzq ?zzi ?zzm ?zzc ?_ ?zzs ?zzt ?zzz; (case zzF => k_asm); (case zzN => k_asm); (case zzl => exact News.isList (by k_asm) (by k_mem)); (case zzp => kmk_part); (case zzq => kmk_part); (case zzi => k_asm); (case zzm => first | exact kmk_all (by assumption) | exact kmk_upto (by assumption) (by omega)); (case zzc => kmk_len); (case zzs => with_unfolding_all rfl); (case zzt => kmk_pure); (case zzz => exact kmk_sz (by assumption) (by rw [sizeLine_eq]; omega))); intro _ _ _ _ _ l1 _ _ _; (try k_lt l1); (try k_sweep))
  k_with "InvEndN" => k_dflt kst_close
  k_with "m_pick" => first | assumption | exact pk0 (by assumption) | exact pk1 (by assumption) | exact pk2 (by assumption) | exact pk3 (by assumption) | exact pl1 (by assumption) | exact pl2 (by assumption) | exact pl3 (by assumption) | exact pl4 (by assumption) | exact pl5 (by assumption) | exact pk4 (by assumption) | exact pk5 (by assumption) | exact pk6 (by assumption)
  k_with "m_ne" => (refine neN ?_; (try dsimp only); with_reducible first | exact Nat.ne_of_lt (by k_extra "m_pick") | exact Nat.ne_of_gt (by k_extra "m_pick") | k_extra "m_pick" | exact Ne.symm (by k_extra "m_pick") | omega)
  k_with "m_om" => first | with_reducible assumption | exact Nat.lt_of_lt_of_le (by with_reducible assumption) (by decide) | exact Nat.le_trans (by with_reducible assumption) (by decide) | exact Nat.lt_of_le_of_lt (by with_reducible assumption) (by decide) | exact Int.lt_of_lt_of_le (by with_reducible assumption) (by decide) | exact Int.le_trans (by with_reducible assumption) (by decide) | exact Int.lt_of_le_of_lt (by with_reducible assumption) (by decide) | exact int_le_of (by with_reducible assumption) (by decide) | exact int_lt_of (by with_reducible assumption) (by decide) | exact nat_le_of (by with_reducible assumption) (by decide) | exact lp_lt (by with_reducible assumption) (by with_reducible assumption) | exact lp_sz' (by with_reducible assumption) (by with_reducible assumption) (by with_reducible assumption) (by with_reducible assumption)
  k_with "m_bnd" => first | omega | assumption | exact LimbB.nonneg (by assumption) (by assumption) | (refine Nat.lt_of_le_of_lt (normL_len _) ?_; k_extra "m_bnd") | (simp only [rangeKs_length, List.length_append, List.length_cons, List.length_nil, List.length_take, List.length_map] at *; omega)
  exact True.intro
theorem ct_joint_size {x lx y ly : Addr} {bx bY : Bool} {cx clx cy cly : Nat} {xs ys : List Value} {nx ny : List Int}
    (ix : IntsAre xs nx) (iy : IntsAre ys ny) (hx : nx.length < 100) (hy : ny.length < 100) :
    Ct w mean mg mb 1 119 [.ref x, .ref y] [(x, tupS bx lx cx), (lx, listOf xs.toArray clx), (y, tupS bY ly cy), (ly, listOf ys.toArray cly)] (IRes ((max nx.length ny.length + 1 : Nat) : Int)) := by
  k_dflt (refine' ct_of (binds := [(PySem.Str.ofString "x", .ref x), (PySem.Str.ofString "y", .ref y)]) ?k6 ?k7 ?k9 ?kB ?c5 ?c2 ?c3 ?c4 ?_ ?c6)
  walk_at "ct"
  intro dp un gd outer A₀ base g L' s hd1 hu F N B XK T hl
  (try simp only [List.reverse_cons, List.reverse_nil, List.nil_append, List.cons_append] at F)
  k_fold
  k_steps
  omega
theorem ct_signed {l : Addr} {b : Bool} {cl : Nat} {ls : List Value} {ns : List Int}
    (ix : IntsAre ls ns) (hx : ns.length < 100) :
    Ct w mean mg mb 1 209 [.bool b, .ref l] [(l, listOf ls.toArray cl)] (SRes (b && decide (0 < ns.length)) ns) := by
  k_dflt (refine' ct_of (binds := [(PySem.Str.ofString "is_below", .bool b), (PySem.Str.ofString "nat", .ref l)]) ?k6 ?k7 ?k9 ?kB ?c5 ?c2 ?c3 ?c4 ?_ ?c6)
  walk_at "ct"
  intro dp un gd outer A₀ base g L' s hd1 hu F N B XK T hl
  (try simp only [List.reverse_cons, List.reverse_nil, List.nil_append, List.cons_append] at F)
  k_fold
  k_steps
  · have hb : b = true := by assumption
    subst hb
    rw [Bool.true_and]
    congr 1
    rw [eq_iff_iff]
    omega
  · have hb : b = false := by assumption
    subst hb
    rfl
theorem ct_normal {la : Addr} {ca : Nat} {as : List Value} {na : List Int}
    (ia : IntsAre as na) (hx : na.length < 100) :
    Ct w mean mg mb 1 46 [.ref la] [(la, listOf as.toArray ca)] (LRes (normL na)) := by
  k_dflt (refine' ct_of (binds := [(PySem.Str.ofString "a", .ref la)]) ?k6 ?k7 ?k9 ?kB ?c5 ?c2 ?c3 ?c4 ?_ ?c6)
  walk_at "ct"
  intro dp un gd outer A₀ base g L' s hd1 hu F N B XK T hl
  (try simp only [List.reverse_cons, List.reverse_nil, List.nil_append, List.cons_append] at F)
  k_fold
  k_with "state" => exact ⟨by omega, by omega, norm_turn (by assumption) (by omega) (by omega) (by assumption)⟩
  k_with "exec While Compare cons nil" => k_dflt (k_while (fun _ e => 0 ≤ e ∧ e ≤ na.length ∧ normL na = normL (na.take e.toNat)) (fun _ e => e.toNat) "end")
  k_with "exec While BoolOp cons nil" => k_dflt (k_while (fun _ e => 0 ≤ e ∧ e ≤ na.length ∧ normL na = normL (na.take e.toNat)) (fun _ e => e.toNat) "end")
  k_steps
  · exact norm_end (by assumption) (by assumption) (by assumption) (by assumption)
  · exact norm_end0 (by assumption) (by assumption)
theorem swap_Fr {g h : Heap} {L : Addr} {a b x u v : Value} {na nb nw : Str} (h1 : ¬ nw = nb) (h2 : ¬ nw = na) (h3 : ¬ na = nb)
    (F : Fr g L h (fun z => if z = na then some u else if z = nb then some v else List.lookup z [(nw, x), (nb, b), (na, a)])) : Fr g L h (fun z => List.lookup z [(nw, x), (nb, v), (na, u)]) := by
  have e : (fun z => if z = na then some u else if z = nb then some v else List.lookup z [(nw, x), (nb, b), (na, a)]) = fun z => List.lookup z [(nw, x), (nb, v), (na, u)] := by
    funext z
    simp only [List.lookup_cons, List.lookup_nil]
    by_cases hw : z = nw
    · subst hw
      rw [if_neg h1, if_neg h2]
      simp
    · rw [beq_eq_false_iff_ne.mpr hw]
      by_cases hb : z = nb
      · subst hb
        rw [if_neg (Ne.symm h3), if_pos rfl]
        simp
      · rw [if_neg hb, beq_eq_false_iff_ne.mpr hb]
        by_cases ha : z = na
        · subst ha
          rw [if_pos rfl]
          simp
        · rw [if_neg ha, beq_eq_false_iff_ne.mpr ha]
  rw [← e]; exact F
theorem news_sub {g h : Heap} {L : Addr} {k l : Led} (N : News g L h l) (hs : Sub k l) : News g L h k := fun p hp => N p (hs.all p hp)
theorem ct_addX {la lb : Addr} {ca cb : Nat} {as bs : List Value} {na nb : List Int} {W : Int} {tw : Tok}
    (ia : IntsAre as na) (ib : IntsAre bs nb) (hx : na.length < 100) (hy : nb.length < 100) (hw : 2 ≤ W) (hw' : W ≤ 9) :
    Ct w mean mg mb 1 60 [.ref la, .ref lb, .int W tw] [(la, listOf as.toArray ca), (lb, listOf bs.toArray cb)] (LRes (addX W na nb)) := by
  k_dflt (refine' ct_of (binds := [(PySem.Str.ofString "a", .ref la), (PySem.Str.ofString "b", .ref lb), (PySem.Str.ofString "w", .int W tw)]) ?k6 ?k7 ?k9 ?kB ?c5 ?c2 ?c3 ?c4 ?_ ?c6)
  walk_at "ct"
  intro dp un gd outer A₀ base g L' s hd1 hu F N B XK T hl
  (try simp only [List.reverse_cons, List.reverse_nil, List.nil_append, List.cons_append] at F)
  k_fold
  walk1
  k_fold
  have gen : ∀ (la' lb' : Addr) (ca' cb' : Nat) (as' bs' : List Value) (na' nb' : List Int) (h : Heap) (tk : Nat), IntsAre as' na' → IntsAre bs' nb' → na'.length < 100 → nb'.length < 100 → ¬ (na'.length : Int) < nb'.length → addL W na' nb' = addX W na nb →
      Fr g L' h (fun y => List.lookup y [(Str.ofString "w", .int W tw), (Str.ofString "b", .ref lb'), (Str.ofString "a", .ref la')]) →
      News g L' h [(la', listOf as'.toArray ca'), (lb', listOf bs'.toArray cb'), (la, listOf as.toArray ca), (lb, listOf bs.toArray cb)] → qk Flow.next { s with heap := h, toks := tk } := by
    clear ia ib hx hy F N hl
    intro la' lb' ca' cb' as' bs' na' nb' h tk ia ib hx hy hlt he F N
    k_with "state" => exact add_t1 (by assumption) (by assumption) (by assumption) (by assumption)
    k_with "state" => exact add_t2 (by assumption) (by assumption) (by assumption) (by assumption)
    k_with "pyIter ref" => k_dflt (k_state (fun (pre : List Int) (found : List Int) carry => found = (runA W (fun c n => c + (na'.getD n 0 + nb'.getD n 0)) 0 (nb'.length + pre.length)).1 ∧ carry = (runA W (fun c n => c + (na'.getD n 0 + nb'.getD n 0)) 0 (nb'.length + pre.length)).2 ∧ found.length = nb'.length + pre.length) "found" "carry")
    k_with "pyIter ref" => k_dflt (((rename IsRange _ _ _ _ _ _ _ _ => rgX); (with_reducible have rgY : IsRange _ _ 0 _ 1 _ _ _ := rgX); clear rgY; k_state (fun (pre : List Int) (found : List Int) carry => found = (runA W (fun c n => c + (na'.getD n 0 + nb'.getD n 0)) 0 pre.length).1 ∧ carry = (runA W (fun c n => c + (na'.getD n 0 + nb'.getD n 0)) 0 pre.length).2 ∧ found.length = pre.length) "found" "carry"))
    k_steps
    · rw [← he, add_end (by assumption) (by assumption) rfl hlt, if_pos (by assumption)]
    · rw [← he, add_end (by assumption) (by assumption) rfl hlt, if_neg (by assumption)]
  clear_value qk
  k_steps
  all_goals (try dsimp only)
  · exact gen lb la cb ca bs as nb na _ _ ib ia hy hx (by omega) (by rw [addX, if_pos (by assumption)]) (swap_Fr (by decide) (by decide) (by decide) (by assumption)) (news_sub (by assumption) (by k_extra "m_sub"))
  · exact gen la lb ca cb as bs na nb _ _ ia ib hx hy (by assumption) (by rw [addX, if_neg (by assumption)]) (by assumption) (news_sub (by assumption) (by k_extra "m_sub"))
theorem ct_add_limb {la : Addr} {ca : Nat} {as : List Value} {na : List Int} {W i : Int} {tw ti : Tok}
    (ia : IntsAre as na) (hx : na.length < 100) (hw : 2 ≤ W) (hw' : W ≤ 9) :
    Ct w mean mg mb 1 74 [.ref la, .int i ti, .int W tw] [(la, listOf as.toArray ca)] (LRes (addlL W na i)) := by
  k_dflt (refine' ct_of (binds := [(PySem.Str.ofString "a", .ref la), (PySem.Str.ofString "limb", .int i ti), (PySem.Str.ofString "w", .int W tw)]) ?k6 ?k7 ?k9 ?kB ?c5 ?c2 ?c3 ?c4 ?_ ?c6)
  walk_at "ct"
  intro dp un gd outer A₀ base g L' s hd1 hu F N B XK T hl
  (try simp only [List.reverse_cons, List.reverse_nil, List.nil_append, List.cons_append] at F)
  k_fold
  k_with "state" => exact addl_t (by assumption) (by assumption) (by assumption) (by assumption)
  k_with "pyIter ref" => k_dflt (k_state (fun (pre : List Int) (found : List Int) carry => found = (runA W (fun c n => c + na.getD n 0) i pre.length).1 ∧ carry = (runA W (fun c n => c + na.getD n 0) i pre.length).2 ∧ found.length = pre.length) "found" "limb")
  k_steps
  · rw [addlL, topL, if_pos (by rw [← ‹_ = (runA W (fun c n => c + na.getD n 0) i na.length).2›]; assumption)]
    congr 1
    congr 1
  · rw [addlL, topL, if_neg (by rw [← ‹_ = (runA W (fun c n => c + na.getD n 0) i na.length).2›]; assumption)]
    assumption
theorem ct_shift_left {la : Addr} {ca : Nat} {as : List Value} {na : List Int} {W n q r : Int} {tw tn : Tok}
    (ia : IntsAre as na) (hb : LimbB na) (hx : na.length < 100) (hw : 2 ≤ W) (hw' : W ≤ 9) (hn : 0 ≤ n) (hn' : n < 100) (hq : q = n.fdiv W) (hr : r = n.fmod W) :
    Ct w mean mg mb 1 81 [.ref la, .int n tn, .int W tw] [(la, listOf as.toArray ca)] (LRes (shlL W q r na)) := by
  obtain ⟨hq0, hq1, hr0, hr1⟩ := dm hn hw
  rw [← hq] at hq0 hq1
  rw [← hr] at hr0 hr1
  k_dflt (refine' ct_of (binds := [(PySem.Str.ofString "a", .ref la), (PySem.Str.ofString "n", .int n tn), (PySem.Str.ofString "w", .int W tw)]) ?k6 ?k7 ?k9 ?kB ?c5 ?c2 ?c3 ?c4 ?_ ?c6)
  walk_at "ct"
  intro dp un gd outer A₀ base g L' s hd1 hu F N B XK T hl
  (try simp only [List.reverse_cons, List.reverse_nil, List.nil_append, List.cons_append] at F)
  k_fold
  k_with "state" => exact shl_0
  k_with "state" => exact shl_t (by assumption) (by assumption) (by assumption) (by assumption)
  k_with "pyIter ref" => k_dflt (k_state (fun (pre : List Int) (found : List Int) carry => found = (List.replicate q.toNat [0]).flatten ++ (shlA W r na pre.length).1 ∧ carry = (shlA W r na pre.length).2 ∧ found.length = q.toNat + pre.length) "found" "carry")
  k_steps
  · rw [shlL, if_pos (by omega)]
  · rw [shlL, if_neg (by omega), topL, if_pos (by rw [← ‹_ = (shlA W r na na.length).2›]; assumption), ← List.append_assoc]
    congr 1
    congr 1
  · rw [shlL, if_neg (by omega), topL, if_neg (by rw [← ‹_ = (shlA W r na na.length).2›]; assumption)]
    assumption
theorem ct_bit {la : Addr} {ca : Nat} {as : List Value} {na : List Int} {W n q r : Int} {tw tn : Tok}
    (ia : IntsAre as na) (hb : LimbB na) (hx : na.length < 100) (hw : 2 ≤ W) (hw' : W ≤ 9) (hn : 0 ≤ n) (hn' : n < 100) (hq : q = n.fdiv W) (hr : r = n.fmod W) :
    Ct w mean mg mb 1 95 [.ref la, .int n tn, .int W tw] [(la, listOf as.toArray ca)] (IRes (Builtin.bitAnd ((na.getD q.toNat 0).fdiv (2 ^ r.toNat)) 1)) := by
  obtain ⟨hq0, hq1, hr0, hr1⟩ := dm hn hw
  rw [← hq] at hq0 hq1
  rw [← hr] at hr0 hr1
  k_dflt (refine' ct_of (binds := [(PySem.Str.ofString "a", .ref la), (PySem.Str.ofString "n", .int n tn), (PySem.Str.ofString "w", .int W tw)]) ?k6 ?k7 ?k9 ?kB ?c5 ?c2 ?c3 ?c4 ?_ ?c6)
  walk_at "ct"
  intro dp un gd outer A₀ base g L' s hd1 hu F N B XK T hl
  (try simp only [List.reverse_cons, List.reverse_nil, List.nil_append, List.cons_append] at F)
  k_fold
  k_steps
  rw [← getD_out (by assumption) hq0, Int.zero_fdiv]
  rfl

-- part Lb
theorem rows3 : True := by
  k_with_none
  k_with "ct" => ((case k6 => k_is); (case k7 => k_is); (case k9 => (intro s; exact BindsTo.of_eq rfl)); (case kB => exact locs rfl); (case c5 => decide); (case c2 => exact rfl); (case c3 => exact rfl); (case c4 => exact rfl); (case c6 => decide))
  k_with "ctc" => ((case k6 => k_is); (case k7 => k_is); (case k9 => (intro s; exact BindsTo.of_eq rfl)); (case kB => exact rfl); (case kD => decide +kernel); (case c2 => exact rfl); (case c3 => exact rfl); (case c4 => exact rfl); (case c6 => decide))
  k_with "m_mem" => first | exact List.mem_cons_self | (refine List.mem_cons_of_mem _ ?_; k_extra "m_mem")
  k_with "m_sub" => first | exact True.intro | (refine' And.intro ?zzm1 ?zzm2; (case zzm1 => first | (with_reducible k_extra "m_mem") | k_mem); (case zzm2 => k_extra "m_sub"))
  k_with "PEnd" => (refine' pend ?zzF ?zzN ?zzS ?_ ?zzE; (case zzF => k_asm); (case zzN => k_asm); (case zzS => k_extra "m_sub"); (case zzE => exact rfl); (try dsimp only))
  k_with "SRes" => (refine' sres_of ?zzm1 ?zzm2 ?zzm3 ?_ ?_; (case zzm1 => k_mem); (case zzm2 => k_mem); (case zzm3 => k_asm))
  k_with "LRes" => (refine' lres_of ?zzm2 ?zzm3 ?_; (case zzm2 => k_mem); (case zzm3 => first | k_asm | exact IntsAre.nil | l_ints))
  k_with "LRes" => (refine' lres_push ?zzm2 ?zzm3 ?_; (case zzm2 => k_mem); (case zzm3 => k_asm))
  k_with "IRes" => (refine' ires_of ?_)
  k_with "ORes" => first | refine' ores_none ?_ | refine' ores_some ?_
  k_with "BRes" => (refine' bres_of ?_)
  k_with "binaryOp FloorDiv int int" => (k_here; k_dflt (refine' fdiv_gen ?zza ?zzb ?zzc ?_; (case zza => omega); (case zzb => omega); (case zzc => omega)); intro _ _ _ _)
  k_with "binaryOp Mod int int" => (k_here; k_dflt (refine' fmod_gen ?zza ?zzb ?_; (case zza => omega); (case zzb => omega)); intro _ _ _ _)
  k_with "binaryOp FloorDiv int int" => (k_here; k_dflt (refine' fdiv_known ?zze ?zzb ?zzc ?_; (case zze => assumption); (case zzb => omega); (case zzc => omega)))
  k_with "binaryOp Mod int int" => (k_here; k_dflt (refine' fmod_known ?zze ?zzb ?_; (case zze => assumption); (case zzb => omega)))
  k_with "m_abs" => first | omega | exact LimbB.abs (by assumption) (by assumption) | exact LimbB.absAt (by assumption) _
  k_with "binaryOp LShift int int" => (k_here; k_dflt (refine' lshift_int_small ?zza ?zzb ?zzc ?_; (case zza => omega); (case zzb => omega); (case zzc => k_extra "m_abs")))
  k_with "binaryOp RShift int int" => (k_here; k_dflt (refine' rshift_int ?zza ?_; (case zza => omega)))
  k_with "m_use" => ((case zzB => k_asm); (case zzF => k_asm); (case zzX => k_asm); (case zzN => k_asm); (case zzT => k_asm); (case zzK => first | exact rfl | assumption); (case zzS => k_extra "m_sub"); (case zzD => first | exact dlt (by assumption) (by decide) | omega); (case zzU => first | exact ult (by assumption) (by decide) | omega))
  k_with "subscriptTail Name Slice ref ref" => (k_here; k_dflt (refine' kmk_slice_ints ?zzF ?zzN ?zzl ?zzp ?zzq ?zzi ?zzm ?zzc ?_ ?zzs ?zzt ?zzz; (case zzF => k_asm); (case zzN => k_asm); (case zzl => exact News.isList (by k_asm) (by k_mem)); (case zzp => kmk_part); (case zzq => kmk_part); (case zzi => k_asm); (case zzm => first | exact kmk_all (by assumption) | exact kmk_upto (by assumption) (by omega)); (case zzc => kmk_len); (case zzs => with_unfolding_all rfl); (case zzt => kmk_pure); (case zzz => exact kmk_sz (by assumption) (by rw [sizeLine_eq]; omega))); intro _ _ _ _ _ l1 _ _ _; (try k_lt l1); (try k_sweep))
  k_with "InvEndN" => k_dflt kst_close
  k_with "m_pick" => first | assumption | exact pk0 (by assumption) | exact pk1 (by assumption) | exact pk2 (by assumption) | exact pk3 (by assumption) | exact pl1 (by assumption) | exact pl2 (by assumption) | exact pl3 (by assumption) | exact pl4 (by assumption) | exact pl5 (by assumption) | exact pk4 (by assumption) | exact pk5 (by assumption) | exact pk6 (by assumption)
  k_with "m_ne" => (refine neN ?_; (try dsimp only); with_reducible first | exact Nat.ne_of_lt (by k_extra "m_pick") | exact Nat.ne_of_gt (by k_extra "m_pick") | k_extra "m_pick" | exact Ne.symm (by k_extra "m_pick") | omega)
  k_with "m_om" => first | with_reducible assumption | exact Nat.lt_of_lt_of_le (by with_reducible assumption) (by decide) | exact Nat.le_trans (by with_reducible assumption) (by decide) | exact Nat.lt_of_le_of_lt (by with_reducible assumption) (by decide) | exact Int.lt_of_lt_of_le (by with_reducible assumption) (by decide) | exact Int.le_trans (by with_reducible assumption) (by decide) | exact Int.lt_of_le_of_lt (by with_reducible assumption) (by decide) | exact int_le_of (by with_reducible assumption) (by decide) | exact int_lt_of (by with_reducible assumption) (by decide) | exact nat_le_of (by with_reducible assumption) (by decide) | exact lp_lt (by with_reducible assumption) (by with_reducible assumption) | exact lp_sz' (by with_reducible assumption) (by with_reducible assumption) (by with_reducible assumption) (by with_reducible assumption)
  k_with "m_bnd" => first | omega | assumption | exact LimbB.nonneg (by assumption) (by assumption) | (refine Nat.lt_of_le_of_lt (normL_len _) ?_; k_extra "m_bnd") | (simp only [rangeKs_length, List.length_append, List.length_cons, List.length_nil, List.length_take, List.length_map] at *; omega)
  k_with "call ref" => (k_here; (with_reducible show wpAny _ _ (call (Value.ref 46) _ _) _ _ _); k_dflt (refine' use_L ?zzB ?zzF ?zzX ?zzN ?zzT ?zzK (ct_normal ?zzi1 ?zzb1) ?zzS ?zzD ?zzU ?_; (k_extra "m_use"); (case zzi1 => k_asm); (case zzb1 => k_extra "m_bnd")); intro _ _ _ _ _ _ _ _; (try k_sweep))
  exact True.intro
theorem ct_low {la : Addr} {ca : Nat} {as : List Value} {na : List Int} {W n q r : Int} {tw tn : Tok}
    (ia : IntsAre as na) (hx : na.length < 100) (hw : 2 ≤ W) (hw' : W ≤ 9) (hn : 0 ≤ n) (hn' : n < 100) (hq : q = n.fdiv W) (hr : r = n.fmod W) :
    Ct w mean mg mb 2 102 [.ref la, .int n tn, .int W tw] [(la, listOf as.toArray ca)] (LRes (if q < na.length then normL (na.take q.toNat ++ [Builtin.bitAnd (na.getD q.toNat 0) (1 * 2 ^ r.toNat - 1)]) else na)) := by
  obtain ⟨hq0, hq1, hr0, hr1⟩ := dm hn hw
  rw [← hq] at hq0 hq1
  rw [← hr] at hr0 hr1
  k_dflt (refine' ct_of (binds := [(PySem.Str.ofString "a", .ref la), (PySem.Str.ofString "n", .int n tn), (PySem.Str.ofString "w", .int W tw)]) ?k6 ?k7 ?k9 ?kB ?c5 ?c2 ?c3 ?c4 ?_ ?c6)
  walk_at "ct"
  intro dp un gd outer A₀ base g L' s hd1 hu F N B XK T hl
  (try simp only [List.reverse_cons, List.reverse_nil, List.nil_append, List.cons_append] at F)
  k_fold
  k_steps
  · rw [if_neg (by omega)]
  · rw [if_pos (by omega)]
theorem ct_shift_right {la : Addr} {ca : Nat} {as : List Value} {na : List Int} {W n q r : Int} {tw tn : Tok}
    (ia : IntsAre as na) (hb : LimbB na) (hx : na.length < 100) (hw : 2 ≤ W) (hw' : W ≤ 9) (hn : 0 ≤ n) (hn' : n < 100) (hq : q = n.fdiv W) (hr : r = n.fmod W) :
    Ct w mean mg mb 2 88 [.ref la, .int n tn, .int W tw] [(la, listOf as.toArray ca)] (LRes (normL (shrA W q r na (na.length - q).toNat))) := by
  obtain ⟨hq0, hq1, hr0, hr1⟩ := dm hn hw
  rw [← hq] at hq0 hq1
  rw [← hr] at hr0 hr1
  k_dflt (refine' ct_of (binds := [(PySem.Str.ofString "a", .ref la), (PySem.Str.ofString "n", .int n tn), (PySem.Str.ofString "w", .int W tw)]) ?k6 ?k7 ?k9 ?kB ?c5 ?c2 ?c3 ?c4 ?_ ?c6)
  walk_at "ct"
  intro dp un gd outer A₀ base g L' s hd1 hu F N B XK T hl
  (try simp only [List.reverse_cons, List.reverse_nil, List.nil_append, List.cons_append] at F)
  k_fold
  k_with "state" => exact shr_t (by assumption) (by assumption) (by assumption) hq0 rfl
  k_with "state" => exact shr_t (by assumption) (by assumption) (by assumption) hq0 (getD_out1 (by assumption) (by omega))
  k_with "pyIter ref" => k_dflt (k_state (fun (pre : List Int) (found : List Int) => found = shrA W q r na pre.length ∧ found.length = pre.length) "found")
  k_steps
  congr 1
  rw [← rangeKs_length q ((na.length : Int) - q).toNat]
  assumption
theorem ct_compare {la lb : Addr} {ca cb : Nat} {as bs : List Value} {na nb : List Int}
    (ia : IntsAre as na) (ib : IntsAre bs nb) (hx : na.length < 100) (hy : nb.length < 100) :
    Ct w mean mg mb 1 53 [.ref la, .ref lb] [(la, listOf as.toArray ca), (lb, listOf bs.toArray cb)] (IRes (cmpL na nb)) := by
  k_dflt (refine' ct_of (binds := [(PySem.Str.ofString "a", .ref la), (PySem.Str.ofString "b", .ref lb)]) ?k6 ?k7 ?k9 ?kB ?c5 ?c2 ?c3 ?c4 ?_ ?c6)
  walk_at "ct"
  intro dp un gd outer A₀ base g L' s hd1 hu F N B XK T hl
  (try simp only [List.reverse_cons, List.reverse_nil, List.nil_append, List.cons_append] at F)
  k_fold
  k_with "state" => exact cmp_t (by assumption) (by assumption) (by assumption) (by assumption)
  k_with "pyIter ref" => k_dflt (refine hold ?_)
  k_steps
  · rw [cmpL, if_pos (by omega), if_pos (by omega)]
  · rw [cmpL, if_pos (by omega), if_neg (by omega)]
  k_with "state" => exact cmp_t (by assumption) (by assumption) (by assumption) (by assumption)
  unfold Hold
  rename Fr _ _ _ _ => lF'
  rename News _ _ _ _ => lN'
  rename IsRange _ _ _ _ _ _ _ _ => rgX
  with_unfolding_all refine' kst_rangeD (σ := Unit) (fun _ => [(la, listOf as.toArray ca), (lb, listOf bs.toArray cb)]) (fun _ => []) (fun _ => True) [] (fun pre _ => cmpT na nb na.length = cmpT na nb (na.length - pre.length)) () (by rfl) rgX (small_down (by omega) (by omega) (by omega) (by omega)) (rangeSize_downNat _ _) lF' lN' True.intro (List.forall_mem_nil _) rfl ?_ ?_
  · intro kC kPre kN kT kU kH kTk kOwn kEq kLt kOff kFacts kInv kFr kNews
    have kMark := kstMark
    clear lF' lN' rgX
    dsimp only [kstB] at kFr
    simp only [List.cons_append, List.nil_append] at kNews
    (try dsimp only at kInv)
    try k_fold
    k_steps
    · exact cmp_lt (by omega) kInv kEq kLt (by assumption) (by assumption)
    · exact cmp_gt (by omega) kInv kEq kLt (by assumption) (by assumption)
  · intro kC kU kH kTk kFacts kInv kFr kNews
    clear lF' lN' rgX
    dsimp only [kstB] at kFr
    (try dsimp only at kInv kNews)
    try k_fold
    k_steps
    exact cmp_eq (by omega) (by assumption)
theorem rows4 : True := by
  k_with "call ref" => (k_here; (with_reducible show wpAny _ _ (call (Value.ref 53) _ _) _ _ _); k_dflt (refine' use_I ?zzB ?zzF ?zzX ?zzN ?zzT ?zzK (ct_compare ?zzi1 ?zzi2 ?zzb1 ?zzb2) ?zzS ?zzD ?zzU ?_; (k_extra "m_use"); (case zzi1 => k_asm); (case zzi2 => k_asm); (case zzb1 => k_extra "m_bnd"); (case zzb2 => k_extra "m_bnd")); intro _ _ _ _ _; (try k_sweep))
  exact True.intro
theorem ct_sub {la lb : Addr} {ca cb : Nat} {as bs : List Value} {na nb : List Int} {W : Int} {tw : Tok}
    (ia : IntsAre as na) (ib : IntsAre bs nb) (hx : na.length < 100) (hy : nb.length < 100) (hw : 2 ≤ W) (hw' : W ≤ 9) (hc : ¬ cmpL na nb < 0) :
    Ct w mean mg mb 2 67 [.ref la, .ref lb, .int W tw] [(la, listOf as.toArray ca), (lb, listOf bs.toArray cb)] (LRes (normL (subA W na nb na.length).1)) := by
  k_dflt (refine' ct_of (binds := [(PySem.Str.ofString "a", .ref la), (PySem.Str.ofString "b", .ref lb), (PySem.Str.ofString "w", .int W tw)]) ?k6 ?k7 ?k9 ?kB ?c5 ?c2 ?c3 ?c4 ?_ ?c6)
  walk_at "ct"
  intro dp un gd outer A₀ base g L' s hd1 hu F N B XK T hl
  (try simp only [List.reverse_cons, List.reverse_nil, List.nil_append, List.cons_append] at F)
  k_fold
  k_with "pyIter ref" => k_dflt (k_state (fun (pre : List Int) (found : List Int) borrow => found = (subA W na nb pre.length).1 ∧ borrow = (subA W na nb pre.length).2 ∧ found.length = pre.length) "found" "borrow")
  k_with "state" => exact sub_t (by assumption) (by assumption) (by assumption) (by assumption) (getD_out (by assumption) (by omega)) (if_neg (by assumption)).symm (if_neg (by assumption)).symm
  k_with "state" => exact sub_t (by assumption) (by assumption) (by assumption) (by assumption) (getD_out (by assumption) (by omega)) (if_pos (by assumption)).symm (if_pos (by assumption)).symm
  k_with "state" => exact sub_t (by assumption) (by assumption) (by assumption) (by assumption) rfl (if_neg (by assumption)).symm (if_neg (by assumption)).symm
  k_with "state" => exact sub_t (by assumption) (by assumption) (by assumption) (by assumption) rfl (if_pos (by assumption)).symm (if_pos (by assumption)).symm
  k_steps
  · rw [← (show (rangeKs 0 ((na.length : Int) - 0).toNat).length = na.length by rw [rangeKs_length]; omega)]
    congr 1

-- part Lc
theorem rows5 : True := by
  k_with_none
  k_with "ct" => ((case k6 => k_is); (case k7 => k_is); (case k9 => (intro s; exact BindsTo.of_eq rfl)); (case kB => exact locs rfl); (case c5 => decide); (case c2 => exact rfl); (case c3 => exact rfl); (case c4 => exact rfl); (case c6 => decide))
  k_with "ctc" => ((case k6 => k_is); (case k7 => k_is); (case k9 => (intro s; exact BindsTo.of_eq rfl)); (case kB => exact rfl); (case kD => decide +kernel); (case c2 => exact rfl); (case c3 => exact rfl); (case c4 => exact rfl); (case c6 => decide))
  k_with "m_mem" => first | exact List.mem_cons_self | (refine List.mem_cons_of_mem _ ?_; k_extra "m_mem")
  k_with "m_sub" => first | exact True.intro | (refine' And.intro ?zzm1 ?zzm2; (case zzm1 => first | (with_reducible k_extra "m_mem") | k_mem); (case zzm2 => k_extra "m_sub"))
  k_with "PEnd" => (refine' pend ?zzF ?zzN ?zzS ?_ ?zzE; (case zzF => k_asm); (case zzN => k_asm); (case zzS => k_extra "m_sub"); (case zzE => exact rfl); (try dsimp only))
  k_with "SRes" => (refine' sres_of ?zzm1 ?zzm2 ?zzm3 ?_ ?_; (case zzm1 => k_mem); (case zzm2 => k_mem); (case zzm3 => k_asm))
  k_with "LRes" => (refine' lres_of ?zzm2 ?zzm3 ?_; (case zzm2 => k_mem); (case zzm3 => first | k_asm | exact IntsAre.nil | l_ints))
  k_with "LRes" => (refine' lres_push ?zzm2 ?zzm3 ?_; (case zzm2 => k_mem); (case zzm3 => k_asm))
  k_with "IRes" => (refine' ires_of ?_)
  k_with "ORes" => first | refine' ores_none ?_ | refine' ores_some ?_
  k_with "BRes" => (refine' bres_of ?_)
  k_with "binaryOp FloorDiv int int" => (k_here; k_dflt (refine' fdiv_gen ?zza ?zzb ?zzc ?_; (case zza => omega); (case zzb => omega); (case zzc => omega)); intro _ _ _ _)
  k_with "binaryOp Mod int int" => (k_here; k_dflt (refine' fmod_gen ?zza ?zzb ?_; (case zza => omega); (case zzb => omega)); intro _ _ _ _)
  k_with "binaryOp FloorDiv int int" => (k_here; k_dflt (refine' fdiv_known ?zze ?zzb ?zzc ?_; (case zze => assumption); (case zzb => omega); (case zzc => omega)))
  k_with "binaryOp Mod int int" => (k_here; k_dflt (refine' fmod_known ?zze ?zzb ?_; (case zze => assumption); (case zzb => omega)))
  k_with "m_abs" => first | omega | exact LimbB.abs (by assumption) (by assumption) | exact LimbB.absAt (by assumption) _
  k_with "binaryOp LShift int int" => (k_here; k_dflt (refine' lshift_int_small ?zza ?zzb ?zzc ?_; (case zza => omega); (case zzb => omega); (case zzc => k_extra "m_abs")))
  k_with "binaryOp RShift int int" => (k_here; k_dflt (refine' rshift_int ?zza ?_; (case zza => omega)))
  k_with "m_use" => ((case zzB => k_asm); (case zzF => k_asm); (case zzX => k_asm); (case zzN => k_asm); (case zzT => k_asm); (case zzK => first | exact rfl | assumption); (case zzS => k_extra "m_sub"); (case zzD => first | exact dlt (by assumption) (by decide) | omega); (case zzU => first | exact ult (by assumption) (by decide) | omega))
  k_with "subscriptTail Name Slice ref ref" => (k_here; k_dflt (refine' kmk_slice_ints ?zzF ?zzN ?zzl ?zzp ?zzq ?zzi ?zzm ?zzc ?_ ?zzs ?zzt ?zzz; (case zzF => k_asm); (case zzN => k_asm); (case zzl => exact News.isList (by k_asm) (by k_mem)); (case zzp => kmk_part); (case zzq => kmk_part); (case zzi => k_asm); (case zzm => first | exact kmk_all (by assumption) | exact kmk_upto (by assumption) (by omega)); (case zzc => kmk_len); (case zzs => with_unfolding_all rfl); (case zzt => kmk_pure); (case zzz => exact kmk_sz (by assumption) (by rw [sizeLine_eq]; omega))); intro _ _ _ _ _ l1 _ _ _; (try k_lt l1); (try k_sweep))
  k_with "InvEndN" => k_dflt kst_close
  k_with "m_pick" => first | assumption | exact pk0 (by assumption) | exact pk1 (by assumption) | exact pk2 (by assumption) | exact pk3 (by assumption) | exact pl1 (by assumption) | exact pl2 (by assumption) | exact pl3 (by assumption) | exact pl4 (by assumption) | exact pl5 (by assumption) | exact pk4 (by assumption) | exact pk5 (by assumption) | exact pk6 (by assumption)
  k_with "m_ne" => (refine neN ?_; (try dsimp only); with_reducible first | exact Nat.ne_of_lt (by k_extra "m_pick") | exact Nat.ne_of_gt (by k_extra "m_pick") | k_extra "m_pick" | exact Ne.symm (by k_extra "m_pick") | omega)
  k_with "m_om" => first | with_reducible assumption | exact Nat.lt_of_lt_of_le (by with_reducible assumption) (by decide) | exact Nat.le_trans (by with_reducible assumption) (by decide) | exact Nat.lt_of_le_of_lt (by with_reducible assumption) (by decide) | exact Int.lt_of_lt_of_le (by with_reducible assumption) (by decide) | exact Int.le_trans (by with_reducible assumption) (by decide) | exact Int.lt_of_le_of_lt (by with_reducible assumption) (by decide) | exact int_le_of (by with_reducible assumption) (by decide) | exact int_lt_of (by with_reducible assumption) (by decide) | exact nat_le_of (by with_reducible assumption) (by decide) | exact lp_lt (by with_reducible assumption) (by with_reducible assumption) | exact lp_sz' (by with_reducible assumption) (by with_reducible assumption) (by with_reducible assumption) (by with_reducible assumption)
  k_with "m_bnd" => first | omega | assumption | exact LimbB.nonneg (by assumption) (by assumption) | (refine Nat.lt_of_le_of_lt (normL_len _) ?_; k_extra "m_bnd") | (simp only [rangeKs_length, List.length_append, List.length_cons, List.length_nil, List.length_take, List.length_map] at *; omega)
  k_with "call ref" => (k_here; (with_reducible show wpAny _ _ (call (Value.ref 46) _ _) _ _ _); k_dflt (refine' use_L ?zzB ?zzF ?zzX ?zzN ?zzT ?zzK (ct_normal ?zzi1 ?zzb1) ?zzS ?zzD ?zzU ?_; (k_extra "m_use"); (case zzi1 => k_asm); (case zzb1 => k_extra "m_bnd")); intro _ _ _ _ _ _ _ _; (try k_sweep))
  k_with "call ref" => (k_here; (with_reducible show wpAny _ _ (call (Value.ref 60) _ _) _ _ _); k_dflt (refine' use_L ?zzB ?zzF ?zzX ?zzN ?zzT ?zzK (ct_addX ?zzi1 ?zzi2 ?zzb1 ?zzb2 ?zzb3 ?zzb4) ?zzS ?zzD ?zzU ?_; (k_extra "m_use"); (case zzi1 => k_asm); (case zzi2 => first | k_asm | exact IntsAre.cons _ _ .nil); (case zzb1 => k_extra "m_bnd"); (case zzb2 => k_extra "m_bnd"); (case zzb3 => k_extra "m_bnd"); (case zzb4 => k_extra "m_bnd")); intro _ _ _ _ _ _ _ _; (try k_sweep))
  k_with "call ref" => (k_here; (with_reducible show wpAny _ _ (call (Value.ref 67) _ _) _ _ _); k_dflt (refine' use_L ?zzB ?zzF ?zzX ?zzN ?zzT ?zzK (ct_sub ?zzi1 ?zzi2 ?zzb1 ?zzb2 ?zzb3 ?zzb4 ?zzb5) ?zzS ?zzD ?zzU ?_; (k_extra "m_use"); (case zzi1 => k_asm); (case zzi2 => first | k_asm | exact IntsAre.cons _ _ .nil); (case zzb1 => k_extra "m_bnd"); (case zzb2 => k_extra "m_bnd"); (case zzb3 => k_extra "m_bnd"); (case zzb4 => k_extra "m_bnd"); (case zzb5 => k_extra "m_bnd")); intro _ _ _ _ _ _ _ _; (try k_sweep))
  exact True.intro
theorem ct_row_of {x lx : Addr} {b : Bool} {cx clx : Nat} {xs : List Value} {nx : List Int} {W z : Int} {tw tz : Tok}
    (ix : IntsAre xs nx) (hx : nx.length < 100) (hw : 2 ≤ W) (hw' : W ≤ 9) (hz : (nx.length : Int) ≤ z) (hz' : z < 100) :
    Ct w mean mg mb 3 107 [.ref x, .int z tz, .int W tw] [(x, tupS false lx cx), (lx, listOf xs.toArray clx)] (LRes (nx ++ (List.replicate (z - nx.length).toNat [0]).flatten)) := by
  k_dflt (refine' ct_ofC (binds := [(PySem.Str.ofString "x", .ref x), (PySem.Str.ofString "size", .int z tz), (PySem.Str.ofString "w", .int W tw)]) ?k6 ?k7 ?k9 ?kB ?kD ?c2 ?c3 ?c4 ?_ ?c6)
  walk_at "ctc"
  intro dp un gd outer A₀ base g L' s cells hd1 hu F N YC B XK T hl
  k_lt hl
  k_cells YC
  simp only [List.cons_append, List.nil_append] at N
  with_reducible show wpAny _ _ _ _ _ _
  k_fold
  k_steps
theorem ct_row_ofN {x lx : Addr} {cx clx : Nat} {xs : List Value} {nx : List Int} {W z : Int} {tw tz : Tok}
    (ix : IntsAre xs nx) (hx : nx.length < 100) (hw : 2 ≤ W) (hw' : W ≤ 9) (hz : ((normL (subA W nx [1] nx.length).1).length : Int) ≤ z) (hzz : (normL (subA W nx [1] nx.length).1).length < 100) (hz' : z < 100) (hc : ¬ cmpL nx [1] < 0) :
    Ct w mean mg mb 3 107 [.ref x, .int z tz, .int W tw] [(x, tupS true lx cx), (lx, listOf xs.toArray clx)] (LRes ((normL (subA W nx [1] nx.length).1).map (fun v => 1 * 2 ^ W.toNat - 1 - v) ++ (List.replicate (z - (normL (subA W nx [1] nx.length).1).length).toNat [1 * 2 ^ W.toNat - 1]).flatten)) := by
  k_dflt (refine' ct_ofC (binds := [(PySem.Str.ofString "x", .ref x), (PySem.Str.ofString "size", .int z tz), (PySem.Str.ofString "w", .int W tw)]) ?k6 ?k7 ?k9 ?kB ?kD ?c2 ?c3 ?c4 ?_ ?c6)
  walk_at "ctc"
  intro dp un gd outer A₀ base g L' s cells hd1 hu F N YC B XK T hl
  k_lt hl
  k_cells YC
  simp only [List.cons_append, List.nil_append] at N
  with_reducible show wpAny _ _ _ _ _ _
  k_fold
  k_steps
theorem ct_number_of {la : Addr} {ca : Nat} {as : List Value} {na : List Int} {W : Int} {tw : Tok}
    (ia : IntsAre as na) (hx : na.length < 99) (hw : 2 ≤ W) (hw' : W ≤ 9) (hb : LimbB na) :
    Ct w mean mg mb 3 112 [.ref la, .int W tw] [(la, listOf as.toArray ca)] (SRes (numB W na) (numL W na)) := by
  k_dflt (refine' ct_ofC (binds := [(PySem.Str.ofString "row", .ref la), (PySem.Str.ofString "w", .int W tw)]) ?k6 ?k7 ?k9 ?kB ?kD ?c2 ?c3 ?c4 ?_ ?c6)
  walk_at "ctc"
  intro dp un gd outer A₀ base g L' s cells hd1 hu F N YC B XK T hl
  k_lt hl
  k_cells YC
  simp only [List.cons_append, List.nil_append] at N
  with_reducible show wpAny _ _ _ _ _ _
  k_fold
  k_steps
  · rw [numB, decide_eq_true (topZ_nil (by assumption))]; rfl
  · rw [numL, if_pos (topZ_nil (by assumption))]
  · have hz : topZ W na := by assumption
    rw [numB, decide_eq_true hz]; rfl
  · have hz : topZ W na := by assumption
    rw [numL, if_pos hz]
  · have hz : ¬ topZ W na := by assumption
    rw [numB, decide_eq_false hz]; rfl
  · have hz : ¬ topZ W na := by assumption
    rw [numL, if_neg hz]
theorem ct_limb_ones {i : Int} {ti : Tok} (h0 : 0 ≤ i) :
    Ct w mean mg mb 1 183 [.int i ti] [] (IRes (onesI i)) := by
  k_dflt (refine' ct_of (binds := [(PySem.Str.ofString "limb", .int i ti)]) ?k6 ?k7 ?k9 ?kB ?c5 ?c2 ?c3 ?c4 ?_ ?c6)
  walk_at "ct"
  intro dp un gd outer A₀ base g L' s hd1 hu F N B XK T hl
  (try simp only [List.reverse_cons, List.reverse_nil, List.nil_append, List.cons_append] at F)
  k_fold
  k_with "measure" => (have := ones_less (by assumption); omega)
  k_with "state" => (have h1 := ones_less (by assumption); have h2 := (ones_turn _ _ rfl (by assumption)).1; exact ⟨h1.1, by omega⟩)
  k_with "exec While Compare cons nil" => k_dflt (k_while (fun _ l f => 0 ≤ l ∧ onesI l + f = onesI i) (fun _ l _ => l.toNat) "limb" "found")
  k_with "exec While BoolOp cons nil" => k_dflt (k_while (fun _ l f => 0 ≤ l ∧ onesI l + f = onesI i) (fun _ l _ => l.toNat) "limb" "found")
  k_steps
  have h1 := ones_zero (by assumption)
  omega
theorem rows6 : True := by
  k_with "call ref" => (k_here; (with_reducible show wpAny _ _ (call (Value.ref 183) _ _) _ _ _); k_dflt (refine' use_I ?zzB ?zzF ?zzX ?zzN ?zzT ?zzK (ct_limb_ones ?zzb1) ?zzS ?zzD ?zzU ?_; (k_extra "m_use"); (case zzb1 => k_extra "m_bnd")); intro _ _ _ _ _; (try k_sweep))
  exact True.intro
theorem ct_nat_ones {la : Addr} {ca : Nat} {as : List Value} {na : List Int} 
    (ia : IntsAre as na) (hx : na.length < 99) (hb : LimbB na) :
    Ct w mean mg mb 2 188 [.ref la] [(la, listOf as.toArray ca)] (IRes (na.map onesI).sum) := by
  k_dflt (refine' ct_of (binds := [(PySem.Str.ofString "a", .ref la)]) ?k6 ?k7 ?k9 ?kB ?c5 ?c2 ?c3 ?c4 ?_ ?c6)
  walk_at "ct"
  intro dp un gd outer A₀ base g L' s hd1 hu F N B XK T hl
  (try simp only [List.reverse_cons, List.reverse_nil, List.nil_append, List.cons_append] at F)
  k_fold
  k_steps

-- part Cc
variable {z : Nat}
theorem rows7 : True := by
  k_with_none
  k_with "ct" => ((case k6 => k_is); (case k7 => k_is); (case k9 => (intro s; exact BindsTo.of_eq rfl)); (case kB => exact locs rfl); (case c5 => decide); (case c2 => exact rfl); (case c3 => exact rfl); (case c4 => exact rfl); (case c6 => decide))
  k_with "ctc" => ((case k6 => k_is); (case k7 => k_is); (case k9 => (intro s; exact BindsTo.of_eq rfl)); (case kB => exact rfl); (case kD => decide +kernel); (case c2 => exact rfl); (case c3 => exact rfl); (case c4 => exact rfl); (case c6 => decide))
  k_with "m_mem" => first | exact List.mem_cons_self | (refine List.mem_cons_of_mem _ ?_; k_extra "m_mem")
  k_with "m_sub" => first | exact True.intro | (refine' And.intro ?zzm1 ?zzm2; (case zzm1 => first | (with_reducible k_extra "m_mem") | k_mem); (case zzm2 => k_extra "m_sub"))
  k_with "PEnd" => (refine' pend ?zzF ?zzN ?zzS ?_ ?zzE; (case zzF => k_asm); (case zzN => k_asm); (case zzS => k_extra "m_sub"); (case zzE => exact rfl); (try dsimp only))
  k_with "SRes" => (refine' sres_of ?zzm1 ?zzm2 ?zzm3 ?_ ?_; (case zzm1 => k_mem); (case zzm2 => k_mem); (case zzm3 => k_asm))
  k_with "LRes" => (refine' lres_of ?zzm2 ?zzm3 ?_; (case zzm2 => k_mem); (case zzm3 => first | k_asm | exact IntsAre.nil | l_ints))
  k_with "LRes" => (refine' lres_push ?zzm2 ?zzm3 ?_; (case zzm2 => k_mem); (case zzm3 => k_asm))
  k_with "IRes" => (refine' ires_of ?_)
  k_with "ORes" => first | refine' ores_none ?_ | refine' ores_some ?_
  k_with "BRes" => (refine' bres_of ?_)
  k_with "binaryOp FloorDiv int int" => (k_here; k_dflt (refine' fdiv_gen ?zza ?zzb ?zzc ?_; (case zza => omega); (case zzb => omega); (case zzc => omega)); intro _ _ _ _)
  k_with "binaryOp Mod int int" => (k_here; k_dflt (refine' fmod_gen ?zza ?zzb ?_; (case zza => omega); (case zzb => omega)); intro _ _ _ _)
  k_with "binaryOp FloorDiv int int" => (k_here; k_dflt (refine' fdiv_known ?zze ?zzb ?zzc ?_; (case zze => assumption); (case zzb => omega); (case zzc => omega)))
  k_with "binaryOp Mod int int" => (k_here; k_dflt (refine' fmod_known ?zze ?zzb ?_; (case zze => assumption); (case zzb => omega)))
  k_with "m_abs" => first | omega | exact LimbB.abs (by assumption) (by assumption) | exact LimbB.absAt (by assumption) _
  k_with "binaryOp LShift int int" => (k_here; k_dflt (refine' lshift_int_small ?zza ?zzb ?zzc ?_; (case zza => omega); (case zzb => omega); (case zzc => k_extra "m_abs")))
  k_with "binaryOp RShift int int" => (k_here; k_dflt (refine' rshift_int ?zza ?_; (case zza => omega)))
  k_with "m_use" => ((case zzB => k_asm); (case zzF => k_asm); (case zzX => k_asm); (case zzN => k_asm); (case zzT => k_asm); (case zzK => first | exact rfl | assumption); (case zzS => k_extra "m_sub"); (case zzD => first | exact dlt (by assumption) (by decide) | omega); (case zzU => first | exact ult (by assumption) (by decide) | omega))
  k_with "subscriptTail Name Slice ref ref" => (k_here; k_dflt (refine' kmk_slice_ints ?zzF ?zzN ?zzl ?zzp ?zzq ?zzi ?zzm ?zzc ?_ ?zzs ?zzt ?zzz; (case zzF => k_asm); (case zzN => k_asm); (case zzl => exact News.isList (by k_asm) (by k_mem)); (case zzp => kmk_part); (case zzq => kmk_part); (case zzi => k_asm); (case zzm => first | exact kmk_all (by assumption) | exact kmk_upto (by assumption) (by omega)); (case zzc => kmk_len); (case zzs => with_unfolding_all rfl); (case zzt => kmk_pure); (case zzz => exact kmk_sz (by assumption) (by rw [sizeLine_eq]; omega))); intro _ _ _ _ _ l1 _ _ _; (try k_lt l1); (try k_sweep))
  k_with "InvEndN" => k_dflt kst_close
  k_with "m_pick" => first | assumption | exact pk0 (by assumption) | exact pk1 (by assumption) | exact pk2 (by assumption) | exact pk3 (by assumption) | exact pl1 (by assumption) | exact pl2 (by assumption) | exact pl3 (by assumption) | exact pl4 (by assumption) | exact pl5 (by assumption) | exact pk4 (by assumption) | exact pk5 (by assumption) | exact pk6 (by assumption)
  k_with "m_ne" => (refine neN ?_; (try dsimp only); with_reducible first | exact Nat.ne_of_lt (by k_extra "m_pick") | exact Nat.ne_of_gt (by k_extra "m_pick") | k_extra "m_pick" | exact Ne.symm (by k_extra "m_pick") | omega)
  k_with "m_om" => first | with_reducible assumption | exact Nat.lt_of_lt_of_le (by with_reducible assumption) (by decide) | exact Nat.le_trans (by with_reducible assumption) (by decide) | exact Nat.lt_of_le_of_lt (by with_reducible assumption) (by decide) | exact Int.lt_of_lt_of_le (by with_reducible assumption) (by decide) | exact Int.le_trans (by with_reducible assumption) (by decide) | exact Int.lt_of_le_of_lt (by with_reducible assumption) (by decide) | exact int_le_of (by with_reducible assumption) (by decide) | exact int_lt_of (by with_reducible assumption) (by decide) | exact nat_le_of (by with_reducible assumption) (by decide) | exact lp_lt (by with_reducible assumption) (by with_reducible assumption) | exact lp_sz' (by with_reducible assumption) (by with_reducible assumption) (by with_reducible assumption) (by with_reducible assumption)
  k_with "m_bnd" => first | omega | assumption | exact LimbB.nonneg (by assumption) (by assumption) | (refine Nat.lt_of_le_of_lt (normL_len _) ?_; k_extra "m_bnd") | (simp only [rangeKs_length, List.length_append, List.length_cons, List.length_nil, List.length_take, List.length_map] at *; omega)
  exact True.intro
theorem cc_add {la lb : Addr} {ca cb : Nat} {as bs : List Value} {m n : Nat} {tw : Tok} (hz : 2 ≤ z) (hz' : z ≤ 9)
    (ia : IntsAre as (limbs z m)) (ib : IntsAre bs (limbs z n)) (hm : m < 2 ^ 190) (hn : n < 2 ^ 190) :
    Ct w mean mg mb 1 60 [.ref la, .ref lb, .int (z : Int) tw] [(la, listOf as.toArray ca), (lb, listOf bs.toArray cb)] (LRes (limbs z (m + n))) := by
  have h1 := len_of hz hm
  have h2 := len_of hz hn
  rw [← addX_limbs hz]
  exact ct_addX ia ib (by omega) (by omega) (by omega) (by omega)
theorem cc_sub {la lb : Addr} {ca cb : Nat} {as bs : List Value} {m n : Nat} {tw : Tok} (hz : 2 ≤ z) (hz' : z ≤ 9)
    (ia : IntsAre as (limbs z m)) (ib : IntsAre bs (limbs z n)) (hm : m < 2 ^ 190) (hn : n ≤ m) :
    Ct w mean mg mb 2 67 [.ref la, .ref lb, .int (z : Int) tw] [(la, listOf as.toArray ca), (lb, listOf bs.toArray cb)] (LRes (limbs z (m - n))) := by
  have h1 := len_of hz hm
  have h2 := len_of (m := n) hz (by omega)
  rw [← subL_limbs (by omega) hn]
  exact ct_sub ia ib (by omega) (by omega) (by omega) (by omega) fun h => by
    have := (cmpL_limbs (by omega) m n).mp h
    omega
theorem cc_compare {la lb : Addr} {ca cb : Nat} {as bs : List Value} {m n : Nat} (hz : 2 ≤ z)
    (ia : IntsAre as (limbs z m)) (ib : IntsAre bs (limbs z n)) (hm : m < 2 ^ 190) (hn : n < 2 ^ 190) :
    Ct w mean mg mb 1 53 [.ref la, .ref lb] [(la, listOf as.toArray ca), (lb, listOf bs.toArray cb)] (IRes (cmpL (limbs z m) (limbs z n))) := by
  have h1 := len_of hz hm
  have h2 := len_of hz hn
  exact ct_compare ia ib (by omega) (by omega)
theorem cc_add_limb {la : Addr} {ca : Nat} {as : List Value} {m : Nat} {ti tw : Tok} (hz : 2 ≤ z) (hz' : z ≤ 9)
    (ia : IntsAre as (limbs z m)) (hm : m < 2 ^ 190) :
    Ct w mean mg mb 1 74 [.ref la, .int 1 ti, .int (z : Int) tw] [(la, listOf as.toArray ca)] (LRes (limbs z (m + 1))) := by
  have h1 := len_of hz hm
  rw [← addlL_limbs hz]
  exact ct_add_limb ia (by omega) (by omega) (by omega)
theorem cc_shift_left {la : Addr} {ca : Nat} {as : List Value} {m : Nat} {n : Int} {tn tw : Tok} (hz : 2 ≤ z) (hz' : z ≤ 9)
    (ia : IntsAre as (limbs z m)) (hm : m < 2 ^ 190) (hn : 0 ≤ n) (hn' : n < 100) :
    Ct w mean mg mb 1 81 [.ref la, .int n tn, .int (z : Int) tw] [(la, listOf as.toArray ca)] (LRes (limbs z (m * 2 ^ n.toNat))) := by
  have h1 := len_of hz hm
  rw [← shl_n hz hn]
  exact ct_shift_left ia ((limbs_vd (by omega) _).limbB hz') (by omega) (by omega) (by omega) hn hn' rfl rfl
theorem cc_shift_right {la : Addr} {ca : Nat} {as : List Value} {m : Nat} {n : Int} {tn tw : Tok} (hz : 2 ≤ z) (hz' : z ≤ 9)
    (ia : IntsAre as (limbs z m)) (hm : m < 2 ^ 190) (hn : 0 ≤ n) (hn' : n < 100) :
    Ct w mean mg mb 2 88 [.ref la, .int n tn, .int (z : Int) tw] [(la, listOf as.toArray ca)] (LRes (limbs z (m / 2 ^ n.toNat))) := by
  have h1 := len_of hz hm
  rw [← shr_n hz hn]
  exact ct_shift_right ia ((limbs_vd (by omega) _).limbB hz') (by omega) (by omega) (by omega) hn hn' rfl rfl
theorem cc_bit {la : Addr} {ca : Nat} {as : List Value} {m : Nat} {n : Int} {tn tw : Tok} (hz : 2 ≤ z) (hz' : z ≤ 9)
    (ia : IntsAre as (limbs z m)) (hm : m < 2 ^ 190) (hn : 0 ≤ n) (hn' : n < 100) :
    Ct w mean mg mb 1 95 [.ref la, .int n tn, .int (z : Int) tw] [(la, listOf as.toArray ca)] (IRes ((m : Int) / 2 ^ n.toNat % 2)) := by
  have h1 := len_of hz hm
  rw [← bit_n hz hn]
  exact ct_bit ia ((limbs_vd (by omega) _).limbB hz') (by omega) (by omega) (by omega) hn hn' rfl rfl
theorem cc_low {la : Addr} {ca : Nat} {as : List Value} {m : Nat} {n : Int} {tn tw : Tok} (hz : 2 ≤ z) (hz' : z ≤ 9)
    (ia : IntsAre as (limbs z m)) (hm : m < 2 ^ 190) (hn : 0 ≤ n) (hn' : n < 100) :
    Ct w mean mg mb 2 102 [.ref la, .int n tn, .int (z : Int) tw] [(la, listOf as.toArray ca)] (LRes (limbs z (m % 2 ^ n.toNat))) := by
  have h1 := len_of hz hm
  rw [← low_n hz hn]
  exact ct_low ia (by omega) (by omega) (by omega) hn hn' rfl rfl
theorem cc_signed {l : Addr} {b : Bool} {cl : Nat} {ls : List Value} {m : Nat} (hz : 2 ≤ z)
    (ix : IntsAre ls (limbs z m)) (hm : m < 2 ^ 190) :
    Ct w mean mg mb 1 209 [.bool b, .ref l] [(l, listOf ls.toArray cl)] (SRes (b && decide (0 < m)) (limbs z m)) := by
  have h1 := len_of hz hm
  have e : decide (0 < m) = decide (0 < (limbs z m).length) := by
    congr 1
    rw [eq_iff_iff]
    by_cases h : m = 0
    · subst h; simp [limbs_zero]
    · rw [limbs_pos (by omega) (by omega)]; simp; omega
  rw [e]
  exact ct_signed ix (by omega)
theorem cc_nat_ones {la : Addr} {ca : Nat} {as : List Value} {m : Nat} (hz : 2 ≤ z) (hz' : z ≤ 9)
    (ia : IntsAre as (limbs z m)) (hm : m < 2 ^ 190) :
    Ct w mean mg mb 2 188 [.ref la] [(la, listOf as.toArray ca)] (IRes (onesI m)) := by
  have h1 := len_of hz hm
  rw [← ones_limbs (w := z) (by omega)]
  exact ct_nat_ones ia (by omega) ((limbs_vd (by omega) _).limbB hz')
theorem cc_row_of {x lx : Addr} {cx clx : Nat} {xs : List Value} {X : Int} {k : Nat} {tw tz : Tok} (hz : 2 ≤ z) (hz' : z ≤ 9)
    (ix : IntsAre xs (mag z X)) (hX : X.natAbs < 2 ^ 190) (hk : (mag z X).length ≤ k) (hk' : k < 100) :
    Ct w mean mg mb 3 107 [.ref x, .int (k : Int) tz, .int (z : Int) tw] [(x, tupS (sg X) lx cx), (lx, listOf xs.toArray clx)] (LRes (digs z X k)) := by
  have h1 := len_of hz hX
  by_cases h : 0 ≤ X
  · have e : sg X = false := decide_eq_false (by omega)
    rw [e, ← row_pos hz h hk]
    exact ct_row_of (b := false) ix (by show (limbs z X.natAbs).length < 100; omega) (by omega) (by omega) (by omega) (by omega)
  · have e : sg X = true := decide_eq_true (by omega)
    have hl : (limbs z (X.natAbs - 1)).length ≤ (mag z X).length := limbs_len_mono (by omega) (by omega)
    have h2 := subL_limbs (w := z) (by omega) (show 1 ≤ X.natAbs by omega)
    rw [← one_limbs hz] at h2
    rw [e, ← row_neg hz (by omega) (by omega), ← h2]
    rw [← h2] at hl
    refine ct_row_ofN ix (by show (limbs z X.natAbs).length < 100; omega) (by omega) (by omega) ?_ ?_ (by omega) ?_
    · show ((normL (subA (z : Int) (limbs z X.natAbs) [1] (limbs z X.natAbs).length).1).length : Int) ≤ k
      omega
    · show (normL (subA (z : Int) (limbs z X.natAbs) [1] (limbs z X.natAbs).length).1).length < 100
      omega
    · intro hc
      rw [one_limbs hz] at hc
      have := (cmpL_limbs (by omega) _ _).mp hc
      omega
theorem cc_number_of {la : Addr} {ca : Nat} {as : List Value} {Z : Int} {k : Nat} {tw : Tok} (hz : 2 ≤ z) (hz' : z ≤ 9)
    (ia : IntsAre as (digs z Z k)) (hk : k < 99) (hn : numB (z : Int) (digs z Z k) = sg Z ∧ numL (z : Int) (digs z Z k) = mag z Z) :
    Ct w mean mg mb 3 112 [.ref la, .int (z : Int) tw] [(la, listOf as.toArray ca)] (SRes (sg Z) (mag z Z)) := by
  rw [← hn.1, ← hn.2]
  exact ct_number_of ia (by rw [digs_len]; exact hk) (by omega) (by omega) ((digs_vd _ _ _).limbB hz')
theorem cc_joint_size {x lx y ly : Addr} {bx bY : Bool} {cx clx cy cly : Nat} {xs ys : List Value} {m n : Nat} (hz : 2 ≤ z)
    (ix : IntsAre xs (limbs z m)) (iy : IntsAre ys (limbs z n)) (hm : m < 2 ^ 190) (hn : n < 2 ^ 190) :
    Ct w mean mg mb 1 119 [.ref x, .ref y] [(x, tupS bx lx cx), (lx, listOf xs.toArray clx), (y, tupS bY ly cy), (ly, listOf ys.toArray cly)] (IRes ((max (limbs z m).length (limbs z n).length + 1 : Nat) : Int)) := by
  have h1 := len_of hz hm
  have h2 := len_of hz hn
  exact ct_joint_size ix iy (by omega) (by omega)
local macro_rules | `(tactic| l_fit) => `(tactic| exact Nat.lt_trans (len_of (by assumption) (by omega)) (by decide))
theorem rows8 : True := by
  k_with "m_bnd" => first | assumption | omega | (have hSg := sg_t (by assumption); omega) | (have hSg := sg_f (by assumption); omega)
  k_with "m_i" => first | k_asm | exact one_ints (by assumption) | exact nil_ints | exact two_ints (by assumption)
  k_with "call ref" => (k_here; (with_reducible show wpAny _ _ (call (Value.ref 60) _ _) _ _ _); k_dflt (refine' use_L ?zzB ?zzF ?zzX ?zzN ?zzT ?zzK (cc_add ?zzz1 ?zzz2 ?zzi1 ?zzi2 ?zzb1 ?zzb2) ?zzS ?zzD ?zzU ?_; (k_extra "m_use"); (case zzi1 => k_extra "m_i"); (case zzi2 => k_extra "m_i"); (case zzz1 => assumption); (case zzz2 => assumption); (case zzb1 => k_extra "m_bnd"); (case zzb2 => k_extra "m_bnd")); intro _ _ _ _ _ _ _ _; (try k_sweep))
  k_with "call ref" => (k_here; (with_reducible show wpAny _ _ (call (Value.ref 67) _ _) _ _ _); k_dflt (refine' use_L ?zzB ?zzF ?zzX ?zzN ?zzT ?zzK (cc_sub ?zzz1 ?zzz2 ?zzi1 ?zzi2 ?zzb1 ?zzb2) ?zzS ?zzD ?zzU ?_; (k_extra "m_use"); (case zzi1 => k_extra "m_i"); (case zzi2 => k_extra "m_i"); (case zzz1 => assumption); (case zzz2 => assumption); (case zzb1 => k_extra "m_bnd"); (case zzb2 => k_extra "m_bnd")); intro _ _ _ _ _ _ _ _; (try k_sweep))
  k_with "call ref" => (k_here; (with_reducible show wpAny _ _ (call (Value.ref 53) _ _) _ _ _); k_dflt (refine' use_I ?zzB ?zzF ?zzX ?zzN ?zzT ?zzK (cc_compare ?zzz1 ?zzi1 ?zzi2 ?zzb1 ?zzb2) ?zzS ?zzD ?zzU ?_; (k_extra "m_use"); (case zzi1 => k_extra "m_i"); (case zzi2 => k_extra "m_i"); (case zzz1 => assumption); (case zzb1 => k_extra "m_bnd"); (case zzb2 => k_extra "m_bnd")); intro _ _ _ _ _; (try k_sweep))
  k_with "call ref" => (k_here; (with_reducible show wpAny _ _ (call (Value.ref 74) _ _) _ _ _); k_dflt (refine' use_L ?zzB ?zzF ?zzX ?zzN ?zzT ?zzK (cc_add_limb ?zzz1 ?zzz2 ?zzi1 ?zzb1) ?zzS ?zzD ?zzU ?_; (k_extra "m_use"); (case zzi1 => k_extra "m_i"); (case zzz1 => assumption); (case zzz2 => assumption); (case zzb1 => k_extra "m_bnd")); intro _ _ _ _ _ _ _ _; (try k_sweep))
  k_with "call ref" => (k_here; (with_reducible show wpAny _ _ (call (Value.ref 81) _ _) _ _ _); k_dflt (refine' use_L ?zzB ?zzF ?zzX ?zzN ?zzT ?zzK (cc_shift_left ?zzz1 ?zzz2 ?zzi1 ?zzb1 ?zzb2 ?zzb3) ?zzS ?zzD ?zzU ?_; (k_extra "m_use"); (case zzi1 => k_extra "m_i"); (case zzz1 => assumption); (case zzz2 => assumption); (case zzb1 => k_extra "m_bnd"); (case zzb2 => k_extra "m_bnd"); (case zzb3 => k_extra "m_bnd")); intro _ _ _ _ _ _ _ _; (try k_sweep))
  k_with "call ref" => (k_here; (with_reducible show wpAny _ _ (call (Value.ref 88) _ _) _ _ _); k_dflt (refine' use_L ?zzB ?zzF ?zzX ?zzN ?zzT ?zzK (cc_shift_right ?zzz1 ?zzz2 ?zzi1 ?zzb1 ?zzb2 ?zzb3) ?zzS ?zzD ?zzU ?_; (k_extra "m_use"); (case zzi1 => k_extra "m_i"); (case zzz1 => assumption); (case zzz2 => assumption); (case zzb1 => k_extra "m_bnd"); (case zzb2 => k_extra "m_bnd"); (case zzb3 => k_extra "m_bnd")); intro _ _ _ _ _ _ _ _; (try k_sweep))
  k_with "call ref" => (k_here; (with_reducible show wpAny _ _ (call (Value.ref 95) _ _) _ _ _); k_dflt (refine' use_I ?zzB ?zzF ?zzX ?zzN ?zzT ?zzK (cc_bit ?zzz1 ?zzz2 ?zzi1 ?zzb1 ?zzb2 ?zzb3) ?zzS ?zzD ?zzU ?_; (k_extra "m_use"); (case zzi1 => k_extra "m_i"); (case zzz1 => assumption); (case zzz2 => assumption); (case zzb1 => k_extra "m_bnd"); (case zzb2 => k_extra "m_bnd"); (case zzb3 => k_extra "m_bnd")); intro _ _ _ _ _; (try k_sweep))
  k_with "call ref" => (k_here; (with_reducible show wpAny _ _ (call (Value.ref 102) _ _) _ _ _); k_dflt (refine' use_L ?zzB ?zzF ?zzX ?zzN ?zzT ?zzK (cc_low ?zzz1 ?zzz2 ?zzi1 ?zzb1 ?zzb2 ?zzb3) ?zzS ?zzD ?zzU ?_; (k_extra "m_use"); (case zzi1 => k_extra "m_i"); (case zzz1 => assumption); (case zzz2 => assumption); (case zzb1 => k_extra "m_bnd"); (case zzb2 => k_extra "m_bnd"); (case zzb3 => k_extra "m_bnd")); intro _ _ _ _ _ _ _ _; (try k_sweep))
  k_with "call ref" => (k_here; (with_reducible show wpAny _ _ (call (Value.ref 209) _ _) _ _ _); k_dflt (refine' use_S ?zzB ?zzF ?zzX ?zzN ?zzT ?zzK (cc_signed ?zzz1 ?zzi1 ?zzb1) ?zzS ?zzD ?zzU ?_; (k_extra "m_use"); (case zzi1 => k_extra "m_i"); (case zzz1 => assumption); (case zzb1 => k_extra "m_bnd")); intro _ _ _ _ _ _ _ _ _ _; (try k_sweep))
  k_with "call ref" => (k_here; (with_reducible show wpAny _ _ (call (Value.ref 188) _ _) _ _ _); k_dflt (refine' use_I ?zzB ?zzF ?zzX ?zzN ?zzT ?zzK (cc_nat_ones ?zzz1 ?zzz2 ?zzi1 ?zzb1) ?zzS ?zzD ?zzU ?_; (k_extra "m_use"); (case zzi1 => k_extra "m_i"); (case zzz1 => assumption); (case zzz2 => assumption); (case zzb1 => k_extra "m_bnd")); intro _ _ _ _ _; (try k_sweep))
  k_with "call ref" => (k_here; (with_reducible show wpAny _ _ (call (Value.ref 107) _ _) _ _ _); k_dflt (refine' use_L ?zzB ?zzF ?zzX ?zzN ?zzT ?zzK (cc_row_of ?zzz1 ?zzz2 ?zzi1 ?zzb1 ?zzb2 ?zzb3) ?zzS ?zzD ?zzU ?_; (k_extra "m_use"); (case zzi1 => k_extra "m_i"); (case zzz1 => assumption); (case zzz2 => assumption); (case zzb1 => k_extra "m_bnd"); (case zzb2 => k_extra "m_bnd"); (case zzb3 => k_extra "m_bnd")); intro _ _ _ _ _ _ _ _; (try k_sweep))
  k_with "call ref" => (k_here; (with_reducible show wpAny _ _ (call (Value.ref 112) _ _) _ _ _); k_dflt (refine' use_S ?zzB ?zzF ?zzX ?zzN ?zzT ?zzK (cc_number_of ?zzz1 ?zzz2 ?zzi1 ?zzb1 ?zzb2) ?zzS ?zzD ?zzU ?_; (k_extra "m_use"); (case zzi1 => first | exact and_digs (by assumption) | exact or_digs (by assumption) | exact xor_digs (by assumption)); (case zzz1 => assumption); (case zzz2 => assumption); (case zzb1 => k_extra "m_bnd"); (case zzb2 => assumption)); intro _ _ _ _ _ _ _ _ _ _; (try k_sweep))
  k_with "call ref" => (k_here; (with_reducible show wpAny _ _ (call (Value.ref 119) _ _) _ _ _); k_dflt (refine' use_I ?zzB ?zzF ?zzX ?zzN ?zzT ?zzK (cc_joint_size ?zzz1 ?zzi1 ?zzi2 ?zzb1 ?zzb2) ?zzS ?zzD ?zzU ?_; (k_extra "m_use"); (case zzi1 => k_extra "m_i"); (case zzi2 => k_extra "m_i"); (case zzz1 => assumption); (case zzb1 => k_extra "m_bnd"); (case zzb2 => k_extra "m_bnd")); intro _ _ _ _ _; (try k_sweep))
  k_with "call type:zip" => (k_here; k_dflt (refine' kz_call ?zza ?zzF ?zzN ?zzm1 ?zzm2 ?zzi1 ?zzi2 ?zzz ?_; (case zza => rfl); (case zzF => k_asm); (case zzN => k_asm); (case zzm1 => k_mem); (case zzm2 => k_mem); (case zzi1 => k_asm); (case zzi2 => k_asm); (case zzz => (rw [digs_len]; k_extra "m_bnd"))); intro _ _ _ _ _ _ l1' _; (try k_lt l1'); (try k_sweep))
  k_with "eval ListComp" => (k_here; (rename Fr _ _ _ _ => lF'); k_dflt (refine' kz_comp (f := Builtin.bitAnd) lF' (by rfl) (by decide) (by rfl) (by decide) (by rfl) (by rfl) (by decide) (kz_helt (op := .BitAnd) (fun _ => rfl) (fun _ => rfl) (fun _ => rfl) (by decide) (by decide) (fun _ _ _ _ _ _ _ h => and_int (h _ _))) ?_))
  exact True.intro
theorem cc_s_and {x lx y ly : Addr} {cx clx cy cly : Nat} {xs ys : List Value} {X Y : Int} {tw : Tok} (hz : 2 ≤ z) (hz' : z ≤ 9)
    (ix : IntsAre xs (mag z X)) (iy : IntsAre ys (mag z Y)) (hX : X.natAbs < 2 ^ 188) (hY : Y.natAbs < 2 ^ 188) :
    Ct w mean mg mb 5 124 [.ref x, .ref y, .int (z : Int) tw] [(x, tupS (sg X) lx cx), (lx, listOf xs.toArray clx), (y, tupS (sg Y) ly cy), (ly, listOf ys.toArray cly)] (SRes (sg (Builtin.bitAnd X Y)) (mag z (Builtin.bitAnd X Y))) := by
  have h1 := len_of (m := X.natAbs) hz (by omega)
  have h2 := len_of (m := Y.natAbs) hz (by omega)
  have hn := num_op hz bits_and (X := X) (Y := Y) (k := max (limbs z X.natAbs).length (limbs z Y.natAbs).length + 1) (by show (limbs z X.natAbs).length + 1 ≤ _; omega) (by show (limbs z Y.natAbs).length + 1 ≤ _; omega)
  have hx3 : (mag z X).length ≤ max (limbs z X.natAbs).length (limbs z Y.natAbs).length + 1 := by show (limbs z X.natAbs).length ≤ _; omega
  have hy3 : (mag z Y).length ≤ max (limbs z X.natAbs).length (limbs z Y.natAbs).length + 1 := by show (limbs z Y.natAbs).length ≤ _; omega
  k_dflt (refine' ct_of (binds := [(PySem.Str.ofString "x", .ref x), (PySem.Str.ofString "y", .ref y), (PySem.Str.ofString "w", .int (z : Int) tw)]) ?k6 ?k7 ?k9 ?kB ?c5 ?c2 ?c3 ?c4 ?_ ?c6)
  walk_at "ct"
  intro dp un gd outer A₀ base g L' s hd1 hu F N B XK T hl
  (try simp only [List.reverse_cons, List.reverse_nil, List.nil_append, List.cons_append] at F)
  k_fold
  k_steps
theorem rows9 : True := by
  k_with "eval ListComp" => (k_here; (rename Fr _ _ _ _ => lF'); k_dflt (refine' kz_comp (f := Builtin.bitOr) lF' (by rfl) (by decide) (by rfl) (by decide) (by rfl) (by rfl) (by decide) (kz_helt (op := .BitOr) (fun _ => rfl) (fun _ => rfl) (fun _ => rfl) (by decide) (by decide) (fun _ _ _ _ _ _ _ h => or_int (h _ _))) ?_))
  exact True.intro
theorem cc_s_or {x lx y ly : Addr} {cx clx cy cly : Nat} {xs ys : List Value} {X Y : Int} {tw : Tok} (hz : 2 ≤ z) (hz' : z ≤ 9)
    (ix : IntsAre xs (mag z X)) (iy : IntsAre ys (mag z Y)) (hX : X.natAbs < 2 ^ 188) (hY : Y.natAbs < 2 ^ 188) :
    Ct w mean mg mb 5 129 [.ref x, .ref y, .int (z : Int) tw] [(x, tupS (sg X) lx cx), (lx, listOf xs.toArray clx), (y, tupS (sg Y) ly cy), (ly, listOf ys.toArray cly)] (SRes (sg (Builtin.bitOr X Y)) (mag z (Builtin.bitOr X Y))) := by
  have h1 := len_of (m := X.natAbs) hz (by omega)
  have h2 := len_of (m := Y.natAbs) hz (by omega)
  have hn := num_op hz bits_or (X := X) (Y := Y) (k := max (limbs z X.natAbs).length (limbs z Y.natAbs).length + 1) (by show (limbs z X.natAbs).length + 1 ≤ _; omega) (by show (limbs z Y.natAbs).length + 1 ≤ _; omega)
  have hx3 : (mag z X).length ≤ max (limbs z X.natAbs).length (limbs z Y.natAbs).length + 1 := by show (limbs z X.natAbs).length ≤ _; omega
  have hy3 : (mag z Y).length ≤ max (limbs z X.natAbs).length (limbs z Y.natAbs).length + 1 := by show (limbs z Y.natAbs).length ≤ _; omega
  k_dflt (refine' ct_of (binds := [(PySem.Str.ofString "x", .ref x), (PySem.Str.ofString "y", .ref y), (PySem.Str.ofString "w", .int (z : Int) tw)]) ?k6 ?k7 ?k9 ?kB ?c5 ?c2 ?c3 ?c4 ?_ ?c6)
  walk_at "ct"
  intro dp un gd outer A₀ base g L' s hd1 hu F N B XK T hl
  (try simp only [List.reverse_cons, List.reverse_nil, List.nil_append, List.cons_append] at F)
  k_fold
  k_steps
theorem rows10 : True := by
  k_with "eval ListComp" => (k_here; (rename Fr _ _ _ _ => lF'); k_dflt (refine' kz_comp (f := Builtin.bitXor) lF' (by rfl) (by decide) (by rfl) (by decide) (by rfl) (by rfl) (by decide) (kz_helt (op := .BitXor) (fun _ => rfl) (fun _ => rfl) (fun _ => rfl) (by decide) (by decide) (fun _ _ _ _ _ _ _ h => xor_int (h _ _))) ?_))
  exact True.intro
theorem cc_s_xor {x lx y ly : Addr} {cx clx cy cly : Nat} {xs ys : List Value} {X Y : Int} {tw : Tok} (hz : 2 ≤ z) (hz' : z ≤ 9)
    (ix : IntsAre xs (mag z X)) (iy : IntsAre ys (mag z Y)) (hX : X.natAbs < 2 ^ 188) (hY : Y.natAbs < 2 ^ 188) :
    Ct w mean mg mb 5 134 [.ref x, .ref y, .int (z : Int) tw] [(x, tupS (sg X) lx cx), (lx, listOf xs.toArray clx), (y, tupS (sg Y) ly cy), (ly, listOf ys.toArray cly)] (SRes (sg (Builtin.bitXor X Y)) (mag z (Builtin.bitXor X Y))) := by
  have h1 := len_of (m := X.natAbs) hz (by omega)
  have h2 := len_of (m := Y.natAbs) hz (by omega)
  have hn := num_op hz bits_xor (X := X) (Y := Y) (k := max (limbs z X.natAbs).length (limbs z Y.natAbs).length + 1) (by show (limbs z X.natAbs).length + 1 ≤ _; omega) (by show (limbs z Y.natAbs).length + 1 ≤ _; omega)
  have hx3 : (mag z X).length ≤ max (limbs z X.natAbs).length (limbs z Y.natAbs).length + 1 := by show (limbs z X.natAbs).length ≤ _; omega
  have hy3 : (mag z Y).length ≤ max (limbs z X.natAbs).length (limbs z Y.natAbs).length + 1 := by show (limbs z Y.natAbs).length ≤ _; omega
  k_dflt (refine' ct_of (binds := [(PySem.Str.ofString "x", .ref x), (PySem.Str.ofString "y", .ref y), (PySem.Str.ofString "w", .int (z : Int) tw)]) ?k6 ?k7 ?k9 ?kB ?c5 ?c2 ?c3 ?c4 ?_ ?c6)
  walk_at "ct"
  intro dp un gd outer A₀ base g L' s hd1 hu F N B XK T hl
  (try simp only [List.reverse_cons, List.reverse_nil, List.nil_append, List.cons_append] at F)
  k_fold
  k_steps

-- part Fc
theorem rows11 : True := by
  k_with_none
  k_with "ct" => ((case k6 => k_is); (case k7 => k_is); (case k9 => (intro s; exact BindsTo.of_eq rfl)); (case kB => exact locs rfl); (case c5 => decide); (case c2 => exact rfl); (case c3 => exact rfl); (case c4 => exact rfl); (case c6 => decide))
  k_with "ctc" => ((case k6 => k_is); (case k7 => k_is); (case k9 => (intro s; exact BindsTo.of_eq rfl)); (case kB => exact rfl); (case kD => decide +kernel); (case c2 => exact rfl); (case c3 => exact rfl); (case c4 => exact rfl); (case c6 => decide))
  k_with "m_mem" => first | exact List.mem_cons_self | (refine List.mem_cons_of_mem _ ?_; k_extra "m_mem")
  k_with "m_sub" => first | exact True.intro | (refine' And.intro ?zzm1 ?zzm2; (case zzm1 => first | (with_reducible k_extra "m_mem") | k_mem); (case zzm2 => k_extra "m_sub"))
  k_with "PEnd" => (refine' pend ?zzF ?zzN ?zzS ?_ ?zzE; (case zzF => k_asm); (case zzN => k_asm); (case zzS => k_extra "m_sub"); (case zzE => exact rfl); (try dsimp only))
  k_with "SRes" => (refine' sres_of ?zzm1 ?zzm2 ?zzm3 ?_ ?_; (case zzm1 => k_mem); (case zzm2 => k_mem); (case zzm3 => k_asm))
  k_with "LRes" => (refine' lres_of ?zzm2 ?zzm3 ?_; (case zzm2 => k_mem); (case zzm3 => first | k_asm | exact IntsAre.nil | l_ints))
  k_with "LRes" => (refine' lres_push ?zzm2 ?zzm3 ?_; (case zzm2 => k_mem); (case zzm3 => k_asm))
  k_with "IRes" => (refine' ires_of ?_)
  k_with "ORes" => first | refine' ores_none ?_ | refine' ores_some ?_
  k_with "BRes" => (refine' bres_of ?_)
  k_with "binaryOp FloorDiv int int" => (k_here; k_dflt (refine' fdiv_gen ?zza ?zzb ?zzc ?_; (case zza => omega); (case zzb => omega); (case zzc => omega)); intro _ _ _ _)
  k_with "binaryOp Mod int int" => (k_here; k_dflt (refine' fmod_gen ?zza ?zzb ?_; (case zza => omega); (case zzb => omega)); intro _ _ _ _)
  k_with "binaryOp FloorDiv int int" => (k_here; k_dflt (refine' fdiv_known ?zze ?zzb ?zzc ?_; (case zze => assumption); (case zzb => omega); (case zzc => omega)))
  k_with "binaryOp Mod int int" => (k_here; k_dflt (refine' fmod_known ?zze ?zzb ?_; (case zze => assumption); (case zzb => omega)))
  k_with "m_abs" => first | omega | exact LimbB.abs (by assumption) (by assumption) | exact LimbB.absAt (by assumption) _
  k_with "binaryOp LShift int int" => (k_here; k_dflt (refine' lshift_int_small ?zza ?zzb ?zzc ?_; (case zza => omega); (case zzb => omega); (case zzc => k_extra "m_abs")))
  k_with "binaryOp RShift int int" => (k_here; k_dflt (refine' rshift_int ?zza ?_; (case zza => omega)))
  k_with "m_use" => ((case zzB => k_asm); (case zzF => k_asm); (case zzX => k_asm); (case zzN => k_asm); (case zzT => k_asm); (case zzK => first | exact rfl | assumption); (case zzS => k_extra "m_sub"); (case zzD => first | exact dlt (by assumption) (by decide) | omega); (case zzU => first | exact ult (by assumption) (by decide) | omega))
  k_with "subscriptTail Name Slice ref ref" => (k_here; k_dflt (refine' kmk_slice_ints ?zzF ?zzN ?zzl ?zzp ?zzq ?zzi ?zzm ?zzc ?_ ?zzs ?zzt ?zzz; (case zzF => k_asm); (case zzN => k_asm); (case zzl => exact News.isList (by k_asm) (by k_mem)); (case zzp => kmk_part); (case zzq => kmk_part); (case zzi => k_asm); (case zzm => first | exact kmk_all (by assumption) | exact kmk_upto (by assumption) (by omega)); (case zzc => kmk_len); (case zzs => with_unfolding_all rfl); (case zzt => kmk_pure); (case zzz => exact kmk_sz (by assumption) (by rw [sizeLine_eq]; omega))); intro _ _ _ _ _ l1 _ _ _; (try k_lt l1); (try k_sweep))
  k_with "InvEndN" => k_dflt kst_close
  k_with "m_pick" => first | assumption | exact pk0 (by assumption) | exact pk1 (by assumption) | exact pk2 (by assumption) | exact pk3 (by assumption) | exact pl1 (by assumption) | exact pl2 (by assumption) | exact pl3 (by assumption) | exact pl4 (by assumption) | exact pl5 (by assumption) | exact pk4 (by assumption) | exact pk5 (by assumption) | exact pk6 (by assumption)
  k_with "m_ne" => (refine neN ?_; (try dsimp only); with_reducible first | exact Nat.ne_of_lt (by k_extra "m_pick") | exact Nat.ne_of_gt (by k_extra "m_pick") | k_extra "m_pick" | exact Ne.symm (by k_extra "m_pick") | omega)
  k_with "m_om" => first | with_reducible assumption | exact Nat.lt_of_lt_of_le (by with_reducible assumption) (by decide) | exact Nat.le_trans (by with_reducible assumption) (by decide) | exact Nat.lt_of_le_of_lt (by with_reducible assumption) (by decide) | exact Int.lt_of_lt_of_le (by with_reducible assumption) (by decide) | exact Int.le_trans (by with_reducible assumption) (by decide) | exact Int.lt_of_le_of_lt (by with_reducible assumption) (by decide) | exact int_le_of (by with_reducible assumption) (by decide) | exact int_lt_of (by with_reducible assumption) (by decide) | exact nat_le_of (by with_reducible assumption) (by decide) | exact lp_lt (by with_reducible assumption) (by with_reducible assumption) | exact lp_sz' (by with_reducible assumption) (by with_reducible assumption) (by with_reducible assumption) (by with_reducible assumption)
  exact True.intro
theorem sg_sides {X Y : Int} (h : sg X ≠ sg Y) : (X < 0 ∧ 0 ≤ Y) ∨ (0 ≤ X ∧ Y < 0) := by
  by_cases hx : X < 0
  · by_cases hy : Y < 0
    · exact absurd ((decide_eq_true hx).trans (decide_eq_true hy).symm) h
    · exact .inl ⟨hx, Int.not_lt.mp hy⟩
  · by_cases hy : Y < 0
    · exact .inr ⟨Int.not_lt.mp hx, hy⟩
    · exact absurd ((decide_eq_false hx).trans (decide_eq_false hy).symm) h
theorem sg_add {X Y : Int} (h : sg X = sg Y) : (sg X && decide (0 < X.natAbs + Y.natAbs)) = sg (X + Y) ∧ X.natAbs + Y.natAbs = (X + Y).natAbs := by
  have h' : X < 0 ↔ Y < 0 := decide_eq_decide.mp h
  by_cases hx : X < 0
  · have hy := h'.mp hx
    refine ⟨?_, (Int.natAbs_add_of_nonpos (Int.le_of_lt hx) (Int.le_of_lt hy)).symm⟩
    show (decide _ && _) = decide _
    rw [decide_eq_true hx, decide_eq_true (Int.add_neg hx hy), decide_eq_true (Nat.add_pos_left (Int.natAbs_pos.mpr (Int.ne_of_lt hx)) _)]; rfl
  · have hy := fun q => hx (h'.mpr q)
    refine ⟨?_, (Int.natAbs_add_of_nonneg (Int.not_lt.mp hx) (Int.not_lt.mp hy)).symm⟩
    show (decide _ && _) = decide _
    rw [decide_eq_false hx, decide_eq_false (Int.not_lt.mpr (Int.add_nonneg (Int.not_lt.mp hx) (Int.not_lt.mp hy)))]; rfl
theorem sg_subA {X Y : Int} {a b : Nat} (h : ((a : Int) = -X ∧ (b : Int) = Y) ∨ ((a : Int) = X ∧ (b : Int) = -Y)) (hab : a < b) : (Y < 0 ↔ X + Y < 0) ∧ b - a = (X + Y).natAbs := by omega
theorem sg_subB {X Y : Int} {a b : Nat} (h : ((a : Int) = -X ∧ (b : Int) = Y) ∨ ((a : Int) = X ∧ (b : Int) = -Y)) (hab : b ≤ a) : (0 < a - b → (X < 0 ↔ X + Y < 0)) ∧ (a = b → ¬ X + Y < 0) ∧ a - b = (X + Y).natAbs := by omega
theorem sg_abs {X Y : Int} (h : sg X ≠ sg Y) : ((X.natAbs : Int) = -X ∧ (Y.natAbs : Int) = Y) ∨ ((X.natAbs : Int) = X ∧ (Y.natAbs : Int) = -Y) :=
  (sg_sides h).imp (fun q => ⟨Int.ofNat_natAbs_of_nonpos (Int.le_of_lt q.1), Int.natAbs_of_nonneg q.2⟩) fun q => ⟨Int.natAbs_of_nonneg q.1, Int.ofNat_natAbs_of_nonpos (Int.le_of_lt q.2)⟩
theorem sg_subL {X Y : Int} (h : sg X ≠ sg Y) (hl : X.natAbs < Y.natAbs) : (sg Y && decide (0 < Y.natAbs - X.natAbs)) = sg (X + Y) ∧ Y.natAbs - X.natAbs = (X + Y).natAbs := by
  have q := sg_subA (sg_abs h) hl
  refine ⟨?_, q.2⟩
  rw [decide_eq_true (Nat.sub_pos_of_lt hl), Bool.and_true]
  exact decide_eq_decide.mpr q.1
theorem sg_subR {X Y : Int} (h : sg X ≠ sg Y) (hl : ¬ X.natAbs < Y.natAbs) : (sg X && decide (0 < X.natAbs - Y.natAbs)) = sg (X + Y) ∧ X.natAbs - Y.natAbs = (X + Y).natAbs := by
  have q := sg_subB (sg_abs h) (Nat.not_lt.mp hl)
  refine ⟨?_, q.2.2⟩
  by_cases e : X.natAbs = Y.natAbs
  · rw [decide_eq_false (by rw [e, Nat.sub_self]; exact Nat.lt_irrefl 0), Bool.and_false]
    exact (decide_eq_false (q.2.1 e)).symm
  · have hp : 0 < X.natAbs - Y.natAbs := Nat.sub_pos_of_lt (Nat.lt_of_le_of_ne (Nat.not_lt.mp hl) (Ne.symm e))
    rw [decide_eq_true hp, Bool.and_true]
    exact decide_eq_decide.mpr (q.1 hp)
theorem sg_neg (X : Int) : (!sg X && decide (0 < X.natAbs)) = sg (-X) := by
  simp only [sg]
  rw [Bool.eq_iff_iff]
  simp only [Bool.and_eq_true, decide_eq_true_eq, Bool.not_eq_true', decide_eq_false_iff_not]
  omega
theorem sg_t {X : Int} (h : sg X = true) : X < 0 ∧ 1 ≤ X.natAbs := by
  have := of_decide_eq_true h
  omega
theorem sg_f {X : Int} (h : sg X = false) : 0 ≤ X := by
  have := of_decide_eq_false h
  omega
theorem sg_lt {X : Int} (h : X < 0) : sg X = true := decide_eq_true h
theorem sg_ge {X : Int} (h : 0 ≤ X) : sg X = false := decide_eq_false (by omega)
theorem len_pos {z m : Nat} (hz : 2 ≤ z) : 0 < (limbs z m).length ↔ 0 < m := by
  by_cases h : m = 0
  · subst h; simp [limbs_zero]
  · rw [limbs_pos (by omega) (by omega)]; simp; omega
/-- a shift by a number of either sign -/
noncomputable def shiftI (X n : Int) : Int := if 0 ≤ n then X * 2 ^ n.toNat else X / 2 ^ (-n).toNat
theorem pow_cast (k : Nat) : (2 : Int) ^ k = ((2 ^ k : Nat) : Int) := (kbt_cast k).symm
theorem shiftL {X n : Int} (h : 0 ≤ n) : (sg X && decide (0 < X.natAbs * 2 ^ n.toNat)) = sg (shiftI X n) ∧ X.natAbs * 2 ^ n.toNat = (shiftI X n).natAbs := by
  rw [shiftI, if_pos h]
  have hp := two_pos n.toNat
  have e : (X * 2 ^ n.toNat).natAbs = X.natAbs * 2 ^ n.toNat := by rw [Int.natAbs_mul, pow_cast, Int.natAbs_natCast]
  refine ⟨?_, e.symm⟩
  rw [← e]
  simp only [sg]
  rw [Bool.eq_iff_iff]
  simp only [Bool.and_eq_true, decide_eq_true_eq]
  constructor
  · rintro ⟨h1, _⟩; exact Int.mul_neg_of_neg_of_pos h1 hp
  · intro h1
    have hx : X < 0 := by
      by_cases hx : X < 0
      · exact hx
      · have := Int.mul_nonneg (show 0 ≤ X by omega) (Int.le_of_lt hp); omega
    exact ⟨hx, by omega⟩
theorem div_neg {X : Int} {P : Nat} (hP : 0 < P) (h : X < 0) : X / (P : Int) = if 0 < X.natAbs % P then -((X.natAbs / P : Nat) : Int) - 1 else -((X.natAbs / P : Nat) : Int) := by
  have h1 := Nat.mod_add_div X.natAbs P
  have h2 := Nat.mod_lt X.natAbs hP
  have h3 : ((X.natAbs % P + P * (X.natAbs / P) : Nat) : Int) = X.natAbs := by rw [h1]
  rw [Int.natCast_add, Int.natCast_mul] at h3
  by_cases hr : 0 < X.natAbs % P
  · rw [if_pos hr]
    refine (kbt_unique (b := (P : Int)) (r := (P : Int) - ((X.natAbs % P : Nat) : Int)) (by omega) ?_ (by omega) (by omega)).1
    rw [Int.mul_sub, Int.mul_neg, Int.mul_one]
    omega
  · rw [if_neg hr]
    refine (kbt_unique (b := (P : Int)) (r := 0) (by omega) ?_ (by omega) (by omega)).1
    rw [Int.mul_neg]
    omega
theorem shiftR1 {X n : Int} (hn : ¬ 0 ≤ n) (h : sg X = true) (hl : 0 < X.natAbs % 2 ^ (-n).toNat) : (sg X && decide (0 < X.natAbs / 2 ^ (-n).toNat + 1)) = sg (shiftI X n) ∧ X.natAbs / 2 ^ (-n).toNat + 1 = (shiftI X n).natAbs := by
  have h1 := (sg_t h).1
  have e := div_neg (Nat.two_pow_pos (-n).toNat) h1
  rw [if_pos hl] at e
  rw [shiftI, if_neg hn, pow_cast, e, h]
  generalize X.natAbs / 2 ^ (-n).toNat = Q
  refine ⟨?_, by omega⟩
  rw [sg_lt (by omega), decide_eq_true (by omega)]; rfl
theorem shiftR2 {X n : Int} (hn : ¬ 0 ≤ n) (h : sg X = true) (hl : ¬ 0 < X.natAbs % 2 ^ (-n).toNat) : (sg X && decide (0 < X.natAbs / 2 ^ (-n).toNat)) = sg (shiftI X n) ∧ X.natAbs / 2 ^ (-n).toNat = (shiftI X n).natAbs := by
  have h1 := sg_t h
  have e := div_neg (Nat.two_pow_pos (-n).toNat) h1.1
  rw [if_neg hl] at e
  rw [shiftI, if_neg hn, pow_cast, e, h]
  have hm := Nat.mod_add_div X.natAbs (2 ^ (-n).toNat)
  have hq : 0 < X.natAbs / 2 ^ (-n).toNat := by
    rcases Nat.eq_zero_or_pos (X.natAbs / 2 ^ (-n).toNat) with q | q
    · rw [q] at hm; omega
    · exact q
  generalize X.natAbs / 2 ^ (-n).toNat = Q at *
  refine ⟨?_, by omega⟩
  rw [sg_lt (by omega), decide_eq_true hq]; rfl
theorem shiftR3 {X n : Int} (hn : ¬ 0 ≤ n) (h : sg X = false) : (sg X && decide (0 < X.natAbs / 2 ^ (-n).toNat)) = sg (shiftI X n) ∧ X.natAbs / 2 ^ (-n).toNat = (shiftI X n).natAbs := by
  have h1 := sg_f h
  have e : X = (X.natAbs : Int) := by omega
  have e2 : X / ((2 ^ (-n).toNat : Nat) : Int) = ((X.natAbs / 2 ^ (-n).toNat : Nat) : Int) := by rw [Int.natCast_ediv, ← e]
  rw [shiftI, if_neg hn, pow_cast, e2, h]
  generalize X.natAbs / 2 ^ (-n).toNat = Q
  rw [sg_ge (by omega)]
  exact ⟨rfl, by omega⟩
theorem rows12 : True := by
  k_with "m_bnd" => first | assumption | omega | (have hSg := sg_t (by assumption); omega) | (have hSg := sg_f (by assumption); omega)
  k_with "m_i" => first | k_asm | exact one_ints (by assumption) | exact nil_ints | exact two_ints (by assumption)
  k_with "call ref" => (k_here; (with_reducible show wpAny _ _ (call (Value.ref 60) _ _) _ _ _); k_dflt (refine' use_L ?zzB ?zzF ?zzX ?zzN ?zzT ?zzK (cc_add ?zzz1 ?zzz2 ?zzi1 ?zzi2 ?zzb1 ?zzb2) ?zzS ?zzD ?zzU ?_; (k_extra "m_use"); (case zzi1 => k_extra "m_i"); (case zzi2 => k_extra "m_i"); (case zzz1 => assumption); (case zzz2 => assumption); (case zzb1 => k_extra "m_bnd"); (case zzb2 => k_extra "m_bnd")); intro _ _ _ _ _ _ _ _; (try k_sweep))
  k_with "call ref" => (k_here; (with_reducible show wpAny _ _ (call (Value.ref 67) _ _) _ _ _); k_dflt (refine' use_L ?zzB ?zzF ?zzX ?zzN ?zzT ?zzK (cc_sub ?zzz1 ?zzz2 ?zzi1 ?zzi2 ?zzb1 ?zzb2) ?zzS ?zzD ?zzU ?_; (k_extra "m_use"); (case zzi1 => k_extra "m_i"); (case zzi2 => k_extra "m_i"); (case zzz1 => assumption); (case zzz2 => assumption); (case zzb1 => k_extra "m_bnd"); (case zzb2 => k_extra "m_bnd")); intro _ _ _ _ _ _ _ _; (try k_sweep))
  k_with "call ref" => (k_here; (with_reducible show wpAny _ _ (call (Value.ref 53) _ _) _ _ _); k_dflt (refine' use_I ?zzB ?zzF ?zzX ?zzN ?zzT ?zzK (cc_compare ?zzz1 ?zzi1 ?zzi2 ?zzb1 ?zzb2) ?zzS ?zzD ?zzU ?_; (k_extra "m_use"); (case zzi1 => k_extra "m_i"); (case zzi2 => k_extra "m_i"); (case zzz1 => assumption); (case zzb1 => k_extra "m_bnd"); (case zzb2 => k_extra "m_bnd")); intro _ _ _ _ _; (try k_sweep))
  k_with "call ref" => (k_here; (with_reducible show wpAny _ _ (call (Value.ref 74) _ _) _ _ _); k_dflt (refine' use_L ?zzB ?zzF ?zzX ?zzN ?zzT ?zzK (cc_add_limb ?zzz1 ?zzz2 ?zzi1 ?zzb1) ?zzS ?zzD ?zzU ?_; (k_extra "m_use"); (case zzi1 => k_extra "m_i"); (case zzz1 => assumption); (case zzz2 => assumption); (case zzb1 => k_extra "m_bnd")); intro _ _ _ _ _ _ _ _; (try k_sweep))
  k_with "call ref" => (k_here; (with_reducible show wpAny _ _ (call (Value.ref 81) _ _) _ _ _); k_dflt (refine' use_L ?zzB ?zzF ?zzX ?zzN ?zzT ?zzK (cc_shift_left ?zzz1 ?zzz2 ?zzi1 ?zzb1 ?zzb2 ?zzb3) ?zzS ?zzD ?zzU ?_; (k_extra "m_use"); (case zzi1 => k_extra "m_i"); (case zzz1 => assumption); (case zzz2 => assumption); (case zzb1 => k_extra "m_bnd"); (case zzb2 => k_extra "m_bnd"); (case zzb3 => k_extra "m_bnd")); intro _ _ _ _ _ _ _ _; (try k_sweep))
  k_with "call ref" => (k_here; (with_reducible show wpAny _ _ (call (Value.ref 88) _ _) _ _ _); k_dflt (refine' use_L ?zzB ?zzF ?zzX ?zzN ?zzT ?zzK (cc_shift_right ?zzz1 ?zzz2 ?zzi1 ?zzb1 ?zzb2 ?zzb3) ?zzS ?zzD ?zzU ?_; (k_extra "m_use"); (case zzi1 => k_extra "m_i"); (case zzz1 => assumption); (case zzz2 => assumption); (case zzb1 => k_extra "m_bnd"); (case zzb2 => k_extra "m_bnd"); (case zzb3 => k_extra "m_bnd")); intro _ _ _ _ _ _ _ _; (try k_sweep))
  k_with "call ref" => (k_here; (with_reducible show wpAny _ _ (call (Value.ref 95) _ _) _ _ _); k_dflt (refine' use_I ?zzB ?zzF ?zzX ?zzN ?zzT ?zzK (cc_bit ?zzz1 ?zzz2 ?zzi1 ?zzb1 ?zzb2 ?zzb3) ?zzS ?zzD ?zzU ?_; (k_extra "m_use"); (case zzi1 => k_extra "m_i"); (case zzz1 => assumption); (case zzz2 => assumption); (case zzb1 => k_extra "m_bnd"); (case zzb2 => k_extra "m_bnd"); (case zzb3 => k_extra "m_bnd")); intro _ _ _ _ _; (try k_sweep))
  k_with "call ref" => (k_here; (with_reducible show wpAny _ _ (call (Value.ref 102) _ _) _ _ _); k_dflt (refine' use_L ?zzB ?zzF ?zzX ?zzN ?zzT ?zzK (cc_low ?zzz1 ?zzz2 ?zzi1 ?zzb1 ?zzb2 ?zzb3) ?zzS ?zzD ?zzU ?_; (k_extra "m_use"); (case zzi1 => k_extra "m_i"); (case zzz1 => assumption); (case zzz2 => assumption); (case zzb1 => k_extra "m_bnd"); (case zzb2 => k_extra "m_bnd"); (case zzb3 => k_extra "m_bnd")); intro _ _ _ _ _ _ _ _; (try k_sweep))
  k_with "call ref" => (k_here; (with_reducible show wpAny _ _ (call (Value.ref 209) _ _) _ _ _); k_dflt (refine' use_S ?zzB ?zzF ?zzX ?zzN ?zzT ?zzK (cc_signed ?zzz1 ?zzi1 ?zzb1) ?zzS ?zzD ?zzU ?_; (k_extra "m_use"); (case zzi1 => k_extra "m_i"); (case zzz1 => assumption); (case zzb1 => k_extra "m_bnd")); intro _ _ _ _ _ _ _ _ _ _; (try k_sweep))
  k_with "call ref" => (k_here; (with_reducible show wpAny _ _ (call (Value.ref 188) _ _) _ _ _); k_dflt (refine' use_I ?zzB ?zzF ?zzX ?zzN ?zzT ?zzK (cc_nat_ones ?zzz1 ?zzz2 ?zzi1 ?zzb1) ?zzS ?zzD ?zzU ?_; (k_extra "m_use"); (case zzi1 => k_extra "m_i"); (case zzz1 => assumption); (case zzz2 => assumption); (case zzb1 => k_extra "m_bnd")); intro _ _ _ _ _; (try k_sweep))
  exact True.intro
theorem cc_s_neg {x lx : Addr} {cx clx : Nat} {xs : List Value} {X : Int} (hz : 2 ≤ z)
    (ix : IntsAre xs (mag z X)) (hX : X.natAbs < 2 ^ 188) :
    Ct w mean mg mb 2 216 [.ref x] [(x, tupS (sg X) lx cx), (lx, listOf xs.toArray clx)] (SRes (sg (-X)) (mag z (-X))) := by
  k_dflt (refine' ct_of (binds := [(PySem.Str.ofString "x", .ref x)]) ?k6 ?k7 ?k9 ?kB ?c5 ?c2 ?c3 ?c4 ?_ ?c6)
  walk_at "ct"
  intro dp un gd outer A₀ base g L' s hd1 hu F N B XK T hl
  (try simp only [List.reverse_cons, List.reverse_nil, List.nil_append, List.cons_append] at F)
  k_fold
  k_steps
  · exact sg_neg _
  · rw [mag, Int.natAbs_neg]
theorem cc_s_add {x lx y ly : Addr} {cx clx cy cly : Nat} {xs ys : List Value} {X Y : Int} {tw : Tok} (hz : 2 ≤ z) (hz' : z ≤ 9)
    (ix : IntsAre xs (mag z X)) (iy : IntsAre ys (mag z Y)) (hX : X.natAbs < 2 ^ 188) (hY : Y.natAbs < 2 ^ 188) :
    Ct w mean mg mb 4 223 [.ref x, .ref y, .int (z : Int) tw] [(x, tupS (sg X) lx cx), (lx, listOf xs.toArray clx), (y, tupS (sg Y) ly cy), (ly, listOf ys.toArray cly)] (SRes (sg (X + Y)) (mag z (X + Y))) := by
  have hc := cmpL_limbs (w := z) (by omega) X.natAbs Y.natAbs
  k_dflt (refine' ct_of (binds := [(PySem.Str.ofString "x", .ref x), (PySem.Str.ofString "y", .ref y), (PySem.Str.ofString "w", .int (z : Int) tw)]) ?k6 ?k7 ?k9 ?kB ?c5 ?c2 ?c3 ?c4 ?_ ?c6)
  walk_at "ct"
  intro dp un gd outer A₀ base g L' s hd1 hu F N B XK T hl
  (try simp only [List.reverse_cons, List.reverse_nil, List.nil_append, List.cons_append] at F)
  k_fold
  k_steps
  · exact (sg_add (eq_of_beq (by assumption))).1
  · rw [mag, (sg_add (X := X) (Y := Y) (eq_of_beq (by assumption))).2]
  · exact (sg_subL (beq_eq_false_iff_ne.mp (by assumption)) (hc.mp (by assumption))).1
  · rw [mag, (sg_subL (X := X) (Y := Y) (beq_eq_false_iff_ne.mp (by assumption)) (hc.mp (by assumption))).2]
  · exact (sg_subR (beq_eq_false_iff_ne.mp (by assumption)) (fun h => absurd (hc.mpr h) (by assumption))).1
  · rw [mag, (sg_subR (X := X) (Y := Y) (beq_eq_false_iff_ne.mp (by assumption)) (fun h => absurd (hc.mpr h) (by assumption))).2]
theorem cc_s_not {x lx : Addr} {cx clx : Nat} {xs : List Value} {X : Int} {tw : Tok} (hz : 2 ≤ z) (hz' : z ≤ 9)
    (ix : IntsAre xs (mag z X)) (hX : X.natAbs < 2 ^ 188) :
    Ct w mean mg mb 4 141 [.ref x, .int (z : Int) tw] [(x, tupS (sg X) lx cx), (lx, listOf xs.toArray clx)] (SRes (sg (-X - 1)) (mag z (-X - 1))) := by
  k_dflt (refine' ct_of (binds := [(PySem.Str.ofString "x", .ref x), (PySem.Str.ofString "w", .int (z : Int) tw)]) ?k6 ?k7 ?k9 ?kB ?c5 ?c2 ?c3 ?c4 ?_ ?c6)
  walk_at "ct"
  intro dp un gd outer A₀ base g L' s hd1 hu F N B XK T hl
  (try simp only [List.reverse_cons, List.reverse_nil, List.nil_append, List.cons_append] at F)
  k_fold
  k_steps
  · rw [sg_ge]; have := sg_t (by assumption); omega
  · rw [mag]; congr 1; have := sg_t (by assumption); omega
  · rw [sg_lt]; have := sg_f (by assumption); omega
  · rw [mag]; congr 1; have := sg_f (by assumption); omega
theorem bit_neg {X : Int} (h : X < 0) (k : Nat) : 1 - ((X.natAbs - 1 : Nat) : Int) / 2 ^ k % 2 = X / 2 ^ k % 2 := by
  have e : ((X.natAbs - 1 : Nat) : Int) = -X - 1 := by omega
  have h1 := (kbt_below X (two_pos k)).1
  rw [e]
  omega
theorem cc_s_bit {x lx : Addr} {cx clx : Nat} {xs : List Value} {X n : Int} {tn tw : Tok} (hz : 2 ≤ z) (hz' : z ≤ 9)
    (ix : IntsAre xs (mag z X)) (hX : X.natAbs < 2 ^ 188) (hn : 0 ≤ n) (hn' : n < 100) :
    Ct w mean mg mb 4 148 [.ref x, .int n tn, .int (z : Int) tw] [(x, tupS (sg X) lx cx), (lx, listOf xs.toArray clx)] (IRes (X / 2 ^ n.toNat % 2)) := by
  k_dflt (refine' ct_of (binds := [(PySem.Str.ofString "x", .ref x), (PySem.Str.ofString "n", .int n tn), (PySem.Str.ofString "w", .int (z : Int) tw)]) ?k6 ?k7 ?k9 ?kB ?c5 ?c2 ?c3 ?c4 ?_ ?c6)
  walk_at "ct"
  intro dp un gd outer A₀ base g L' s hd1 hu F N B XK T hl
  (try simp only [List.reverse_cons, List.reverse_nil, List.nil_append, List.cons_append] at F)
  k_fold
  k_steps
  · exact bit_neg (sg_t (by assumption)).1 _
  · have := sg_f (by assumption)
    rw [Int.natAbs_of_nonneg this]
theorem cc_one_at {n : Int} {tn tw : Tok} (hz : 2 ≤ z) (hz' : z ≤ 9) (hn : 0 ≤ n) (hn' : n < 100) :
    Ct w mean mg mb 2 155 [.int n tn, .int (z : Int) tw] [] (LRes (limbs z (2 ^ n.toNat))) := by
  k_dflt (refine' ct_of (binds := [(PySem.Str.ofString "n", .int n tn), (PySem.Str.ofString "w", .int (z : Int) tw)]) ?k6 ?k7 ?k9 ?kB ?c5 ?c2 ?c3 ?c4 ?_ ?c6)
  walk_at "ct"
  intro dp un gd outer A₀ base g L' s hd1 hu F N B XK T hl
  (try simp only [List.reverse_cons, List.reverse_nil, List.nil_append, List.cons_append] at F)
  k_fold
  k_steps
  rw [Nat.one_mul]
theorem cc_s_shift {x lx : Addr} {cx clx : Nat} {xs : List Value} {X n : Int} {tn tw : Tok} (hz : 2 ≤ z) (hz' : z ≤ 9)
    (ix : IntsAre xs (mag z X)) (hX : X.natAbs < 2 ^ 188) (hn : -100 < n) (hn' : n < 100) (hp : X.natAbs * 2 ^ n.toNat < 2 ^ 188) :
    Ct w mean mg mb 4 237 [.ref x, .int n tn, .int (z : Int) tw] [(x, tupS (sg X) lx cx), (lx, listOf xs.toArray clx)] (SRes (sg (shiftI X n)) (mag z (shiftI X n))) := by
  have hq : X.natAbs / 2 ^ (-n).toNat ≤ X.natAbs := Nat.div_le_self _ _
  have hr : X.natAbs % 2 ^ (-n).toNat ≤ X.natAbs := Nat.mod_le _ _
  have hlp := len_pos (m := X.natAbs % 2 ^ (-n).toNat) hz
  k_dflt (refine' ct_of (binds := [(PySem.Str.ofString "x", .ref x), (PySem.Str.ofString "n", .int n tn), (PySem.Str.ofString "w", .int (z : Int) tw)]) ?k6 ?k7 ?k9 ?kB ?c5 ?c2 ?c3 ?c4 ?_ ?c6)
  walk_at "ct"
  intro dp un gd outer A₀ base g L' s hd1 hu F N B XK T hl
  (try simp only [List.reverse_cons, List.reverse_nil, List.nil_append, List.cons_append] at F)
  k_fold
  k_steps
  · exact (shiftL (by omega)).1
  · rw [mag, (shiftL (by omega)).2]
  · exact (shiftR1 (by omega) (by assumption) (hlp.mp (by omega))).1
  · rw [mag, (shiftR1 (by omega) (by assumption) (hlp.mp (by omega))).2]
  · exact (shiftR2 (by omega) (by assumption) (fun h => absurd (hlp.mpr h) (by omega))).1
  · rw [mag, (shiftR2 (by omega) (by assumption) (fun h => absurd (hlp.mpr h) (by omega))).2]
  · exact (shiftR3 (by omega) (by assumption)).1
  · rw [mag, (shiftR3 (by omega) (by assumption)).2]

-- part Gc
theorem rows13 : True := by
  k_with_none
  k_with "ct" => ((case k6 => k_is); (case k7 => k_is); (case k9 => (intro s; exact BindsTo.of_eq rfl)); (case kB => exact locs rfl); (case c5 => decide); (case c2 => exact rfl); (case c3 => exact rfl); (case c4 => exact rfl); (case c6 => decide))
  k_with "ctc" => ((case k6 => k_is); (case k7 => k_is); (case k9 => (intro s; exact BindsTo.of_eq rfl)); (case kB => exact rfl); (case kD => decide +kernel); (case c2 => exact rfl); (case c3 => exact rfl); (case c4 => exact rfl); (case c6 => decide))
  k_with "m_mem" => first | exact List.mem_cons_self | (refine List.mem_cons_of_mem _ ?_; k_extra "m_mem")
  k_with "m_sub" => first | exact True.intro | (refine' And.intro ?zzm1 ?zzm2; (case zzm1 => first | (with_reducible k_extra "m_mem") | k_mem); (case zzm2 => k_extra "m_sub"))
  k_with "PEnd" => (refine' pend ?zzF ?zzN ?zzS ?_ ?zzE; (case zzF => k_asm); (case zzN => k_asm); (case zzS => k_extra "m_sub"); (case zzE => exact rfl); (try dsimp only))
  k_with "SRes" => (refine' sres_of ?zzm1 ?zzm2 ?zzm3 ?_ ?_; (case zzm1 => k_mem); (case zzm2 => k_mem); (case zzm3 => k_asm))
  k_with "LRes" => (refine' lres_of ?zzm2 ?zzm3 ?_; (case zzm2 => k_mem); (case zzm3 => first | k_asm | exact IntsAre.nil | l_ints))
  k_with "LRes" => (refine' lres_push ?zzm2 ?zzm3 ?_; (case zzm2 => k_mem); (case zzm3 => k_asm))
  k_with "IRes" => (refine' ires_of ?_)
  k_with "ORes" => first | refine' ores_none ?_ | refine' ores_some ?_
  k_with "BRes" => (refine' bres_of ?_)
  k_with "binaryOp FloorDiv int int" => (k_here; k_dflt (refine' fdiv_gen ?zza ?zzb ?zzc ?_; (case zza => omega); (case zzb => omega); (case zzc => omega)); intro _ _ _ _)
  k_with "binaryOp Mod int int" => (k_here; k_dflt (refine' fmod_gen ?zza ?zzb ?_; (case zza => omega); (case zzb => omega)); intro _ _ _ _)
  k_with "binaryOp FloorDiv int int" => (k_here; k_dflt (refine' fdiv_known ?zze ?zzb ?zzc ?_; (case zze => assumption); (case zzb => omega); (case zzc => omega)))
  k_with "binaryOp Mod int int" => (k_here; k_dflt (refine' fmod_known ?zze ?zzb ?_; (case zze => assumption); (case zzb => omega)))
  k_with "m_abs" => first | omega | exact LimbB.abs (by assumption) (by assumption) | exact LimbB.absAt (by assumption) _
  k_with "binaryOp LShift int int" => (k_here; k_dflt (refine' lshift_int_small ?zza ?zzb ?zzc ?_; (case zza => omega); (case zzb => omega); (case zzc => k_extra "m_abs")))
  k_with "binaryOp RShift int int" => (k_here; k_dflt (refine' rshift_int ?zza ?_; (case zza => omega)))
  k_with "m_use" => ((case zzB => k_asm); (case zzF => k_asm); (case zzX => k_asm); (case zzN => k_asm); (case zzT => k_asm); (case zzK => first | exact rfl | assumption); (case zzS => k_extra "m_sub"); (case zzD => first | exact dlt (by assumption) (by decide) | omega); (case zzU => first | exact ult (by assumption) (by decide) | omega))
  k_with "subscriptTail Name Slice ref ref" => (k_here; k_dflt (refine' kmk_slice_ints ?zzF ?zzN ?zzl ?zzp ?zzq ?zzi ?zzm ?zzc ?_ ?zzs ?zzt ?zzz; (case zzF => k_asm); (case zzN => k_asm); (case zzl => exact News.isList (by k_asm) (by k_mem)); (case zzp => kmk_part); (case zzq => kmk_part); (case zzi => k_asm); (case zzm => first | exact kmk_all (by assumption) | exact kmk_upto (by assumption) (by omega)); (case zzc => kmk_len); (case zzs => with_unfolding_all rfl); (case zzt => kmk_pure); (case zzz => exact kmk_sz (by assumption) (by rw [sizeLine_eq]; omega))); intro _ _ _ _ _ l1 _ _ _; (try k_lt l1); (try k_sweep))
  k_with "InvEndN" => k_dflt kst_close
  k_with "m_pick" => first | assumption | exact pk0 (by assumption) | exact pk1 (by assumption) | exact pk2 (by assumption) | exact pk3 (by assumption) | exact pl1 (by assumption) | exact pl2 (by assumption) | exact pl3 (by assumption) | exact pl4 (by assumption) | exact pl5 (by assumption) | exact pk4 (by assumption) | exact pk5 (by assumption) | exact pk6 (by assumption)
  k_with "m_ne" => (refine neN ?_; (try dsimp only); with_reducible first | exact Nat.ne_of_lt (by k_extra "m_pick") | exact Nat.ne_of_gt (by k_extra "m_pick") | k_extra "m_pick" | exact Ne.symm (by k_extra "m_pick") | omega)
  k_with "m_om" => first | with_reducible assumption | exact Nat.lt_of_lt_of_le (by with_reducible assumption) (by decide) | exact Nat.le_trans (by with_reducible assumption) (by decide) | exact Nat.lt_of_le_of_lt (by with_reducible assumption) (by decide) | exact Int.lt_of_lt_of_le (by with_reducible assumption) (by decide) | exact Int.le_trans (by with_reducible assumption) (by decide) | exact Int.lt_of_le_of_lt (by with_reducible assumption) (by decide) | exact int_le_of (by with_reducible assumption) (by decide) | exact int_lt_of (by with_reducible assumption) (by decide) | exact nat_le_of (by with_reducible assumption) (by decide) | exact lp_lt (by with_reducible assumption) (by with_reducible assumption) | exact lp_sz' (by with_reducible assumption) (by with_reducible assumption) (by with_reducible assumption) (by with_reducible assumption)
  exact True.intro
theorem pow_lt100 {n : Int} (hn' : n < 100) : 2 ^ n.toNat < 2 ^ 100 := Nat.pow_lt_pow_right (by decide) (by omega)
theorem bit_lo {X : Int} {k : Nat} (h : X < 0) (hb : ¬ X / 2 ^ k % 2 = 1) : 2 ^ k + 1 ≤ X.natAbs := by
  have hp := two_pos k
  have h1 := Int.emod_add_mul_ediv X (2 ^ k)
  have h2 := Int.emod_nonneg X (show (2 : Int) ^ k ≠ 0 by omega)
  have h3 := Int.emod_lt_of_pos X hp
  have h4 : X / 2 ^ k ≤ -2 := by
    have h5 : X / 2 ^ k < 0 := Int.ediv_neg_of_neg_of_pos h hp
    omega
  have h6 : 2 ^ k * (X / 2 ^ k) ≤ 2 ^ k * (-2) := Int.mul_le_mul_of_nonneg_left h4 (Int.le_of_lt hp)
  have h7 := pow_cast k
  omega
theorem bit_hi {X : Int} {k : Nat} (h : 0 ≤ X) (hb : ¬ X / 2 ^ k % 2 = 0) : 2 ^ k ≤ X.natAbs := by
  have hp := two_pos k
  have h7 := pow_cast k
  by_cases hl : X < 2 ^ k
  · rw [Int.ediv_eq_zero_of_lt h hl] at hb
    exact absurd rfl hb
  · omega
noncomputable def setI (X n : Int) : Int := if X / 2 ^ n.toNat % 2 = 1 then X else X + 2 ^ n.toNat
noncomputable def clrI (X n : Int) : Int := if X / 2 ^ n.toNat % 2 = 0 then X else X - 2 ^ n.toNat
noncomputable def flipI (X n : Int) : Int := if X / 2 ^ n.toNat % 2 = 1 then X - 2 ^ n.toNat else X + 2 ^ n.toNat
noncomputable def distI (X Y : Int) : Option Int := if sg X = sg Y then some (onesI (Builtin.bitXor X Y).natAbs) else none
noncomputable def cntI (X : Int) : Option Int := if sg X = true then none else some (onesI X.natAbs)
theorem rows14 : True := by
  k_with "m_bnd" => first | assumption | omega | (have hSg := sg_t (by assumption); omega) | (have hSg := sg_f (by assumption); omega)
  k_with "m_i" => first | k_asm | exact one_ints (by assumption) | exact nil_ints | exact two_ints (by assumption)
  k_with "call ref" => (k_here; (with_reducible show wpAny _ _ (call (Value.ref 60) _ _) _ _ _); k_dflt (refine' use_L ?zzB ?zzF ?zzX ?zzN ?zzT ?zzK (cc_add ?zzz1 ?zzz2 ?zzi1 ?zzi2 ?zzb1 ?zzb2) ?zzS ?zzD ?zzU ?_; (k_extra "m_use"); (case zzi1 => k_extra "m_i"); (case zzi2 => k_extra "m_i"); (case zzz1 => assumption); (case zzz2 => assumption); (case zzb1 => k_extra "m_bnd"); (case zzb2 => k_extra "m_bnd")); intro _ _ _ _ _ _ _ _; (try k_sweep))
  k_with "call ref" => (k_here; (with_reducible show wpAny _ _ (call (Value.ref 67) _ _) _ _ _); k_dflt (refine' use_L ?zzB ?zzF ?zzX ?zzN ?zzT ?zzK (cc_sub ?zzz1 ?zzz2 ?zzi1 ?zzi2 ?zzb1 ?zzb2) ?zzS ?zzD ?zzU ?_; (k_extra "m_use"); (case zzi1 => k_extra "m_i"); (case zzi2 => k_extra "m_i"); (case zzz1 => assumption); (case zzz2 => assumption); (case zzb1 => k_extra "m_bnd"); (case zzb2 => k_extra "m_bnd")); intro _ _ _ _ _ _ _ _; (try k_sweep))
  k_with "call ref" => (k_here; (with_reducible show wpAny _ _ (call (Value.ref 53) _ _) _ _ _); k_dflt (refine' use_I ?zzB ?zzF ?zzX ?zzN ?zzT ?zzK (cc_compare ?zzz1 ?zzi1 ?zzi2 ?zzb1 ?zzb2) ?zzS ?zzD ?zzU ?_; (k_extra "m_use"); (case zzi1 => k_extra "m_i"); (case zzi2 => k_extra "m_i"); (case zzz1 => assumption); (case zzb1 => k_extra "m_bnd"); (case zzb2 => k_extra "m_bnd")); intro _ _ _ _ _; (try k_sweep))
  k_with "call ref" => (k_here; (with_reducible show wpAny _ _ (call (Value.ref 74) _ _) _ _ _); k_dflt (refine' use_L ?zzB ?zzF ?zzX ?zzN ?zzT ?zzK (cc_add_limb ?zzz1 ?zzz2 ?zzi1 ?zzb1) ?zzS ?zzD ?zzU ?_; (k_extra "m_use"); (case zzi1 => k_extra "m_i"); (case zzz1 => assumption); (case zzz2 => assumption); (case zzb1 => k_extra "m_bnd")); intro _ _ _ _ _ _ _ _; (try k_sweep))
  k_with "call ref" => (k_here; (with_reducible show wpAny _ _ (call (Value.ref 81) _ _) _ _ _); k_dflt (refine' use_L ?zzB ?zzF ?zzX ?zzN ?zzT ?zzK (cc_shift_left ?zzz1 ?zzz2 ?zzi1 ?zzb1 ?zzb2 ?zzb3) ?zzS ?zzD ?zzU ?_; (k_extra "m_use"); (case zzi1 => k_extra "m_i"); (case zzz1 => assumption); (case zzz2 => assumption); (case zzb1 => k_extra "m_bnd"); (case zzb2 => k_extra "m_bnd"); (case zzb3 => k_extra "m_bnd")); intro _ _ _ _ _ _ _ _; (try k_sweep))
  k_with "call ref" => (k_here; (with_reducible show wpAny _ _ (call (Value.ref 88) _ _) _ _ _); k_dflt (refine' use_L ?zzB ?zzF ?zzX ?zzN ?zzT ?zzK (cc_shift_right ?zzz1 ?zzz2 ?zzi1 ?zzb1 ?zzb2 ?zzb3) ?zzS ?zzD ?zzU ?_; (k_extra "m_use"); (case zzi1 => k_extra "m_i"); (case zzz1 => assumption); (case zzz2 => assumption); (case zzb1 => k_extra "m_bnd"); (case zzb2 => k_extra "m_bnd"); (case zzb3 => k_extra "m_bnd")); intro _ _ _ _ _ _ _ _; (try k_sweep))
  k_with "call ref" => (k_here; (with_reducible show wpAny _ _ (call (Value.ref 95) _ _) _ _ _); k_dflt (refine' use_I ?zzB ?zzF ?zzX ?zzN ?zzT ?zzK (cc_bit ?zzz1 ?zzz2 ?zzi1 ?zzb1 ?zzb2 ?zzb3) ?zzS ?zzD ?zzU ?_; (k_extra "m_use"); (case zzi1 => k_extra "m_i"); (case zzz1 => assumption); (case zzz2 => assumption); (case zzb1 => k_extra "m_bnd"); (case zzb2 => k_extra "m_bnd"); (case zzb3 => k_extra "m_bnd")); intro _ _ _ _ _; (try k_sweep))
  k_with "call ref" => (k_here; (with_reducible show wpAny _ _ (call (Value.ref 102) _ _) _ _ _); k_dflt (refine' use_L ?zzB ?zzF ?zzX ?zzN ?zzT ?zzK (cc_low ?zzz1 ?zzz2 ?zzi1 ?zzb1 ?zzb2 ?zzb3) ?zzS ?zzD ?zzU ?_; (k_extra "m_use"); (case zzi1 => k_extra "m_i"); (case zzz1 => assumption); (case zzz2 => assumption); (case zzb1 => k_extra "m_bnd"); (case zzb2 => k_extra "m_bnd"); (case zzb3 => k_extra "m_bnd")); intro _ _ _ _ _ _ _ _; (try k_sweep))
  k_with "call ref" => (k_here; (with_reducible show wpAny _ _ (call (Value.ref 209) _ _) _ _ _); k_dflt (refine' use_S ?zzB ?zzF ?zzX ?zzN ?zzT ?zzK (cc_signed ?zzz1 ?zzi1 ?zzb1) ?zzS ?zzD ?zzU ?_; (k_extra "m_use"); (case zzi1 => k_extra "m_i"); (case zzz1 => assumption); (case zzb1 => k_extra "m_bnd")); intro _ _ _ _ _ _ _ _ _ _; (try k_sweep))
  k_with "call ref" => (k_here; (with_reducible show wpAny _ _ (call (Value.ref 188) _ _) _ _ _); k_dflt (refine' use_I ?zzB ?zzF ?zzX ?zzN ?zzT ?zzK (cc_nat_ones ?zzz1 ?zzz2 ?zzi1 ?zzb1) ?zzS ?zzD ?zzU ?_; (k_extra "m_use"); (case zzi1 => k_extra "m_i"); (case zzz1 => assumption); (case zzz2 => assumption); (case zzb1 => k_extra "m_bnd")); intro _ _ _ _ _; (try k_sweep))
  exact True.intro
section
variable {prog : Program} {wd : World} {A : Around} {E : Value → Shared → Prop} {s : Shared} {h₀ : Heap} {L : Addr} {news : Led} {a a' l l' : Addr} {b b' : Bool} {c c' c2 c2' : Nat} {vs vs' : List Value} {k : Nat} {X Y : Int} {Q : Value → Shared → Prop}
theorem reads_S (N : News h₀ L s.heap news) (h1 : (a, tupS b l c) ∈ news) (h2 : (l, listOf (List.toArray vs) c2) ∈ news) {ns : List Int} (i : IntsAre vs ns) : ∃ as, Reads s.heap (.ref a) (.tuple [.bool b, .list (ns.map PyData.int)]) as := by
  have hl : s.heap.IsList l vs.toArray := ⟨_, (N _ h2).1, rfl, c2, rfl⟩
  exact ⟨_, reads_tuple_at (N _ h1).1 rfl rfl (.cons (.bool b) (.cons (reads_newData hl (ke_carried i)) .nil))⟩
theorem shaped_S (b : Bool) (ns : List Int) : SeqAt.shaped (.tuple [.bool b, .list (ns.map PyData.int)]) = true := by
  simp [SeqAt.shaped, PyData.canLay0, PyData.canLayAll0, PyData.depth, PyData.depthAll, ke_canLayAll0, ke_depthAll]
theorem eqv_S (b b' : Bool) (ns ms : List Int) : PyData.eqv (.tuple [.bool b, .list (ns.map PyData.int)]) (.tuple [.bool b', .list (ms.map PyData.int)]) = (b == b' && decide (ns = ms)) := by
  simp [PyData.eqv, PyData.eqvAll, ked_eqvAll]
theorem same_S {k : Nat} (hk : 1 ≤ k) {X Y : Int} : (sg X == sg Y && decide (mag k X = mag k Y)) = decide (X = Y) := by
  rw [Bool.eq_iff_iff]
  simp only [Bool.and_eq_true, beq_iff_eq, decide_eq_true_eq, sg]
  constructor
  · rintro ⟨h1, h2⟩
    have := limbs_inj hk h2
    rw [decide_eq_decide] at h1
    omega
  · rintro rfl
    exact ⟨rfl, rfl⟩
theorem eq_S (hk : 1 ≤ k) (N : News h₀ L s.heap news) (h1 : (a, tupS b l c) ∈ news) (h2 : (l, listOf (List.toArray vs) c2) ∈ news) (h3 : (a', tupS b' l' c') ∈ news) (h4 : (l', listOf (List.toArray vs') c2') ∈ news)
    (i : IntsAre vs (mag k X)) (i' : IntsAre vs' (mag k Y)) (hb : b = sg X) (hb' : b' = sg Y) (hu : A.units + 64 < cLine) (h : Q (.bool (decide (X = Y))) s) : wpAny (model prog wd) A (compareOp .Eq (.ref a) (.ref a')) Q E s := by
  obtain ⟨as, r1⟩ := reads_S N h1 h2 i
  obtain ⟨as', r2⟩ := reads_S N h3 h4 i'
  refine eq_dataH r1 r2 (shaped_S _ _) (shaped_S _ _) hu ?_
  rw [eqv_S, hb, hb', same_S hk]
  exact h
theorem ne_S (hk : 1 ≤ k) (N : News h₀ L s.heap news) (h1 : (a, tupS b l c) ∈ news) (h2 : (l, listOf (List.toArray vs) c2) ∈ news) (h3 : (a', tupS b' l' c') ∈ news) (h4 : (l', listOf (List.toArray vs') c2') ∈ news)
    (i : IntsAre vs (mag k X)) (i' : IntsAre vs' (mag k Y)) (hb : b = sg X) (hb' : b' = sg Y) (hu : A.units + 64 < cLine) (h : Q (.bool (!decide (X = Y))) s) : wpAny (model prog wd) A (compareOp .NotEq (.ref a) (.ref a')) Q E s := by
  obtain ⟨as, r1⟩ := reads_S N h1 h2 i
  obtain ⟨as', r2⟩ := reads_S N h3 h4 i'
  refine ne_dataH r1 r2 (shaped_S _ _) (shaped_S _ _) hu ?_
  rw [eqv_S, hb, hb', same_S hk]
  exact h
theorem eq_St (e : X = Y) (hk : 1 ≤ k) (N : News h₀ L s.heap news) (h1 : (a, tupS b l c) ∈ news) (h2 : (l, listOf (List.toArray vs) c2) ∈ news) (h3 : (a', tupS b' l' c') ∈ news) (h4 : (l', listOf (List.toArray vs') c2') ∈ news)
    (i : IntsAre vs (mag k X)) (i' : IntsAre vs' (mag k Y)) (hb : b = sg X) (hb' : b' = sg Y) (hu : A.units + 64 < cLine) (h : Q (.bool true) s) : wpAny (model prog wd) A (compareOp .Eq (.ref a) (.ref a')) Q E s :=
  eq_S hk N h1 h2 h3 h4 i i' hb hb' hu (by rw [decide_eq_true e]; exact h)
theorem eq_Sf (e : X ≠ Y) (hk : 1 ≤ k) (N : News h₀ L s.heap news) (h1 : (a, tupS b l c) ∈ news) (h2 : (l, listOf (List.toArray vs) c2) ∈ news) (h3 : (a', tupS b' l' c') ∈ news) (h4 : (l', listOf (List.toArray vs') c2') ∈ news)
    (i : IntsAre vs (mag k X)) (i' : IntsAre vs' (mag k Y)) (hb : b = sg X) (hb' : b' = sg Y) (hu : A.units + 64 < cLine) (h : Q (.bool false) s) : wpAny (model prog wd) A (compareOp .Eq (.ref a) (.ref a')) Q E s :=
  eq_S hk N h1 h2 h3 h4 i i' hb hb' hu (by rw [decide_eq_false e]; exact h)
theorem ne_St (e : X = Y) (hk : 1 ≤ k) (N : News h₀ L s.heap news) (h1 : (a, tupS b l c) ∈ news) (h2 : (l, listOf (List.toArray vs) c2) ∈ news) (h3 : (a', tupS b' l' c') ∈ news) (h4 : (l', listOf (List.toArray vs') c2') ∈ news)
    (i : IntsAre vs (mag k X)) (i' : IntsAre vs' (mag k Y)) (hb : b = sg X) (hb' : b' = sg Y) (hu : A.units + 64 < cLine) (h : Q (.bool false) s) : wpAny (model prog wd) A (compareOp .NotEq (.ref a) (.ref a')) Q E s :=
  ne_S hk N h1 h2 h3 h4 i i' hb hb' hu (by rw [decide_eq_true e]; exact h)
end
theorem one_intsP {z : Nat} {t : Tok} (hz : 2 ≤ z) : IntsAre [.int 1 t] (mag z 1) := one_ints hz
theorem one_intsN {z : Nat} {t : Tok} (hz : 2 ≤ z) : IntsAre [.int 1 t] (mag z (-1)) := one_ints hz
theorem two_intsN {z : Nat} {t : Tok} (hz : 2 ≤ z) : IntsAre [.int 2 t] (mag z (-2)) := two_ints hz
theorem nil_intsP {z : Nat} : IntsAre [] (mag z 0) := .nil
theorem cb_s_and {x lx y ly : Addr} {bx bY : Bool} {cx clx cy cly : Nat} {xs ys : List Value} {X Y : Int} {tw : Tok} (hz : 2 ≤ z) (hz' : z ≤ 9) (hb : bx = sg X) (hb' : bY = sg Y)
    (ix : IntsAre xs (mag z X)) (iy : IntsAre ys (mag z Y)) (hX : X.natAbs < 2 ^ 188) (hY : Y.natAbs < 2 ^ 188) :
    Ct w mean mg mb 5 124 [.ref x, .ref y, .int (z : Int) tw] [(x, tupS bx lx cx), (lx, listOf xs.toArray clx), (y, tupS bY ly cy), (ly, listOf ys.toArray cly)] (SRes (sg (Builtin.bitAnd X Y)) (mag z (Builtin.bitAnd X Y))) := by
  subst hb; subst hb'
  exact cc_s_and hz hz' ix iy hX hY
theorem cb_s_or {x lx y ly : Addr} {bx bY : Bool} {cx clx cy cly : Nat} {xs ys : List Value} {X Y : Int} {tw : Tok} (hz : 2 ≤ z) (hz' : z ≤ 9) (hb : bx = sg X) (hb' : bY = sg Y)
    (ix : IntsAre xs (mag z X)) (iy : IntsAre ys (mag z Y)) (hX : X.natAbs < 2 ^ 188) (hY : Y.natAbs < 2 ^ 188) :
    Ct w mean mg mb 5 129 [.ref x, .ref y, .int (z : Int) tw] [(x, tupS bx lx cx), (lx, listOf xs.toArray clx), (y, tupS bY ly cy), (ly, listOf ys.toArray cly)] (SRes (sg (Builtin.bitOr X Y)) (mag z (Builtin.bitOr X Y))) := by
  subst hb; subst hb'
  exact cc_s_or hz hz' ix iy hX hY
theorem cb_s_xor {x lx y ly : Addr} {bx bY : Bool} {cx clx cy cly : Nat} {xs ys : List Value} {X Y : Int} {tw : Tok} (hz : 2 ≤ z) (hz' : z ≤ 9) (hb : bx = sg X) (hb' : bY = sg Y)
    (ix : IntsAre xs (mag z X)) (iy : IntsAre ys (mag z Y)) (hX : X.natAbs < 2 ^ 188) (hY : Y.natAbs < 2 ^ 188) :
    Ct w mean mg mb 5 134 [.ref x, .ref y, .int (z : Int) tw] [(x, tupS bx lx cx), (lx, listOf xs.toArray clx), (y, tupS bY ly cy), (ly, listOf ys.toArray cly)] (SRes (sg (Builtin.bitXor X Y)) (mag z (Builtin.bitXor X Y))) := by
  subst hb; subst hb'
  exact cc_s_xor hz hz' ix iy hX hY
theorem cb_s_add {x lx y ly : Addr} {bx bY : Bool} {cx clx cy cly : Nat} {xs ys : List Value} {X Y : Int} {tw : Tok} (hz : 2 ≤ z) (hz' : z ≤ 9) (hb : bx = sg X) (hb' : bY = sg Y)
    (ix : IntsAre xs (mag z X)) (iy : IntsAre ys (mag z Y)) (hX : X.natAbs < 2 ^ 188) (hY : Y.natAbs < 2 ^ 188) :
    Ct w mean mg mb 4 223 [.ref x, .ref y, .int (z : Int) tw] [(x, tupS bx lx cx), (lx, listOf xs.toArray clx), (y, tupS bY ly cy), (ly, listOf ys.toArray cly)] (SRes (sg (X + Y)) (mag z (X + Y))) := by
  subst hb; subst hb'
  exact cc_s_add hz hz' ix iy hX hY
theorem cb_s_neg {x lx : Addr} {bx : Bool} {cx clx : Nat} {xs : List Value} {X : Int} (hz : 2 ≤ z) (hb : bx = sg X)
    (ix : IntsAre xs (mag z X)) (hX : X.natAbs < 2 ^ 188) :
    Ct w mean mg mb 2 216 [.ref x] [(x, tupS bx lx cx), (lx, listOf xs.toArray clx)] (SRes (sg (-X)) (mag z (-X))) := by
  subst hb; exact cc_s_neg hz ix hX
theorem cb_s_not {x lx : Addr} {bx : Bool} {cx clx : Nat} {xs : List Value} {X : Int} {tw : Tok} (hz : 2 ≤ z) (hz' : z ≤ 9) (hb : bx = sg X)
    (ix : IntsAre xs (mag z X)) (hX : X.natAbs < 2 ^ 188) :
    Ct w mean mg mb 4 141 [.ref x, .int (z : Int) tw] [(x, tupS bx lx cx), (lx, listOf xs.toArray clx)] (SRes (sg (-X - 1)) (mag z (-X - 1))) := by
  subst hb; exact cc_s_not hz hz' ix hX
theorem cb_s_bit {x lx : Addr} {bx : Bool} {cx clx : Nat} {xs : List Value} {X n : Int} {tn tw : Tok} (hz : 2 ≤ z) (hz' : z ≤ 9) (hb : bx = sg X)
    (ix : IntsAre xs (mag z X)) (hX : X.natAbs < 2 ^ 188) (hn : 0 ≤ n) (hn' : n < 100) :
    Ct w mean mg mb 4 148 [.ref x, .int n tn, .int (z : Int) tw] [(x, tupS bx lx cx), (lx, listOf xs.toArray clx)] (IRes (X / 2 ^ n.toNat % 2)) := by
  subst hb; exact cc_s_bit hz hz' ix hX hn hn'
theorem cb_s_shift {x lx : Addr} {bx : Bool} {cx clx : Nat} {xs : List Value} {X n : Int} {tn tw : Tok} (hz : 2 ≤ z) (hz' : z ≤ 9) (hb : bx = sg X)
    (ix : IntsAre xs (mag z X)) (hX : X.natAbs < 2 ^ 188) (hn : -100 < n) (hn' : n < 100) (hp : X.natAbs * 2 ^ n.toNat < 2 ^ 188) :
    Ct w mean mg mb 4 237 [.ref x, .int n tn, .int (z : Int) tw] [(x, tupS bx lx cx), (lx, listOf xs.toArray clx)] (SRes (sg (shiftI X n)) (mag z (shiftI X n))) := by
  subst hb; exact cc_s_shift hz hz' ix hX hn hn' hp
theorem rows15 : True := by
  k_with "m_iP" => first | k_asm | exact one_intsP (by assumption)
  k_with "call ref" => (k_here; (with_reducible show wpAny _ _ (call (Value.ref 124) _ _) _ _ _); k_dflt (refine' use_Sl ?zzB ?zzF ?zzX ?zzN ?zzT ?zzK (cb_s_and ?zzz1 ?zzz2 ?zzh1 ?zzh2 ?zzi1 ?zzi2 ?zzb1 ?zzb2) ?zzS ?zzD ?zzU ?_; (k_extra "m_use"); (case zzi1 => k_extra "m_iP"); (case zzi2 => k_extra "m_iP"); (case zzz1 => assumption); (case zzz2 => assumption); (case zzh1 => first | rfl | assumption); (case zzh2 => first | rfl | assumption); (case zzb1 => k_extra "m_bnd"); (case zzb2 => k_extra "m_bnd")); intro _ _ _ _ _ _ _ _ _ _ _; (try k_sweep))
  k_with "call ref" => (k_here; (with_reducible show wpAny _ _ (call (Value.ref 129) _ _) _ _ _); k_dflt (refine' use_Sl ?zzB ?zzF ?zzX ?zzN ?zzT ?zzK (cb_s_or ?zzz1 ?zzz2 ?zzh1 ?zzh2 ?zzi1 ?zzi2 ?zzb1 ?zzb2) ?zzS ?zzD ?zzU ?_; (k_extra "m_use"); (case zzi1 => k_extra "m_iP"); (case zzi2 => k_extra "m_iP"); (case zzz1 => assumption); (case zzz2 => assumption); (case zzh1 => first | rfl | assumption); (case zzh2 => first | rfl | assumption); (case zzb1 => k_extra "m_bnd"); (case zzb2 => k_extra "m_bnd")); intro _ _ _ _ _ _ _ _ _ _ _; (try k_sweep))
  k_with "call ref" => (k_here; (with_reducible show wpAny _ _ (call (Value.ref 134) _ _) _ _ _); k_dflt (refine' use_Sl ?zzB ?zzF ?zzX ?zzN ?zzT ?zzK (cb_s_xor ?zzz1 ?zzz2 ?zzh1 ?zzh2 ?zzi1 ?zzi2 ?zzb1 ?zzb2) ?zzS ?zzD ?zzU ?_; (k_extra "m_use"); (case zzi1 => k_extra "m_iP"); (case zzi2 => k_extra "m_iP"); (case zzz1 => assumption); (case zzz2 => assumption); (case zzh1 => first | rfl | assumption); (case zzh2 => first | rfl | assumption); (case zzb1 => k_extra "m_bnd"); (case zzb2 => k_extra "m_bnd")); intro _ _ _ _ _ _ _ _ _ _ _; (try k_sweep))
  k_with "call ref" => (k_here; (with_reducible show wpAny _ _ (call (Value.ref 223) _ _) _ _ _); k_dflt (refine' use_Sl ?zzB ?zzF ?zzX ?zzN ?zzT ?zzK (cb_s_add ?zzz1 ?zzz2 ?zzh1 ?zzh2 ?zzi1 ?zzi2 ?zzb1 ?zzb2) ?zzS ?zzD ?zzU ?_; (k_extra "m_use"); (case zzi1 => k_extra "m_iP"); (case zzi2 => k_extra "m_iP"); (case zzz1 => assumption); (case zzz2 => assumption); (case zzh1 => first | rfl | assumption); (case zzh2 => first | rfl | assumption); (case zzb1 => k_extra "m_bnd"); (case zzb2 => k_extra "m_bnd")); intro _ _ _ _ _ _ _ _ _ _ _; (try k_sweep))
  k_with "call ref" => (k_here; (with_reducible show wpAny _ _ (call (Value.ref 216) _ _) _ _ _); k_dflt (refine' use_Sl ?zzB ?zzF ?zzX ?zzN ?zzT ?zzK (cb_s_neg ?zzz1 ?zzh1 ?zzi1 ?zzb1) ?zzS ?zzD ?zzU ?_; (k_extra "m_use"); (case zzi1 => k_extra "m_iP"); (case zzz1 => assumption); (case zzh1 => first | rfl | assumption); (case zzb1 => k_extra "m_bnd"); skip); intro _ _ _ _ _ _ _ _ _ _ _; (try k_sweep))
  k_with "call ref" => (k_here; (with_reducible show wpAny _ _ (call (Value.ref 141) _ _) _ _ _); k_dflt (refine' use_Sl ?zzB ?zzF ?zzX ?zzN ?zzT ?zzK (cb_s_not ?zzz1 ?zzz2 ?zzh1 ?zzi1 ?zzb1) ?zzS ?zzD ?zzU ?_; (k_extra "m_use"); (case zzi1 => k_extra "m_iP"); (case zzz1 => assumption); (case zzz2 => assumption); (case zzh1 => first | rfl | assumption); (case zzb1 => k_extra "m_bnd"); skip); intro _ _ _ _ _ _ _ _ _ _ _; (try k_sweep))
  k_with "call ref" => (k_here; (with_reducible show wpAny _ _ (call (Value.ref 148) _ _) _ _ _); k_dflt (refine' use_I ?zzB ?zzF ?zzX ?zzN ?zzT ?zzK (cb_s_bit ?zzz1 ?zzz2 ?zzh1 ?zzi1 ?zzb1 ?zzb2 ?zzb3) ?zzS ?zzD ?zzU ?_; (k_extra "m_use"); (case zzi1 => k_extra "m_iP"); (case zzz1 => assumption); (case zzz2 => assumption); (case zzh1 => first | rfl | assumption); (case zzb1 => k_extra "m_bnd"); (case zzb2 => k_extra "m_bnd"); (case zzb3 => k_extra "m_bnd"); skip); intro _ _ _ _ _; (try k_sweep))
  k_with "call ref" => (k_here; (with_reducible show wpAny _ _ (call (Value.ref 237) _ _) _ _ _); k_dflt (refine' use_Sl ?zzB ?zzF ?zzX ?zzN ?zzT ?zzK (cb_s_shift ?zzz1 ?zzz2 ?zzh1 ?zzi1 ?zzb1 ?zzb2 ?zzb3 ?zzb4) ?zzS ?zzD ?zzU ?_; (k_extra "m_use"); (case zzi1 => k_extra "m_iP"); (case zzz1 => assumption); (case zzz2 => assumption); (case zzh1 => first | rfl | assumption); (case zzb1 => k_extra "m_bnd"); (case zzb2 => k_extra "m_bnd"); (case zzb3 => k_extra "m_bnd"); (case zzb4 => k_extra "m_bnd"); skip); intro _ _ _ _ _ _ _ _ _ _ _; (try k_sweep))
  k_with "call ref" => (k_here; (with_reducible show wpAny _ _ (call (Value.ref 155) _ _) _ _ _); k_dflt (refine' use_L ?zzB ?zzF ?zzX ?zzN ?zzT ?zzK (cc_one_at ?zzz1 ?zzz2 ?zzb1 ?zzb2) ?zzS ?zzD ?zzU ?_; (k_extra "m_use"); (case zzz1 => assumption); (case zzz2 => assumption); (case zzb1 => k_extra "m_bnd"); (case zzb2 => k_extra "m_bnd")); intro _ _ _ _ _ _ _ _; (try k_sweep))
  exact True.intro
theorem cb_s_sub {x lx y ly : Addr} {bx bY : Bool} {cx clx cy cly : Nat} {xs ys : List Value} {X Y : Int} {tw : Tok} (hz : 2 ≤ z) (hz' : z ≤ 9) (hb : bx = sg X) (hb' : bY = sg Y)
    (ix : IntsAre xs (mag z X)) (iy : IntsAre ys (mag z Y)) (hX : X.natAbs < 2 ^ 188) (hY : Y.natAbs < 2 ^ 188) :
    Ct w mean mg mb 6 230 [.ref x, .ref y, .int (z : Int) tw] [(x, tupS bx lx cx), (lx, listOf xs.toArray clx), (y, tupS bY ly cy), (ly, listOf ys.toArray cly)] (SRes (sg (X - Y)) (mag z (X - Y))) := by
  k_dflt (refine' ct_of (binds := [(PySem.Str.ofString "x", .ref x), (PySem.Str.ofString "y", .ref y), (PySem.Str.ofString "w", .int (z : Int) tw)]) ?k6 ?k7 ?k9 ?kB ?c5 ?c2 ?c3 ?c4 ?_ ?c6)
  walk_at "ct"
  intro dp un gd outer A₀ base g L' s hd1 hu F N B XK T hl
  (try simp only [List.reverse_cons, List.reverse_nil, List.nil_append, List.cons_append] at F)
  k_fold
  k_steps
  all_goals rw [Int.sub_eq_add_neg]
theorem nab_na {X : Int} {k : Nat} (h : X < 0) (h2 : k + 1 ≤ X.natAbs) : X + k < 0 ∧ X.natAbs - k = (X + k).natAbs := by omega
theorem nab_ns {X : Int} {k : Nat} (h : X < 0) : X - k < 0 ∧ X.natAbs + k = (X - k).natAbs := by omega
theorem nab_pa {X : Int} {k : Nat} (h : 0 ≤ X) : 0 ≤ X + k ∧ X.natAbs + k = (X + k).natAbs := by omega
theorem nab_ps {X : Int} {k : Nat} (h : 0 ≤ X) (h2 : k ≤ X.natAbs) : 0 ≤ X - k ∧ X.natAbs - k = (X - k).natAbs := by omega
theorem rows16 : True := by
  k_with "m_bnd" => first | exact Nat.le_of_succ_le (bit_lo (sg_t (by assumption)).1 (by assumption)) | exact bit_hi (sg_f (by assumption)) (by assumption)
  exact True.intro
theorem cb_set_bit {x lx : Addr} {bx : Bool} {cx clx : Nat} {xs : List Value} {X n : Int} {tn tw : Tok} (hz : 2 ≤ z) (hz' : z ≤ 9) (hb : bx = sg X)
    (ix : IntsAre xs (mag z X)) (hX : X.natAbs < 2 ^ 187) (hn : 0 ≤ n) (hn' : n < 100) :
    Ct w mean mg mb 6 162 [.ref x, .int n tn, .int (z : Int) tw] [(x, tupS bx lx cx), (lx, listOf xs.toArray clx)] (SRes (sg (setI X n)) (mag z (setI X n))) := by
  subst hb
  have hp := pow_lt100 hn'
  k_dflt (refine' ct_of (binds := [(PySem.Str.ofString "x", .ref x), (PySem.Str.ofString "n", .int n tn), (PySem.Str.ofString "w", .int (z : Int) tw)]) ?k6 ?k7 ?k9 ?kB ?c5 ?c2 ?c3 ?c4 ?_ ?c6)
  walk_at "ct"
  intro dp un gd outer A₀ base g L' s hd1 hu F N B XK T hl
  (try simp only [List.reverse_cons, List.reverse_nil, List.nil_append, List.cons_append] at F)
  k_fold
  k_steps
  · rw [setI, if_pos (by assumption)]
  · rw [setI, if_pos (by assumption)]
  · have h := sg_t (by assumption)
    rw [setI, if_neg (by assumption), pow_cast, sg_lt]
    exact (nab_na h.1 (bit_lo h.1 (by assumption))).1
  · have h := sg_t (by assumption)
    rw [setI, if_neg (by assumption), pow_cast]
    show limbs z _ = limbs z _
    exact congrArg (limbs z) (nab_na h.1 (bit_lo h.1 (by assumption))).2
  · have h := sg_f (by assumption)
    rw [setI, if_neg (by assumption), pow_cast, sg_ge]
    exact (nab_pa h).1
  · have h := sg_f (by assumption)
    rw [setI, if_neg (by assumption), pow_cast]
    show limbs z _ = limbs z _
    exact congrArg (limbs z) (nab_pa h).2
theorem cb_clear_bit {x lx : Addr} {bx : Bool} {cx clx : Nat} {xs : List Value} {X n : Int} {tn tw : Tok} (hz : 2 ≤ z) (hz' : z ≤ 9) (hb : bx = sg X)
    (ix : IntsAre xs (mag z X)) (hX : X.natAbs < 2 ^ 187) (hn : 0 ≤ n) (hn' : n < 100) :
    Ct w mean mg mb 6 169 [.ref x, .int n tn, .int (z : Int) tw] [(x, tupS bx lx cx), (lx, listOf xs.toArray clx)] (SRes (sg (clrI X n)) (mag z (clrI X n))) := by
  subst hb
  have hp := pow_lt100 hn'
  k_dflt (refine' ct_of (binds := [(PySem.Str.ofString "x", .ref x), (PySem.Str.ofString "n", .int n tn), (PySem.Str.ofString "w", .int (z : Int) tw)]) ?k6 ?k7 ?k9 ?kB ?c5 ?c2 ?c3 ?c4 ?_ ?c6)
  walk_at "ct"
  intro dp un gd outer A₀ base g L' s hd1 hu F N B XK T hl
  (try simp only [List.reverse_cons, List.reverse_nil, List.nil_append, List.cons_append] at F)
  k_fold
  k_steps
  · rw [clrI, if_pos (by assumption)]
  · rw [clrI, if_pos (by assumption)]
  · have h := sg_t (by assumption)
    rw [clrI, if_neg (by assumption), pow_cast, sg_lt]
    exact (nab_ns h.1).1
  · have h := sg_t (by assumption)
    rw [clrI, if_neg (by assumption), pow_cast]
    show limbs z _ = limbs z _
    exact congrArg (limbs z) (nab_ns h.1).2
  · have h := sg_f (by assumption)
    rw [clrI, if_neg (by assumption), pow_cast, sg_ge]
    exact (nab_ps h (bit_hi h (by assumption))).1
  · have h := sg_f (by assumption)
    rw [clrI, if_neg (by assumption), pow_cast]
    show limbs z _ = limbs z _
    exact congrArg (limbs z) (nab_ps h (bit_hi h (by assumption))).2
theorem cb_count_ones {x lx : Addr} {bx : Bool} {cx clx : Nat} {xs : List Value} {X : Int} (hz : 2 ≤ z) (hz' : z ≤ 9) (hb : bx = sg X)
    (ix : IntsAre xs (mag z X)) (hX : X.natAbs < 2 ^ 187) :
    Ct w mean mg mb 4 195 [.ref x] [(x, tupS bx lx cx), (lx, listOf xs.toArray clx)] (ORes (cntI X)) := by
  subst hb
  k_dflt (refine' ct_of (binds := [(PySem.Str.ofString "x", .ref x)]) ?k6 ?k7 ?k9 ?kB ?c5 ?c2 ?c3 ?c4 ?_ ?c6)
  walk_at "ct"
  intro dp un gd outer A₀ base g L' s hd1 hu F N B XK T hl
  (try simp only [List.reverse_cons, List.reverse_nil, List.nil_append, List.cons_append] at F)
  k_fold
  k_steps
  · rw [cntI, if_pos (by assumption)]
  · rw [cntI, if_neg (by rw [‹sg X = false›]; decide)]
theorem cb_distance {x lx y ly : Addr} {bx bY : Bool} {cx clx cy cly : Nat} {xs ys : List Value} {X Y : Int} {tw : Tok} (hz : 2 ≤ z) (hz' : z ≤ 9) (hb : bx = sg X) (hb' : bY = sg Y)
    (ix : IntsAre xs (mag z X)) (iy : IntsAre ys (mag z Y)) (hX : X.natAbs < 2 ^ 187) (hY : Y.natAbs < 2 ^ 187) (hXY : (Builtin.bitXor X Y).natAbs < 2 ^ 188) :
    Ct w mean mg mb 7 202 [.ref x, .ref y, .int (z : Int) tw] [(x, tupS bx lx cx), (lx, listOf xs.toArray clx), (y, tupS bY ly cy), (ly, listOf ys.toArray cly)] (ORes (distI X Y)) := by
  subst hb; subst hb'
  k_dflt (refine' ct_of (binds := [(PySem.Str.ofString "x", .ref x), (PySem.Str.ofString "y", .ref y), (PySem.Str.ofString "w", .int (z : Int) tw)]) ?k6 ?k7 ?k9 ?kB ?c5 ?c2 ?c3 ?c4 ?_ ?c6)
  walk_at "ct"
  intro dp un gd outer A₀ base g L' s hd1 hu F N B XK T hl
  (try simp only [List.reverse_cons, List.reverse_nil, List.nil_append, List.cons_append] at F)
  k_fold
  k_steps
  · rw [distI, if_neg (by simpa using ‹(sg X != sg Y) = true›)]
  · rw [distI, if_pos (by simpa using ‹(sg X != sg Y) = false›)]
theorem rows17 : True := by
  k_with "call ref" => (k_here; (with_reducible show wpAny _ _ (call (Value.ref 230) _ _) _ _ _); k_dflt (refine' use_Sl ?zzB ?zzF ?zzX ?zzN ?zzT ?zzK (cb_s_sub ?zzz1 ?zzz2 ?zzh1 ?zzh2 ?zzi1 ?zzi2 ?zzb1 ?zzb2) ?zzS ?zzD ?zzU ?_; (k_extra "m_use"); (case zzi1 => k_extra "m_iP"); (case zzi2 => k_extra "m_iP"); (case zzz1 => assumption); (case zzz2 => assumption); (case zzh1 => first | rfl | assumption); (case zzh2 => first | rfl | assumption); (case zzb1 => k_extra "m_bnd"); (case zzb2 => k_extra "m_bnd"); skip); intro _ _ _ _ _ _ _ _ _ _ _; (try k_sweep))
  k_with "call ref" => (k_here; (with_reducible show wpAny _ _ (call (Value.ref 202) _ _) _ _ _); k_dflt (refine' use_O ?zzB ?zzF ?zzX ?zzN ?zzT ?zzK (cb_distance ?zzz1 ?zzz2 ?zzh1 ?zzh2 ?zzi1 ?zzi2 ?zzb1 ?zzb2 ?zzb3) ?zzS ?zzD ?zzU ?_ ?_; (k_extra "m_use"); (case zzi1 => k_extra "m_iP"); (case zzi2 => k_extra "m_iP"); (case zzz1 => assumption); (case zzz2 => assumption); (case zzh1 => first | rfl | assumption); (case zzh2 => first | rfl | assumption); (case zzb1 => k_extra "m_bnd"); (case zzb2 => k_extra "m_bnd"); (case zzb3 => k_extra "m_bnd"); skip); (focus (intro e' h' tk' F' N'; (try k_sweep))); (intro _ _ _ _ _ _ _; (try k_sweep)))
  k_with "call ref" => (k_here; (with_reducible show wpAny _ _ (call (Value.ref 162) _ _) _ _ _); k_dflt (refine' use_Sl ?zzB ?zzF ?zzX ?zzN ?zzT ?zzK (cb_set_bit ?zzz1 ?zzz2 ?zzh1 ?zzi1 ?zzb1 ?zzb2 ?zzb3) ?zzS ?zzD ?zzU ?_; (k_extra "m_use"); (case zzi1 => k_extra "m_iP"); (case zzz1 => assumption); (case zzz2 => assumption); (case zzh1 => first | rfl | assumption); (case zzb1 => k_extra "m_bnd"); (case zzb2 => k_extra "m_bnd"); (case zzb3 => k_extra "m_bnd"); skip); intro _ _ _ _ _ _ _ _ _ _ _; (try k_sweep))
  k_with "call ref" => (k_here; (with_reducible show wpAny _ _ (call (Value.ref 169) _ _) _ _ _); k_dflt (refine' use_Sl ?zzB ?zzF ?zzX ?zzN ?zzT ?zzK (cb_clear_bit ?zzz1 ?zzz2 ?zzh1 ?zzi1 ?zzb1 ?zzb2 ?zzb3) ?zzS ?zzD ?zzU ?_; (k_extra "m_use"); (case zzi1 => k_extra "m_iP"); (case zzz1 => assumption); (case zzz2 => assumption); (case zzh1 => first | rfl | assumption); (case zzb1 => k_extra "m_bnd"); (case zzb2 => k_extra "m_bnd"); (case zzb3 => k_extra "m_bnd"); skip); intro _ _ _ _ _ _ _ _ _ _ _; (try k_sweep))
  k_with "call ref" => (k_here; (with_reducible show wpAny _ _ (call (Value.ref 195) _ _) _ _ _); k_dflt (refine' use_O ?zzB ?zzF ?zzX ?zzN ?zzT ?zzK (cb_count_ones ?zzz1 ?zzz2 ?zzh1 ?zzi1 ?zzb1) ?zzS ?zzD ?zzU ?_ ?_; (k_extra "m_use"); (case zzi1 => k_extra "m_iP"); (case zzz1 => assumption); (case zzz2 => assumption); (case zzh1 => first | rfl | assumption); (case zzb1 => k_extra "m_bnd"); skip); (focus (intro e' h' tk' F' N'; (try k_sweep))); (intro _ _ _ _ _ _ _; (try k_sweep)))
  exact True.intro
theorem cb_flip_bit {x lx : Addr} {bx : Bool} {cx clx : Nat} {xs : List Value} {X n : Int} {tn tw : Tok} (hz : 2 ≤ z) (hz' : z ≤ 9) (hb : bx = sg X)
    (ix : IntsAre xs (mag z X)) (hX : X.natAbs < 2 ^ 187) (hn : 0 ≤ n) (hn' : n < 100) :
    Ct w mean mg mb 8 176 [.ref x, .int n tn, .int (z : Int) tw] [(x, tupS bx lx cx), (lx, listOf xs.toArray clx)] (SRes (sg (flipI X n)) (mag z (flipI X n))) := by
  have h1 : X / 2 ^ n.toNat % 2 = 1 → clrI X n = flipI X n := fun h => by rw [clrI, flipI, if_neg (by omega), if_pos h]
  have h2 : ¬ X / 2 ^ n.toNat % 2 = 1 → setI X n = flipI X n := fun h => by rw [setI, flipI, if_neg h, if_neg h]
  k_dflt (refine' ct_of (binds := [(PySem.Str.ofString "x", .ref x), (PySem.Str.ofString "n", .int n tn), (PySem.Str.ofString "w", .int (z : Int) tw)]) ?k6 ?k7 ?k9 ?kB ?c5 ?c2 ?c3 ?c4 ?_ ?c6)
  walk_at "ct"
  intro dp un gd outer A₀ base g L' s hd1 hu F N B XK T hl
  (try simp only [List.reverse_cons, List.reverse_nil, List.nil_append, List.cons_append] at F)
  k_fold
  k_steps
  · rw [h1 (by assumption)]
  · rw [h1 (by assumption)]
  · rw [h2 (by assumption)]
  · rw [h2 (by assumption)]

-- part Ja
theorem rows18 : True := by
  k_with_none
  k_with "ct" => ((case k6 => k_is); (case k7 => k_is); (case k9 => (intro s; exact BindsTo.of_eq rfl)); (case kB => exact locs rfl); (case c5 => decide); (case c2 => exact rfl); (case c3 => exact rfl); (case c4 => exact rfl); (case c6 => decide))
  k_with "ctc" => ((case k6 => k_is); (case k7 => k_is); (case k9 => (intro s; exact BindsTo.of_eq rfl)); (case kB => exact rfl); (case kD => decide +kernel); (case c2 => exact rfl); (case c3 => exact rfl); (case c4 => exact rfl); (case c6 => decide))
  k_with "m_mem" => first | exact List.mem_cons_self | (refine List.mem_cons_of_mem _ ?_; k_extra "m_mem")
  k_with "m_sub" => first | exact True.intro | (refine' And.intro ?zzm1 ?zzm2; (case zzm1 => first | (with_reducible k_extra "m_mem") | k_mem); (case zzm2 => k_extra "m_sub"))
  k_with "PEnd" => (refine' pend ?zzF ?zzN ?zzS ?_ ?zzE; (case zzF => k_asm); (case zzN => k_asm); (case zzS => k_extra "m_sub"); (case zzE => exact rfl); (try dsimp only))
  k_with "SRes" => (refine' sres_of ?zzm1 ?zzm2 ?zzm3 ?_ ?_; (case zzm1 => k_mem); (case zzm2 => k_mem); (case zzm3 => k_asm))
  k_with "LRes" => (refine' lres_of ?zzm2 ?zzm3 ?_; (case zzm2 => k_mem); (case zzm3 => first | k_asm | exact IntsAre.nil | l_ints))
  k_with "LRes" => (refine' lres_push ?zzm2 ?zzm3 ?_; (case zzm2 => k_mem); (case zzm3 => k_asm))
  k_with "IRes" => (refine' ires_of ?_)
  k_with "ORes" => first | refine' ores_none ?_ | refine' ores_some ?_
  k_with "BRes" => (refine' bres_of ?_)
  k_with "binaryOp FloorDiv int int" => (k_here; k_dflt (refine' fdiv_gen ?zza ?zzb ?zzc ?_; (case zza => omega); (case zzb => omega); (case zzc => omega)); intro _ _ _ _)
  k_with "binaryOp Mod int int" => (k_here; k_dflt (refine' fmod_gen ?zza ?zzb ?_; (case zza => omega); (case zzb => omega)); intro _ _ _ _)
  k_with "binaryOp FloorDiv int int" => (k_here; k_dflt (refine' fdiv_known ?zze ?zzb ?zzc ?_; (case zze => assumption); (case zzb => omega); (case zzc => omega)))
  k_with "binaryOp Mod int int" => (k_here; k_dflt (refine' fmod_known ?zze ?zzb ?_; (case zze => assumption); (case zzb => omega)))
  k_with "m_abs" => first | omega | exact LimbB.abs (by assumption) (by assumption) | exact LimbB.absAt (by assumption) _
  k_with "binaryOp LShift int int" => (k_here; k_dflt (refine' lshift_int_small ?zza ?zzb ?zzc ?_; (case zza => omega); (case zzb => omega); (case zzc => k_extra "m_abs")))
  k_with "binaryOp RShift int int" => (k_here; k_dflt (refine' rshift_int ?zza ?_; (case zza => omega)))
  k_with "m_use" => ((case zzB => k_asm); (case zzF => k_asm); (case zzX => k_asm); (case zzN => k_asm); (case zzT => k_asm); (case zzK => first | exact rfl | assumption); (case zzS => k_extra "m_sub"); (case zzD => first | exact dlt (by assumption) (by decide) | omega); (case zzU => first | exact ult (by assumption) (by decide) | omega))
  k_with "subscriptTail Name Slice ref ref" => (k_here; k_dflt (refine' kmk_slice_ints ?zzF ?zzN ?zzl ?zzp ?zzq ?zzi ?zzm ?zzc ?_ ?zzs ?zzt ?zzz; (case zzF => k_asm); (case zzN => k_asm); (case zzl => exact News.isList (by k_asm) (by k_mem)); (case zzp => kmk_part); (case zzq => kmk_part); (case zzi => k_asm); (case zzm => first | exact kmk_all (by assumption) | exact kmk_upto (by assumption) (by omega)); (case zzc => kmk_len); (case zzs => with_unfolding_all rfl); (case zzt => kmk_pure); (case zzz => exact kmk_sz (by assumption) (by rw [sizeLine_eq]; omega))); intro _ _ _ _ _ l1 _ _ _; (try k_lt l1); (try k_sweep))
  k_with "InvEndN" => k_dflt kst_close
  k_with "m_pick" => first | assumption | exact pk0 (by assumption) | exact pk1 (by assumption) | exact pk2 (by assumption) | exact pk3 (by assumption) | exact pl1 (by assumption) | exact pl2 (by assumption) | exact pl3 (by assumption) | exact pl4 (by assumption) | exact pl5 (by assumption) | exact pk4 (by assumption) | exact pk5 (by assumption) | exact pk6 (by assumption)
  k_with "m_ne" => (refine neN ?_; (try dsimp only); with_reducible first | exact Nat.ne_of_lt (by k_extra "m_pick") | exact Nat.ne_of_gt (by k_extra "m_pick") | k_extra "m_pick" | exact Ne.symm (by k_extra "m_pick") | omega)
  k_with "m_om" => first | with_reducible assumption | exact Nat.lt_of_lt_of_le (by with_reducible assumption) (by decide) | exact Nat.le_trans (by with_reducible assumption) (by decide) | exact Nat.lt_of_le_of_lt (by with_reducible assumption) (by decide) | exact Int.lt_of_lt_of_le (by with_reducible assumption) (by decide) | exact Int.le_trans (by with_reducible assumption) (by decide) | exact Int.lt_of_le_of_lt (by with_reducible assumption) (by decide) | exact int_le_of (by with_reducible assumption) (by decide) | exact int_lt_of (by with_reducible assumption) (by decide) | exact nat_le_of (by with_reducible assumption) (by decide) | exact lp_lt (by with_reducible assumption) (by with_reducible assumption) | exact lp_sz' (by with_reducible assumption) (by with_reducible assumption) (by with_reducible assumption) (by with_reducible assumption)
  exact True.intro
theorem bits_ind {P : Int → Int → Prop} (h0 : P 0 0) (h1 : P 0 (-1)) (h2 : P (-1) 0) (h3 : P (-1) (-1)) (hs : ∀ x y, P (x / 2) (y / 2) → P x y) : ∀ (n : Nat) (x y : Int), x.natAbs + y.natAbs = n → P x y := by
  intro n
  induction n using Nat.strongRecOn with
  | ind n ih =>
    intro x y hn
    by_cases hx : x = 0 ∨ x = -1
    · by_cases hy : y = 0 ∨ y = -1
      · rcases hx with rfl | rfl <;> rcases hy with rfl | rfl <;> assumption
      · exact hs x y (ih ((x / 2).natAbs + (y / 2).natAbs) (hn ▸ Nat.add_lt_add_of_le_of_lt (half_le x) (half_lt hy)) _ _ rfl)
    · exact hs x y (ih ((x / 2).natAbs + (y / 2).natAbs) (hn ▸ Nat.add_lt_add_of_lt_of_le (half_lt hx) (half_le y)) _ _ rfl)
theorem xor_xor (X Y : Int) : Builtin.bitXor (Builtin.bitXor X Y) Y = X := by
  refine bits_ind (P := fun x y => Builtin.bitXor (Builtin.bitXor x y) y = x) (by decide) (by decide) (by decide) (by decide) (fun x y h => ?_) _ X Y rfl
  have h1 := bits_xor.half x y
  have h2 := bits_xor.halves (Builtin.bitXor x y) y
  rw [h1.1, h1.2, h] at h2
  rw [h2]
  split <;> split <;> omega
theorem and_and (X Y : Int) : Builtin.bitAnd (Builtin.bitAnd X Y) Y = Builtin.bitAnd X Y := by
  refine bits_ind (P := fun x y => Builtin.bitAnd (Builtin.bitAnd x y) y = Builtin.bitAnd x y) (by decide) (by decide) (by decide) (by decide) (fun x y h => ?_) _ X Y rfl
  have h1 := bits_and.half x y
  have h2 := bits_and.halves (Builtin.bitAnd x y) y
  have h3 := bits_and.halves x y
  rw [h1.1, h1.2, h] at h2
  rw [h2, h3]
  split <;> split <;> omega
theorem not_and_not (X Y : Int) : -(Builtin.bitAnd (-X - 1) (-Y - 1)) - 1 = Builtin.bitOr X Y := by
  refine bits_ind (P := fun x y => -(Builtin.bitAnd (-x - 1) (-y - 1)) - 1 = Builtin.bitOr x y) (by decide) (by decide) (by decide) (by decide) (fun x y h => ?_) _ X Y rfl
  have h2 := bits_and.halves (-x - 1) (-y - 1)
  have h3 := bits_or.halves x y
  have e1 : (-x - 1) / 2 = -(x / 2) - 1 := by omega
  have e2 : (-y - 1) / 2 = -(y / 2) - 1 := by omega
  rw [e1, e2] at h2
  rw [h3, ← h, h2]
  split <;> split <;> omega
theorem not_xor (X Y : Int) : -(Builtin.bitXor X Y) - 1 = Builtin.bitXor (-X - 1) Y := by
  refine bits_ind (P := fun x y => -(Builtin.bitXor x y) - 1 = Builtin.bitXor (-x - 1) y) (by decide) (by decide) (by decide) (by decide) (fun x y h => ?_) _ X Y rfl
  have h2 := bits_xor.halves (-x - 1) y
  have h3 := bits_xor.halves x y
  have e1 : (-x - 1) / 2 = -(x / 2) - 1 := by omega
  rw [e1, ← h] at h2
  rw [h2, h3]
  split <;> split <;> omega
theorem op_abs {op g : Int → Int → Int} (h : Bits op g) {X Y : Int} (hX : -2 ^ 100 ≤ X) (hX' : X < 2 ^ 100) (hY : -2 ^ 100 ≤ Y) (hY' : Y < 2 ^ 100) : (op X Y).natAbs ≤ 2 ^ 100 := by
  have := h.bound hX hX' hY hY'
  omega
theorem shift_one (X : Int) : shiftI X 1 = X * 2 := by rw [shiftI, if_pos (by decide)]; rfl
theorem shift_l {X n : Int} (hn : 0 ≤ n) : shiftI X n = X * 2 ^ n.toNat := by rw [shiftI, if_pos hn]
theorem shift_r {X n : Int} (hn : 0 ≤ n) : shiftI X (0 - n) = X / 2 ^ n.toNat := by
  rw [shiftI]
  by_cases h : n = 0
  · subst h; simp
  · have e : (-(0 - n)).toNat = n.toNat := by omega
    rw [if_neg (by omega), e]
theorem pow0 {n : Int} (hn : 0 ≤ n) : (2 : Nat) ^ (0 - n).toNat = 1 := by
  have : (0 - n).toNat = 0 := by omega
  rw [this]
theorem natAbs_div_le (X : Int) (k : Nat) : (X / 2 ^ k).natAbs ≤ X.natAbs := by
  have hp := two_pos k
  have h1 := Int.emod_add_mul_ediv X (2 ^ k)
  have h2 := Int.emod_nonneg X (show (2 : Int) ^ k ≠ 0 by omega)
  by_cases h : 0 ≤ X
  · have a := Int.ediv_nonneg h (Int.le_of_lt hp)
    have b := Int.ediv_le_self (2 ^ k) h
    omega
  · have a : X / 2 ^ k < 0 := Int.ediv_neg_of_neg_of_pos (by omega) hp
    have b : X ≤ X / 2 ^ k := by
      have h4 := Int.emod_lt_of_pos X hp
      have h3 := Int.mul_le_mul_of_nonneg_left (show X / 2 ^ k + 1 ≤ 0 by omega) (show (0 : Int) ≤ 2 ^ k - 1 by omega)
      rw [Int.mul_zero, Int.sub_mul, Int.one_mul, Int.mul_add, Int.mul_one] at h3
      omega
    omega
theorem sg_xor {X Y : Int} (h : sg X = sg Y) : 0 ≤ Builtin.bitXor X Y := by
  simp only [sg] at h
  rw [decide_eq_decide] at h
  by_cases hx : 0 ≤ X
  · exact xor_nonneg hx (by omega)
  · have h1 := not_xor X Y
    have h2 := not_xor Y (-X - 1)
    have c : ∀ a b, Builtin.bitXor a b = Builtin.bitXor b a := fun a b => by rw [bitXor_and, bitXor_and, bitAnd_comm]; omega
    have h3 := xor_nonneg (x := -X - 1) (y := -Y - 1) (by omega) (by omega)
    rw [c] at h3
    rw [← h2, c Y, ← h1] at h3
    omega
theorem xor_self (X : Int) : Builtin.bitXor X X = 0 := by rw [bitXor_and, bitAnd_self]; omega
theorem xor_tri (X Y Z : Int) : Builtin.bitXor X Z = Builtin.bitXor (Builtin.bitXor X Y) (Builtin.bitXor Y Z) := by
  have three : ∀ (n : Nat) (x y z : Int), x.natAbs + y.natAbs + z.natAbs = n → Builtin.bitXor x z = Builtin.bitXor (Builtin.bitXor x y) (Builtin.bitXor y z) := by
    intro n
    induction n using Nat.strongRecOn with
    | ind n ih =>
      intro x y z hn
      by_cases hb : (x = 0 ∨ x = -1) ∧ (y = 0 ∨ y = -1) ∧ (z = 0 ∨ z = -1)
      · obtain ⟨hx, hy, hz⟩ := hb
        rcases hx with rfl | rfl <;> rcases hy with rfl | rfl <;> rcases hz with rfl | rfl <;> decide
      · have hl : (x / 2).natAbs + (y / 2).natAbs + (z / 2).natAbs < n := by
          rw [← hn]
          by_cases hx : x = 0 ∨ x = -1
          · by_cases hy : y = 0 ∨ y = -1
            · exact Nat.add_lt_add_of_le_of_lt (Nat.add_le_add (half_le x) (half_le y)) (half_lt fun hz => hb ⟨hx, hy, hz⟩)
            · exact Nat.add_lt_add_of_lt_of_le (Nat.add_lt_add_of_le_of_lt (half_le x) (half_lt hy)) (half_le z)
          · exact Nat.add_lt_add_of_lt_of_le (Nat.add_lt_add_of_lt_of_le (half_lt hx) (half_le y)) (half_le z)
        have h := ih ((x / 2).natAbs + (y / 2).natAbs + (z / 2).natAbs) hl (x / 2) (y / 2) (z / 2) rfl
        clear hl hn hb ih
        have a := bits_xor.halves x z
        have b := bits_xor.half x y
        have c := bits_xor.half y z
        have d := bits_xor.halves (Builtin.bitXor x y) (Builtin.bitXor y z)
        rw [b.1, b.2, c.1, c.2, ← h] at d
        rw [a, d]
        (repeat' split) <;> omega
  exact three _ X Y Z rfl
theorem ones_tri {X Y Z : Int} (h1 : sg X = sg Y) (h2 : sg Y = sg Z) : onesI (Builtin.bitXor X Z).natAbs ≤ onesI (Builtin.bitXor X Y).natAbs + onesI (Builtin.bitXor Y Z).natAbs := by
  have a := sg_xor h1
  have b := sg_xor h2
  have c := sg_xor (h1.trans h2)
  have h := ones_xor _ _ _ rfl a b
  rw [← xor_tri] at h
  rw [Int.natAbs_of_nonneg a, Int.natAbs_of_nonneg b, Int.natAbs_of_nonneg c]
  exact h
theorem two_one_and {X : Int} {k : Nat} : Builtin.bitAnd X (2 ^ k) = (X / 2 ^ k % 2) * 2 ^ k := kbt_bit X k
theorem mul_pow_lt {a k : Nat} (ha : a < 2 ^ 101) (hk : k < 50) : a * 2 ^ k < 2 ^ 160 := by
  have h1 : 2 ^ k ≤ 2 ^ 50 := Nat.pow_le_pow_right (by decide) (by omega)
  have h2 : a * 2 ^ k ≤ a * 2 ^ 50 := Nat.mul_le_mul_left _ h1
  omega
theorem shift_abs {X n : Int} (hX : X.natAbs < 2 ^ 101) (h0 : 0 ≤ n) (h1 : n < 50) : (shiftI X n).natAbs < 2 ^ 160 := by
  rw [shift_l h0, Int.natAbs_mul, pow_cast, Int.natAbs_natCast]
  exact mul_pow_lt hX (by omega)
theorem place_facts {X n : Int} (hX : X.natAbs < 2 ^ 100) (h0 : 0 ≤ n) (h1 : n < 50) :
    shiftI (shiftI X n) (0 - n) = X ∧ shiftI (shiftI X (0 - n)) n + Builtin.bitAnd X (shiftI 1 n - 1) = X ∧ flipI X n = Builtin.bitXor X (shiftI 1 n) ∧
      (X / 2 ^ n.toNat % 2 = 1 → setI X n = X ∧ clrI X n = X - shiftI 1 n ∧ Builtin.bitAnd X (shiftI 1 n) = shiftI 1 n) ∧
      (¬ X / 2 ^ n.toNat % 2 = 1 → setI X n = X + shiftI 1 n ∧ clrI X n = X ∧ Builtin.bitAnd X (shiftI 1 n) ≠ shiftI 1 n) := by
  have hp := two_pos n.toNat
  have e1 : shiftI 1 n = 2 ^ n.toNat := by rw [shift_l h0, Int.one_mul]
  have hd := Int.emod_add_mul_ediv X (2 ^ n.toNat)
  have hb := kbt_bit X n.toNat
  refine ⟨?_, ?_, ?_, ?_, ?_⟩
  · rw [shift_r h0, shift_l h0, Int.mul_ediv_cancel _ (by omega)]
  · rw [e1, kbt_mask, shift_r h0, shift_l h0, Int.mul_comm (X / 2 ^ n.toNat)]
    omega
  · rw [e1, bitXor_and, hb, flipI]
    by_cases h : X / 2 ^ n.toNat % 2 = 1
    · rw [if_pos h, h, Int.one_mul]; omega
    · have h' : X / 2 ^ n.toNat % 2 = 0 := by omega
      rw [if_neg h, h', Int.zero_mul]; omega
  · intro h
    rw [e1, setI, if_pos h, clrI, if_neg (by omega), hb, h, Int.one_mul]
    exact ⟨rfl, rfl, rfl⟩
  · intro h
    have h' : X / 2 ^ n.toNat % 2 = 0 := by omega
    rw [e1, setI, if_neg h, clrI, if_pos h', hb, h', Int.zero_mul]
    exact ⟨rfl, rfl, by omega⟩
theorem place_bounds {X n : Int} (hX : X.natAbs < 2 ^ 100) (h0 : 0 ≤ n) (h1 : n < 50) :
    (shiftI 1 n).natAbs < 2 ^ 100 ∧ X.natAbs * 2 ^ n.toNat < 2 ^ 188 ∧ (1 : Int).natAbs * 2 ^ n.toNat < 2 ^ 188 ∧ (shiftI X n).natAbs < 2 ^ 187 ∧ (shiftI X n).natAbs * 2 ^ (0 - n).toNat < 2 ^ 188 ∧ X.natAbs * 2 ^ (0 - n).toNat < 2 ^ 188 ∧
      (shiftI X (0 - n)).natAbs < 2 ^ 100 ∧ (shiftI X (0 - n)).natAbs * 2 ^ n.toNat < 2 ^ 188 ∧ (shiftI (shiftI X (0 - n)) n).natAbs < 2 ^ 187 ∧ (shiftI 1 n - 1).natAbs < 2 ^ 100 ∧ (Builtin.bitAnd X (shiftI 1 n - 1)).natAbs < 2 ^ 101 ∧ (Builtin.bitAnd X (shiftI 1 n)).natAbs < 2 ^ 101 := by
  have e1 : shiftI 1 n = 2 ^ n.toNat := by rw [shift_l h0, Int.one_mul]
  have hp := two_pos n.toNat
  have hq : (2 : Nat) ^ n.toNat ≤ 2 ^ 50 := Nat.pow_le_pow_right (by decide) (by omega)
  have hc := pow_cast n.toNat
  have a1 : (shiftI 1 n).natAbs < 2 ^ 100 := by rw [e1, hc, Int.natAbs_natCast]; omega
  have a2 := shift_abs (X := X) (n := n) (by omega) h0 h1
  have a3 : (shiftI X (0 - n)).natAbs ≤ X.natAbs := by rw [shift_r h0]; exact natAbs_div_le _ _
  have a4 := shift_abs (X := shiftI X (0 - n)) (n := n) (by omega) h0 h1
  have a5 := mul_pow_lt (a := X.natAbs) (k := n.toNat) (by omega) (by omega)
  have a6 := mul_pow_lt (a := (shiftI X (0 - n)).natAbs) (k := n.toNat) (by omega) (by omega)
  have a7 : 0 < shiftI 1 n := by rw [e1]; exact hp
  have a8 := op_abs bits_and (X := X) (Y := shiftI 1 n - 1) (by omega) (by omega) (by omega) (by omega)
  have a9 := op_abs bits_and (X := X) (Y := shiftI 1 n) (by omega) (by omega) (by omega) (by omega)
  have p0 := pow0 h0
  refine ⟨a1, by omega, ?_, by omega, ?_, ?_, by omega, by omega, by omega, by omega, by omega, by omega⟩
  · show 1 * 2 ^ n.toNat < 2 ^ 188
    omega
  · rw [p0]; omega
  · rw [p0]; omega
theorem rows19 : True := by
  k_with "m_bnd" => first | assumption | omega | (have hSg := sg_t (by assumption); omega) | (have hSg := sg_f (by assumption); omega)
  k_with "m_i" => first | k_asm | exact one_ints (by assumption) | exact nil_ints | exact two_ints (by assumption)
  k_with "call ref" => (k_here; (with_reducible show wpAny _ _ (call (Value.ref 60) _ _) _ _ _); k_dflt (refine' use_L ?zzB ?zzF ?zzX ?zzN ?zzT ?zzK (cc_add ?zzz1 ?zzz2 ?zzi1 ?zzi2 ?zzb1 ?zzb2) ?zzS ?zzD ?zzU ?_; (k_extra "m_use"); (case zzi1 => k_extra "m_i"); (case zzi2 => k_extra "m_i"); (case zzz1 => assumption); (case zzz2 => assumption); (case zzb1 => k_extra "m_bnd"); (case zzb2 => k_extra "m_bnd")); intro _ _ _ _ _ _ _ _; (try k_sweep))
  k_with "call ref" => (k_here; (with_reducible show wpAny _ _ (call (Value.ref 67) _ _) _ _ _); k_dflt (refine' use_L ?zzB ?zzF ?zzX ?zzN ?zzT ?zzK (cc_sub ?zzz1 ?zzz2 ?zzi1 ?zzi2 ?zzb1 ?zzb2) ?zzS ?zzD ?zzU ?_; (k_extra "m_use"); (case zzi1 => k_extra "m_i"); (case zzi2 => k_extra "m_i"); (case zzz1 => assumption); (case zzz2 => assumption); (case zzb1 => k_extra "m_bnd"); (case zzb2 => k_extra "m_bnd")); intro _ _ _ _ _ _ _ _; (try k_sweep))
  k_with "call ref" => (k_here; (with_reducible show wpAny _ _ (call (Value.ref 53) _ _) _ _ _); k_dflt (refine' use_I ?zzB ?zzF ?zzX ?zzN ?zzT ?zzK (cc_compare ?zzz1 ?zzi1 ?zzi2 ?zzb1 ?zzb2) ?zzS ?zzD ?zzU ?_; (k_extra "m_use"); (case zzi1 => k_extra "m_i"); (case zzi2 => k_extra "m_i"); (case zzz1 => assumption); (case zzb1 => k_extra "m_bnd"); (case zzb2 => k_extra "m_bnd")); intro _ _ _ _ _; (try k_sweep))
  k_with "call ref" => (k_here; (with_reducible show wpAny _ _ (call (Value.ref 74) _ _) _ _ _); k_dflt (refine' use_L ?zzB ?zzF ?zzX ?zzN ?zzT ?zzK (cc_add_limb ?zzz1 ?zzz2 ?zzi1 ?zzb1) ?zzS ?zzD ?zzU ?_; (k_extra "m_use"); (case zzi1 => k_extra "m_i"); (case zzz1 => assumption); (case zzz2 => assumption); (case zzb1 => k_extra "m_bnd")); intro _ _ _ _ _ _ _ _; (try k_sweep))
  k_with "call ref" => (k_here; (with_reducible show wpAny _ _ (call (Value.ref 81) _ _) _ _ _); k_dflt (refine' use_L ?zzB ?zzF ?zzX ?zzN ?zzT ?zzK (cc_shift_left ?zzz1 ?zzz2 ?zzi1 ?zzb1 ?zzb2 ?zzb3) ?zzS ?zzD ?zzU ?_; (k_extra "m_use"); (case zzi1 => k_extra "m_i"); (case zzz1 => assumption); (case zzz2 => assumption); (case zzb1 => k_extra "m_bnd"); (case zzb2 => k_extra "m_bnd"); (case zzb3 => k_extra "m_bnd")); intro _ _ _ _ _ _ _ _; (try k_sweep))
  k_with "call ref" => (k_here; (with_reducible show wpAny _ _ (call (Value.ref 88) _ _) _ _ _); k_dflt (refine' use_L ?zzB ?zzF ?zzX ?zzN ?zzT ?zzK (cc_shift_right ?zzz1 ?zzz2 ?zzi1 ?zzb1 ?zzb2 ?zzb3) ?zzS ?zzD ?zzU ?_; (k_extra "m_use"); (case zzi1 => k_extra "m_i"); (case zzz1 => assumption); (case zzz2 => assumption); (case zzb1 => k_extra "m_bnd"); (case zzb2 => k_extra "m_bnd"); (case zzb3 => k_extra "m_bnd")); intro _ _ _ _ _ _ _ _; (try k_sweep))
  k_with "call ref" => (k_here; (with_reducible show wpAny _ _ (call (Value.ref 95) _ _) _ _ _); k_dflt (refine' use_I ?zzB ?zzF ?zzX ?zzN ?zzT ?zzK (cc_bit ?zzz1 ?zzz2 ?zzi1 ?zzb1 ?zzb2 ?zzb3) ?zzS ?zzD ?zzU ?_; (k_extra "m_use"); (case zzi1 => k_extra "m_i"); (case zzz1 => assumption); (case zzz2 => assumption); (case zzb1 => k_extra "m_bnd"); (case zzb2 => k_extra "m_bnd"); (case zzb3 => k_extra "m_bnd")); intro _ _ _ _ _; (try k_sweep))
  k_with "call ref" => (k_here; (with_reducible show wpAny _ _ (call (Value.ref 102) _ _) _ _ _); k_dflt (refine' use_L ?zzB ?zzF ?zzX ?zzN ?zzT ?zzK (cc_low ?zzz1 ?zzz2 ?zzi1 ?zzb1 ?zzb2 ?zzb3) ?zzS ?zzD ?zzU ?_; (k_extra "m_use"); (case zzi1 => k_extra "m_i"); (case zzz1 => assumption); (case zzz2 => assumption); (case zzb1 => k_extra "m_bnd"); (case zzb2 => k_extra "m_bnd"); (case zzb3 => k_extra "m_bnd")); intro _ _ _ _ _ _ _ _; (try k_sweep))
  k_with "call ref" => (k_here; (with_reducible show wpAny _ _ (call (Value.ref 209) _ _) _ _ _); k_dflt (refine' use_S ?zzB ?zzF ?zzX ?zzN ?zzT ?zzK (cc_signed ?zzz1 ?zzi1 ?zzb1) ?zzS ?zzD ?zzU ?_; (k_extra "m_use"); (case zzi1 => k_extra "m_i"); (case zzz1 => assumption); (case zzb1 => k_extra "m_bnd")); intro _ _ _ _ _ _ _ _ _ _; (try k_sweep))
  k_with "call ref" => (k_here; (with_reducible show wpAny _ _ (call (Value.ref 188) _ _) _ _ _); k_dflt (refine' use_I ?zzB ?zzF ?zzX ?zzN ?zzT ?zzK (cc_nat_ones ?zzz1 ?zzz2 ?zzi1 ?zzb1) ?zzS ?zzD ?zzU ?_; (k_extra "m_use"); (case zzi1 => k_extra "m_i"); (case zzz1 => assumption); (case zzz2 => assumption); (case zzb1 => k_extra "m_bnd")); intro _ _ _ _ _; (try k_sweep))
  k_with "m_iP" => first | k_asm | exact one_intsP (by assumption)
  k_with "call ref" => (k_here; (with_reducible show wpAny _ _ (call (Value.ref 124) _ _) _ _ _); k_dflt (refine' use_Sl ?zzB ?zzF ?zzX ?zzN ?zzT ?zzK (cb_s_and ?zzz1 ?zzz2 ?zzh1 ?zzh2 ?zzi1 ?zzi2 ?zzb1 ?zzb2) ?zzS ?zzD ?zzU ?_; (k_extra "m_use"); (case zzi1 => k_extra "m_iP"); (case zzi2 => k_extra "m_iP"); (case zzz1 => assumption); (case zzz2 => assumption); (case zzh1 => first | rfl | assumption); (case zzh2 => first | rfl | assumption); (case zzb1 => k_extra "m_bnd"); (case zzb2 => k_extra "m_bnd")); intro _ _ _ _ _ _ _ _ _ _ _; (try k_sweep))
  k_with "call ref" => (k_here; (with_reducible show wpAny _ _ (call (Value.ref 129) _ _) _ _ _); k_dflt (refine' use_Sl ?zzB ?zzF ?zzX ?zzN ?zzT ?zzK (cb_s_or ?zzz1 ?zzz2 ?zzh1 ?zzh2 ?zzi1 ?zzi2 ?zzb1 ?zzb2) ?zzS ?zzD ?zzU ?_; (k_extra "m_use"); (case zzi1 => k_extra "m_iP"); (case zzi2 => k_extra "m_iP"); (case zzz1 => assumption); (case zzz2 => assumption); (case zzh1 => first | rfl | assumption); (case zzh2 => first | rfl | assumption); (case zzb1 => k_extra "m_bnd"); (case zzb2 => k_extra "m_bnd")); intro _ _ _ _ _ _ _ _ _ _ _; (try k_sweep))
  k_with "call ref" => (k_here; (with_reducible show wpAny _ _ (call (Value.ref 134) _ _) _ _ _); k_dflt (refine' use_Sl ?zzB ?zzF ?zzX ?zzN ?zzT ?zzK (cb_s_xor ?zzz1 ?zzz2 ?zzh1 ?zzh2 ?zzi1 ?zzi2 ?zzb1 ?zzb2) ?zzS ?zzD ?zzU ?_; (k_extra "m_use"); (case zzi1 => k_extra "m_iP"); (case zzi2 => k_extra "m_iP"); (case zzz1 => assumption); (case zzz2 => assumption); (case zzh1 => first | rfl | assumption); (case zzh2 => first | rfl | assumption); (case zzb1 => k_extra "m_bnd"); (case zzb2 => k_extra "m_bnd")); intro _ _ _ _ _ _ _ _ _ _ _; (try k_sweep))
  k_with "call ref" => (k_here; (with_reducible show wpAny _ _ (call (Value.ref 223) _ _) _ _ _); k_dflt (refine' use_Sl ?zzB ?zzF ?zzX ?zzN ?zzT ?zzK (cb_s_add ?zzz1 ?zzz2 ?zzh1 ?zzh2 ?zzi1 ?zzi2 ?zzb1 ?zzb2) ?zzS ?zzD ?zzU ?_; (k_extra "m_use"); (case zzi1 => k_extra "m_iP"); (case zzi2 => k_extra "m_iP"); (case zzz1 => assumption); (case zzz2 => assumption); (case zzh1 => first | rfl | assumption); (case zzh2 => first | rfl | assumption); (case zzb1 => k_extra "m_bnd"); (case zzb2 => k_extra "m_bnd")); intro _ _ _ _ _ _ _ _ _ _ _; (try k_sweep))
  k_with "call ref" => (k_here; (with_reducible show wpAny _ _ (call (Value.ref 216) _ _) _ _ _); k_dflt (refine' use_Sl ?zzB ?zzF ?zzX ?zzN ?zzT ?zzK (cb_s_neg ?zzz1 ?zzh1 ?zzi1 ?zzb1) ?zzS ?zzD ?zzU ?_; (k_extra "m_use"); (case zzi1 => k_extra "m_iP"); (case zzz1 => assumption); (case zzh1 => first | rfl | assumption); (case zzb1 => k_extra "m_bnd"); skip); intro _ _ _ _ _ _ _ _ _ _ _; (try k_sweep))
  k_with "call ref" => (k_here; (with_reducible show wpAny _ _ (call (Value.ref 141) _ _) _ _ _); k_dflt (refine' use_Sl ?zzB ?zzF ?zzX ?zzN ?zzT ?zzK (cb_s_not ?zzz1 ?zzz2 ?zzh1 ?zzi1 ?zzb1) ?zzS ?zzD ?zzU ?_; (k_extra "m_use"); (case zzi1 => k_extra "m_iP"); (case zzz1 => assumption); (case zzz2 => assumption); (case zzh1 => first | rfl | assumption); (case zzb1 => k_extra "m_bnd"); skip); intro _ _ _ _ _ _ _ _ _ _ _; (try k_sweep))
  k_with "call ref" => (k_here; (with_reducible show wpAny _ _ (call (Value.ref 148) _ _) _ _ _); k_dflt (refine' use_I ?zzB ?zzF ?zzX ?zzN ?zzT ?zzK (cb_s_bit ?zzz1 ?zzz2 ?zzh1 ?zzi1 ?zzb1 ?zzb2 ?zzb3) ?zzS ?zzD ?zzU ?_; (k_extra "m_use"); (case zzi1 => k_extra "m_iP"); (case zzz1 => assumption); (case zzz2 => assumption); (case zzh1 => first | rfl | assumption); (case zzb1 => k_extra "m_bnd"); (case zzb2 => k_extra "m_bnd"); (case zzb3 => k_extra "m_bnd"); skip); intro _ _ _ _ _; (try k_sweep))
  k_with "call ref" => (k_here; (with_reducible show wpAny _ _ (call (Value.ref 237) _ _) _ _ _); k_dflt (refine' use_Sl ?zzB ?zzF ?zzX ?zzN ?zzT ?zzK (cb_s_shift ?zzz1 ?zzz2 ?zzh1 ?zzi1 ?zzb1 ?zzb2 ?zzb3 ?zzb4) ?zzS ?zzD ?zzU ?_; (k_extra "m_use"); (case zzi1 => k_extra "m_iP"); (case zzz1 => assumption); (case zzz2 => assumption); (case zzh1 => first | rfl | assumption); (case zzb1 => k_extra "m_bnd"); (case zzb2 => k_extra "m_bnd"); (case zzb3 => k_extra "m_bnd"); (case zzb4 => k_extra "m_bnd"); skip); intro _ _ _ _ _ _ _ _ _ _ _; (try k_sweep))
  k_with "call ref" => (k_here; (with_reducible show wpAny _ _ (call (Value.ref 155) _ _) _ _ _); k_dflt (refine' use_L ?zzB ?zzF ?zzX ?zzN ?zzT ?zzK (cc_one_at ?zzz1 ?zzz2 ?zzb1 ?zzb2) ?zzS ?zzD ?zzU ?_; (k_extra "m_use"); (case zzz1 => assumption); (case zzz2 => assumption); (case zzb1 => k_extra "m_bnd"); (case zzb2 => k_extra "m_bnd")); intro _ _ _ _ _ _ _ _; (try k_sweep))
  k_with "call ref" => (k_here; (with_reducible show wpAny _ _ (call (Value.ref 230) _ _) _ _ _); k_dflt (refine' use_Sl ?zzB ?zzF ?zzX ?zzN ?zzT ?zzK (cb_s_sub ?zzz1 ?zzz2 ?zzh1 ?zzh2 ?zzi1 ?zzi2 ?zzb1 ?zzb2) ?zzS ?zzD ?zzU ?_; (k_extra "m_use"); (case zzi1 => k_extra "m_iP"); (case zzi2 => k_extra "m_iP"); (case zzz1 => assumption); (case zzz2 => assumption); (case zzh1 => first | rfl | assumption); (case zzh2 => first | rfl | assumption); (case zzb1 => k_extra "m_bnd"); (case zzb2 => k_extra "m_bnd"); skip); intro _ _ _ _ _ _ _ _ _ _ _; (try k_sweep))
  k_with "call ref" => (k_here; (with_reducible show wpAny _ _ (call (Value.ref 202) _ _) _ _ _); k_dflt (refine' use_O ?zzB ?zzF ?zzX ?zzN ?zzT ?zzK (cb_distance ?zzz1 ?zzz2 ?zzh1 ?zzh2 ?zzi1 ?zzi2 ?zzb1 ?zzb2 ?zzb3) ?zzS ?zzD ?zzU ?_ ?_; (k_extra "m_use"); (case zzi1 => k_extra "m_iP"); (case zzi2 => k_extra "m_iP"); (case zzz1 => assumption); (case zzz2 => assumption); (case zzh1 => first | rfl | assumption); (case zzh2 => first | rfl | assumption); (case zzb1 => k_extra "m_bnd"); (case zzb2 => k_extra "m_bnd"); (case zzb3 => k_extra "m_bnd"); skip); (focus (intro e' h' tk' F' N'; (try k_sweep))); (intro _ _ _ _ _ _ _; (try k_sweep)))
  k_with "call ref" => (k_here; (with_reducible show wpAny _ _ (call (Value.ref 162) _ _) _ _ _); k_dflt (refine' use_Sl ?zzB ?zzF ?zzX ?zzN ?zzT ?zzK (cb_set_bit ?zzz1 ?zzz2 ?zzh1 ?zzi1 ?zzb1 ?zzb2 ?zzb3) ?zzS ?zzD ?zzU ?_; (k_extra "m_use"); (case zzi1 => k_extra "m_iP"); (case zzz1 => assumption); (case zzz2 => assumption); (case zzh1 => first | rfl | assumption); (case zzb1 => k_extra "m_bnd"); (case zzb2 => k_extra "m_bnd"); (case zzb3 => k_extra "m_bnd"); skip); intro _ _ _ _ _ _ _ _ _ _ _; (try k_sweep))
  k_with "call ref" => (k_here; (with_reducible show wpAny _ _ (call (Value.ref 169) _ _) _ _ _); k_dflt (refine' use_Sl ?zzB ?zzF ?zzX ?zzN ?zzT ?zzK (cb_clear_bit ?zzz1 ?zzz2 ?zzh1 ?zzi1 ?zzb1 ?zzb2 ?zzb3) ?zzS ?zzD ?zzU ?_; (k_extra "m_use"); (case zzi1 => k_extra "m_iP"); (case zzz1 => assumption); (case zzz2 => assumption); (case zzh1 => first | rfl | assumption); (case zzb1 => k_extra "m_bnd"); (case zzb2 => k_extra "m_bnd"); (case zzb3 => k_extra "m_bnd"); skip); intro _ _ _ _ _ _ _ _ _ _ _; (try k_sweep))
  k_with "call ref" => (k_here; (with_reducible show wpAny _ _ (call (Value.ref 195) _ _) _ _ _); k_dflt (refine' use_O ?zzB ?zzF ?zzX ?zzN ?zzT ?zzK (cb_count_ones ?zzz1 ?zzz2 ?zzh1 ?zzi1 ?zzb1) ?zzS ?zzD ?zzU ?_ ?_; (k_extra "m_use"); (case zzi1 => k_extra "m_iP"); (case zzz1 => assumption); (case zzz2 => assumption); (case zzh1 => first | rfl | assumption); (case zzb1 => k_extra "m_bnd"); skip); (focus (intro e' h' tk' F' N'; (try k_sweep))); (intro _ _ _ _ _ _ _; (try k_sweep)))
  k_with "call ref" => (k_here; (with_reducible show wpAny _ _ (call (Value.ref 176) _ _) _ _ _); k_dflt (refine' use_S ?zzB ?zzF ?zzX ?zzN ?zzT ?zzK (cb_flip_bit ?zzz1 ?zzz2 ?zzh1 ?zzi1 ?zzb1 ?zzb2 ?zzb3) ?zzS ?zzD ?zzU ?_; (k_extra "m_use"); (case zzi1 => k_extra "m_iP"); (case zzz1 => assumption); (case zzz2 => assumption); (case zzh1 => first | rfl | assumption); (case zzb1 => k_extra "m_bnd"); (case zzb2 => k_extra "m_bnd"); (case zzb3 => k_extra "m_bnd"); skip); intro _ _ _ _ _ _ _ _ _ _; (try k_sweep))
  k_with "m_un" => (show _ + 64 < 9900; dsimp only [ktrTop]; omega)
  k_with "m_e" => first | assumption | rfl | exact Eq.symm (by assumption)
  k_with "m_eqs" => ((case zzN => k_asm); (case zzm1 => first | (with_reducible k_extra "m_mem") | k_mem); (case zzm2 => first | (with_reducible k_extra "m_mem") | k_mem); (case zzm3 => first | (with_reducible k_extra "m_mem") | k_mem); (case zzm4 => first | (with_reducible k_extra "m_mem") | k_mem); (case zzi1 => k_extra "m_iP"); (case zzi2 => k_extra "m_iP"); (case zzk => omega); (case zzh1 => first | rfl | assumption); (case zzh2 => first | rfl | assumption); (case zzu => k_extra "m_un"))
  k_with "compareOp Eq ref ref" => (k_here; k_dflt (refine' eq_Sf ?zze ?zzk ?zzN ?zzm1 ?zzm2 ?zzm3 ?zzm4 ?zzi1 ?zzi2 ?zzh1 ?zzh2 ?zzu ?_; (k_extra "m_eqs"); (case zze => assumption)))
  k_with "compareOp Eq ref ref" => (k_here; k_dflt (refine' eq_St ?zze ?zzk ?zzN ?zzm1 ?zzm2 ?zzm3 ?zzm4 ?zzi1 ?zzi2 ?zzh1 ?zzh2 ?zzu ?_; (k_extra "m_eqs"); (case zze => k_extra "m_e")))
  k_with "compareOp NotEq ref ref" => (k_here; k_dflt (refine' ne_St ?zze ?zzk ?zzN ?zzm1 ?zzm2 ?zzm3 ?zzm4 ?zzi1 ?zzi2 ?zzh1 ?zzh2 ?zzu ?_; (k_extra "m_eqs"); (case zze => k_extra "m_e")))
  k_with "m_go" => repeat' (first | (k_unfold; (try dsimp only [List.nil_append, List.cons_append])) | (k_end; wrow_close) | walk1 | (dsimp only; walk1) | (leave1; (try dsimp only)) | fail "no step")
  k_with "eval Call" => k_fold
  k_with "isTrue Compare" => k_fold
  k_with "eval BoolOp" => k_fold
  k_with "isTrue BoolOp" => k_fold
  k_with "eval Tuple" => k_fold
  exact True.intro
theorem two_facts {X Y : Int} (hX : X.natAbs < 2 ^ 100) (hY : Y.natAbs < 2 ^ 100) :
    X.natAbs < 2 ^ 188 ∧ Y.natAbs < 2 ^ 188 ∧ (-X - 1).natAbs < 2 ^ 188 ∧ (-Y - 1).natAbs < 2 ^ 188 ∧ (Builtin.bitAnd X Y).natAbs < 2 ^ 188 ∧ (Builtin.bitOr X Y).natAbs < 2 ^ 188 ∧ (Builtin.bitXor X Y).natAbs < 2 ^ 188 ∧
    (Builtin.bitAnd (-X - 1) (-Y - 1)).natAbs < 2 ^ 188 ∧ (1 : Int).natAbs < 2 ^ 188 ∧ (Builtin.bitAnd X Y).natAbs * 2 ^ Int.toNat 1 < 2 ^ 188 ∧ (shiftI (Builtin.bitAnd X Y) 1).natAbs < 2 ^ 188 := by
  have hA := op_abs bits_and (X := X) (Y := Y) (by omega) (by omega) (by omega) (by omega)
  have hO := op_abs bits_or (X := X) (Y := Y) (by omega) (by omega) (by omega) (by omega)
  have hD := op_abs bits_xor (X := X) (Y := Y) (by omega) (by omega) (by omega) (by omega)
  have hN := op_abs bits_and (X := -X - 1) (Y := -Y - 1) (by omega) (by omega) (by omega) (by omega)
  have lt : ∀ {n : Nat}, n ≤ 2 ^ 100 → n < 2 ^ 188 := fun h => Nat.lt_of_le_of_lt h (by decide)
  refine ⟨lt (Nat.le_of_lt hX), lt (Nat.le_of_lt hY), by clear hA hO hD hN hY; omega, by clear hA hO hD hN hX; omega, lt hA, lt hO, lt hD, lt hN, by decide, ?_, ?_⟩
  · rw [show (2 : Nat) ^ Int.toNat 1 = 2 from rfl]; clear hO hD hN hX hY; omega
  · rw [shift_one, Int.natAbs_mul, show (2 : Int).natAbs = 2 from rfl]; clear hO hD hN hX hY; omega
theorem cb_two_right {x lx y ly : Addr} {bx bY : Bool} {cx clx cy cly : Nat} {xs ys : List Value} {X Y : Int} {tw : Tok} (hz : 2 ≤ z) (hz' : z ≤ 9) (hb : bx = sg X) (hb' : bY = sg Y)
    (ix : IntsAre xs (mag z X)) (iy : IntsAre ys (mag z Y)) (hX : X.natAbs < 2 ^ 100) (hY : Y.natAbs < 2 ^ 100) :
    Ct w mean mg mb 12 270 [.ref x, .ref y, .int (z : Int) tw] [(x, tupS bx lx cx), (lx, listOf xs.toArray clx), (y, tupS bY ly cy), (ly, listOf ys.toArray cly)] (BRes true) := by
  obtain ⟨hX8, hY8, hNX, hNY, hA8, hO8, hD8, hN8, h18, hp, hsa⟩ := two_facts hX hY
  clear hX hY
  have e1 : Builtin.bitXor X Y + shiftI (Builtin.bitAnd X Y) 1 = X + Y := by rw [shift_one, bitXor_and, Int.mul_comm]; exact Int.sub_add_cancel ..
  have e2 : Builtin.bitOr X Y + Builtin.bitAnd X Y = X + Y := by rw [bitOr_and]; exact Int.sub_add_cancel ..
  have e3 : Builtin.bitOr X Y - Builtin.bitAnd X Y = Builtin.bitXor X Y := by rw [bitOr_and, bitXor_and]; omega
  have e4 := xor_xor X Y
  have e5 := and_and X Y
  have e6 := not_and_not X Y
  have e7 := not_xor X Y
  have e8 : -X - 1 + 1 = -X := by omega
  have e9 : -(-Y - 1) - 1 = Y := by omega
  k_dflt (refine' ct_of (binds := [(PySem.Str.ofString "x", .ref x), (PySem.Str.ofString "y", .ref y), (PySem.Str.ofString "w", .int (z : Int) tw)]) ?k6 ?k7 ?k9 ?kB ?c5 ?c2 ?c3 ?c4 ?_ ?c6)
  walk_at "ct"
  intro dp un gd outer A₀ base g L' s hd1 hu F N B XK T hl
  (try simp only [List.reverse_cons, List.reverse_nil, List.nil_append, List.cons_append] at F)
  k_fold
  k_extra "m_go"

-- part Ka
theorem rows20 : True := by
  k_with_none
  k_with "ct" => ((case k6 => k_is); (case k7 => k_is); (case k9 => (intro s; exact BindsTo.of_eq rfl)); (case kB => exact locs rfl); (case c5 => decide); (case c2 => exact rfl); (case c3 => exact rfl); (case c4 => exact rfl); (case c6 => decide))
  k_with "ctc" => ((case k6 => k_is); (case k7 => k_is); (case k9 => (intro s; exact BindsTo.of_eq rfl)); (case kB => exact rfl); (case kD => decide +kernel); (case c2 => exact rfl); (case c3 => exact rfl); (case c4 => exact rfl); (case c6 => decide))
  k_with "m_mem" => first | exact List.mem_cons_self | (refine List.mem_cons_of_mem _ ?_; k_extra "m_mem")
  k_with "m_sub" => first | exact True.intro | (refine' And.intro ?zzm1 ?zzm2; (case zzm1 => first | (with_reducible k_extra "m_mem") | k_mem); (case zzm2 => k_extra "m_sub"))
  k_with "PEnd" => (refine' pend ?zzF ?zzN ?zzS ?_ ?zzE; (case zzF => k_asm); (case zzN => k_asm); (case zzS => k_extra "m_sub"); (case zzE => exact rfl); (try dsimp only))
  k_with "SRes" => (refine' sres_of ?zzm1 ?zzm2 ?zzm3 ?_ ?_; (case zzm1 => k_mem); (case zzm2 => k_mem); (case zzm3 => k_asm))
  k_with "LRes" => (refine' lres_of ?zzm2 ?zzm3 ?_; (case zzm2 => k_mem); (case zzm3 => first | k_asm | exact IntsAre.nil | l_ints))
  k_with "LRes" => (refine' lres_push ?zzm2 ?zzm3 ?_; (case zzm2 => k_mem); (case zzm3 => k_asm))
  k_with "IRes" => (refine' ires_of ?_)
  k_with "ORes" => first | refine' ores_none ?_ | refine' ores_some ?_
  k_with "BRes" => (refine' bres_of ?_)
  k_with "binaryOp FloorDiv int int" => (k_here; k_dflt (refine' fdiv_gen ?zza ?zzb ?zzc ?_; (case zza => omega); (case zzb => omega); (case zzc => omega)); intro _ _ _ _)
  k_with "binaryOp Mod int int" => (k_here; k_dflt (refine' fmod_gen ?zza ?zzb ?_; (case zza => omega); (case zzb => omega)); intro _ _ _ _)
  k_with "binaryOp FloorDiv int int" => (k_here; k_dflt (refine' fdiv_known ?zze ?zzb ?zzc ?_; (case zze => assumption); (case zzb => omega); (case zzc => omega)))
  k_with "binaryOp Mod int int" => (k_here; k_dflt (refine' fmod_known ?zze ?zzb ?_; (case zze => assumption); (case zzb => omega)))
  k_with "m_abs" => first | omega | exact LimbB.abs (by assumption) (by assumption) | exact LimbB.absAt (by assumption) _
  k_with "binaryOp LShift int int" => (k_here; k_dflt (refine' lshift_int_small ?zza ?zzb ?zzc ?_; (case zza => omega); (case zzb => omega); (case zzc => k_extra "m_abs")))
  k_with "binaryOp RShift int int" => (k_here; k_dflt (refine' rshift_int ?zza ?_; (case zza => omega)))
  k_with "m_use" => ((case zzB => k_asm); (case zzF => k_asm); (case zzX => k_asm); (case zzN => k_asm); (case zzT => k_asm); (case zzK => first | exact rfl | assumption); (case zzS => k_extra "m_sub"); (case zzD => first | exact dlt (by assumption) (by decide) | omega); (case zzU => first | exact ult (by assumption) (by decide) | omega))
  k_with "subscriptTail Name Slice ref ref" => (k_here; k_dflt (refine' kmk_slice_ints ?zzF ?zzN ?zzl ?zzp ?zzq ?zzi ?zzm ?zzc ?_ ?zzs ?zzt ?zzz; (case zzF => k_asm); (case zzN => k_asm); (case zzl => exact News.isList (by k_asm) (by k_mem)); (case zzp => kmk_part); (case zzq => kmk_part); (case zzi => k_asm); (case zzm => first | exact kmk_all (by assumption) | exact kmk_upto (by assumption) (by omega)); (case zzc => kmk_len); (case zzs => with_unfolding_all rfl); (case zzt => kmk_pure); (case zzz => exact kmk_sz (by assumption) (by rw [sizeLine_eq]; omega))); intro _ _ _ _ _ l1 _ _ _; (try k_lt l1); (try k_sweep))
  k_with "InvEndN" => k_dflt kst_close
  k_with "m_pick" => first | assumption | exact pk0 (by assumption) | exact pk1 (by assumption) | exact pk2 (by assumption) | exact pk3 (by assumption) | exact pl1 (by assumption) | exact pl2 (by assumption) | exact pl3 (by assumption) | exact pl4 (by assumption) | exact pl5 (by assumption) | exact pk4 (by assumption) | exact pk5 (by assumption) | exact pk6 (by assumption)
  k_with "m_ne" => (refine neN ?_; (try dsimp only); with_reducible first | exact Nat.ne_of_lt (by k_extra "m_pick") | exact Nat.ne_of_gt (by k_extra "m_pick") | k_extra "m_pick" | exact Ne.symm (by k_extra "m_pick") | omega)
  k_with "m_om" => first | with_reducible assumption | exact Nat.lt_of_lt_of_le (by with_reducible assumption) (by decide) | exact Nat.le_trans (by with_reducible assumption) (by decide) | exact Nat.lt_of_le_of_lt (by with_reducible assumption) (by decide) | exact Int.lt_of_lt_of_le (by with_reducible assumption) (by decide) | exact Int.le_trans (by with_reducible assumption) (by decide) | exact Int.lt_of_le_of_lt (by with_reducible assumption) (by decide) | exact int_le_of (by with_reducible assumption) (by decide) | exact int_lt_of (by with_reducible assumption) (by decide) | exact nat_le_of (by with_reducible assumption) (by decide) | exact lp_lt (by with_reducible assumption) (by with_reducible assumption) | exact lp_sz' (by with_reducible assumption) (by with_reducible assumption) (by with_reducible assumption) (by with_reducible assumption)
  k_with "m_bnd" => first | assumption | omega | (have hSg := sg_t (by assumption); omega) | (have hSg := sg_f (by assumption); omega)
  k_with "m_i" => first | k_asm | exact one_ints (by assumption) | exact nil_ints | exact two_ints (by assumption)
  k_with "call ref" => (k_here; (with_reducible show wpAny _ _ (call (Value.ref 60) _ _) _ _ _); k_dflt (refine' use_L ?zzB ?zzF ?zzX ?zzN ?zzT ?zzK (cc_add ?zzz1 ?zzz2 ?zzi1 ?zzi2 ?zzb1 ?zzb2) ?zzS ?zzD ?zzU ?_; (k_extra "m_use"); (case zzi1 => k_extra "m_i"); (case zzi2 => k_extra "m_i"); (case zzz1 => assumption); (case zzz2 => assumption); (case zzb1 => k_extra "m_bnd"); (case zzb2 => k_extra "m_bnd")); intro _ _ _ _ _ _ _ _; (try k_sweep))
  k_with "call ref" => (k_here; (with_reducible show wpAny _ _ (call (Value.ref 67) _ _) _ _ _); k_dflt (refine' use_L ?zzB ?zzF ?zzX ?zzN ?zzT ?zzK (cc_sub ?zzz1 ?zzz2 ?zzi1 ?zzi2 ?zzb1 ?zzb2) ?zzS ?zzD ?zzU ?_; (k_extra "m_use"); (case zzi1 => k_extra "m_i"); (case zzi2 => k_extra "m_i"); (case zzz1 => assumption); (case zzz2 => assumption); (case zzb1 => k_extra "m_bnd"); (case zzb2 => k_extra "m_bnd")); intro _ _ _ _ _ _ _ _; (try k_sweep))
  k_with "call ref" => (k_here; (with_reducible show wpAny _ _ (call (Value.ref 53) _ _) _ _ _); k_dflt (refine' use_I ?zzB ?zzF ?zzX ?zzN ?zzT ?zzK (cc_compare ?zzz1 ?zzi1 ?zzi2 ?zzb1 ?zzb2) ?zzS ?zzD ?zzU ?_; (k_extra "m_use"); (case zzi1 => k_extra "m_i"); (case zzi2 => k_extra "m_i"); (case zzz1 => assumption); (case zzb1 => k_extra "m_bnd"); (case zzb2 => k_extra "m_bnd")); intro _ _ _ _ _; (try k_sweep))
  k_with "call ref" => (k_here; (with_reducible show wpAny _ _ (call (Value.ref 74) _ _) _ _ _); k_dflt (refine' use_L ?zzB ?zzF ?zzX ?zzN ?zzT ?zzK (cc_add_limb ?zzz1 ?zzz2 ?zzi1 ?zzb1) ?zzS ?zzD ?zzU ?_; (k_extra "m_use"); (case zzi1 => k_extra "m_i"); (case zzz1 => assumption); (case zzz2 => assumption); (case zzb1 => k_extra "m_bnd")); intro _ _ _ _ _ _ _ _; (try k_sweep))
  k_with "call ref" => (k_here; (with_reducible show wpAny _ _ (call (Value.ref 81) _ _) _ _ _); k_dflt (refine' use_L ?zzB ?zzF ?zzX ?zzN ?zzT ?zzK (cc_shift_left ?zzz1 ?zzz2 ?zzi1 ?zzb1 ?zzb2 ?zzb3) ?zzS ?zzD ?zzU ?_; (k_extra "m_use"); (case zzi1 => k_extra "m_i"); (case zzz1 => assumption); (case zzz2 => assumption); (case zzb1 => k_extra "m_bnd"); (case zzb2 => k_extra "m_bnd"); (case zzb3 => k_extra "m_bnd")); intro _ _ _ _ _ _ _ _; (try k_sweep))
  k_with "call ref" => (k_here; (with_reducible show wpAny _ _ (call (Value.ref 88) _ _) _ _ _); k_dflt (refine' use_L ?zzB ?zzF ?zzX ?zzN ?zzT ?zzK (cc_shift_right ?zzz1 ?zzz2 ?zzi1 ?zzb1 ?zzb2 ?zzb3) ?zzS ?zzD ?zzU ?_; (k_extra "m_use"); (case zzi1 => k_extra "m_i"); (case zzz1 => assumption); (case zzz2 => assumption); (case zzb1 => k_extra "m_bnd"); (case zzb2 => k_extra "m_bnd"); (case zzb3 => k_extra "m_bnd")); intro _ _ _ _ _ _ _ _; (try k_sweep))
  k_with "call ref" => (k_here; (with_reducible show wpAny _ _ (call (Value.ref 95) _ _) _ _ _); k_dflt (refine' use_I ?zzB ?zzF ?zzX ?zzN ?zzT ?zzK (cc_bit ?zzz1 ?zzz2 ?zzi1 ?zzb1 ?zzb2 ?zzb3) ?zzS ?zzD ?zzU ?_; (k_extra "m_use"); (case zzi1 => k_extra "m_i"); (case zzz1 => assumption); (case zzz2 => assumption); (case zzb1 => k_extra "m_bnd"); (case zzb2 => k_extra "m_bnd"); (case zzb3 => k_extra "m_bnd")); intro _ _ _ _ _; (try k_sweep))
  k_with "call ref" => (k_here; (with_reducible show wpAny _ _ (call (Value.ref 102) _ _) _ _ _); k_dflt (refine' use_L ?zzB ?zzF ?zzX ?zzN ?zzT ?zzK (cc_low ?zzz1 ?zzz2 ?zzi1 ?zzb1 ?zzb2 ?zzb3) ?zzS ?zzD ?zzU ?_; (k_extra "m_use"); (case zzi1 => k_extra "m_i"); (case zzz1 => assumption); (case zzz2 => assumption); (case zzb1 => k_extra "m_bnd"); (case zzb2 => k_extra "m_bnd"); (case zzb3 => k_extra "m_bnd")); intro _ _ _ _ _ _ _ _; (try k_sweep))
  k_with "call ref" => (k_here; (with_reducible show wpAny _ _ (call (Value.ref 209) _ _) _ _ _); k_dflt (refine' use_S ?zzB ?zzF ?zzX ?zzN ?zzT ?zzK (cc_signed ?zzz1 ?zzi1 ?zzb1) ?zzS ?zzD ?zzU ?_; (k_extra "m_use"); (case zzi1 => k_extra "m_i"); (case zzz1 => assumption); (case zzb1 => k_extra "m_bnd")); intro _ _ _ _ _ _ _ _ _ _; (try k_sweep))
  k_with "call ref" => (k_here; (with_reducible show wpAny _ _ (call (Value.ref 188) _ _) _ _ _); k_dflt (refine' use_I ?zzB ?zzF ?zzX ?zzN ?zzT ?zzK (cc_nat_ones ?zzz1 ?zzz2 ?zzi1 ?zzb1) ?zzS ?zzD ?zzU ?_; (k_extra "m_use"); (case zzi1 => k_extra "m_i"); (case zzz1 => assumption); (case zzz2 => assumption); (case zzb1 => k_extra "m_bnd")); intro _ _ _ _ _; (try k_sweep))
  k_with "m_iP" => first | k_asm | exact one_intsP (by assumption)
  k_with "call ref" => (k_here; (with_reducible show wpAny _ _ (call (Value.ref 124) _ _) _ _ _); k_dflt (refine' use_Sl ?zzB ?zzF ?zzX ?zzN ?zzT ?zzK (cb_s_and ?zzz1 ?zzz2 ?zzh1 ?zzh2 ?zzi1 ?zzi2 ?zzb1 ?zzb2) ?zzS ?zzD ?zzU ?_; (k_extra "m_use"); (case zzi1 => k_extra "m_iP"); (case zzi2 => k_extra "m_iP"); (case zzz1 => assumption); (case zzz2 => assumption); (case zzh1 => first | rfl | assumption); (case zzh2 => first | rfl | assumption); (case zzb1 => k_extra "m_bnd"); (case zzb2 => k_extra "m_bnd")); intro _ _ _ _ _ _ _ _ _ _ _; (try k_sweep))
  k_with "call ref" => (k_here; (with_reducible show wpAny _ _ (call (Value.ref 129) _ _) _ _ _); k_dflt (refine' use_Sl ?zzB ?zzF ?zzX ?zzN ?zzT ?zzK (cb_s_or ?zzz1 ?zzz2 ?zzh1 ?zzh2 ?zzi1 ?zzi2 ?zzb1 ?zzb2) ?zzS ?zzD ?zzU ?_; (k_extra "m_use"); (case zzi1 => k_extra "m_iP"); (case zzi2 => k_extra "m_iP"); (case zzz1 => assumption); (case zzz2 => assumption); (case zzh1 => first | rfl | assumption); (case zzh2 => first | rfl | assumption); (case zzb1 => k_extra "m_bnd"); (case zzb2 => k_extra "m_bnd")); intro _ _ _ _ _ _ _ _ _ _ _; (try k_sweep))
  k_with "call ref" => (k_here; (with_reducible show wpAny _ _ (call (Value.ref 134) _ _) _ _ _); k_dflt (refine' use_Sl ?zzB ?zzF ?zzX ?zzN ?zzT ?zzK (cb_s_xor ?zzz1 ?zzz2 ?zzh1 ?zzh2 ?zzi1 ?zzi2 ?zzb1 ?zzb2) ?zzS ?zzD ?zzU ?_; (k_extra "m_use"); (case zzi1 => k_extra "m_iP"); (case zzi2 => k_extra "m_iP"); (case zzz1 => assumption); (case zzz2 => assumption); (case zzh1 => first | rfl | assumption); (case zzh2 => first | rfl | assumption); (case zzb1 => k_extra "m_bnd"); (case zzb2 => k_extra "m_bnd")); intro _ _ _ _ _ _ _ _ _ _ _; (try k_sweep))
  k_with "call ref" => (k_here; (with_reducible show wpAny _ _ (call (Value.ref 223) _ _) _ _ _); k_dflt (refine' use_Sl ?zzB ?zzF ?zzX ?zzN ?zzT ?zzK (cb_s_add ?zzz1 ?zzz2 ?zzh1 ?zzh2 ?zzi1 ?zzi2 ?zzb1 ?zzb2) ?zzS ?zzD ?zzU ?_; (k_extra "m_use"); (case zzi1 => k_extra "m_iP"); (case zzi2 => k_extra "m_iP"); (case zzz1 => assumption); (case zzz2 => assumption); (case zzh1 => first | rfl | assumption); (case zzh2 => first | rfl | assumption); (case zzb1 => k_extra "m_bnd"); (case zzb2 => k_extra "m_bnd")); intro _ _ _ _ _ _ _ _ _ _ _; (try k_sweep))
  k_with "call ref" => (k_here; (with_reducible show wpAny _ _ (call (Value.ref 216) _ _) _ _ _); k_dflt (refine' use_Sl ?zzB ?zzF ?zzX ?zzN ?zzT ?zzK (cb_s_neg ?zzz1 ?zzh1 ?zzi1 ?zzb1) ?zzS ?zzD ?zzU ?_; (k_extra "m_use"); (case zzi1 => k_extra "m_iP"); (case zzz1 => assumption); (case zzh1 => first | rfl | assumption); (case zzb1 => k_extra "m_bnd"); skip); intro _ _ _ _ _ _ _ _ _ _ _; (try k_sweep))
  k_with "call ref" => (k_here; (with_reducible show wpAny _ _ (call (Value.ref 141) _ _) _ _ _); k_dflt (refine' use_Sl ?zzB ?zzF ?zzX ?zzN ?zzT ?zzK (cb_s_not ?zzz1 ?zzz2 ?zzh1 ?zzi1 ?zzb1) ?zzS ?zzD ?zzU ?_; (k_extra "m_use"); (case zzi1 => k_extra "m_iP"); (case zzz1 => assumption); (case zzz2 => assumption); (case zzh1 => first | rfl | assumption); (case zzb1 => k_extra "m_bnd"); skip); intro _ _ _ _ _ _ _ _ _ _ _; (try k_sweep))
  k_with "call ref" => (k_here; (with_reducible show wpAny _ _ (call (Value.ref 148) _ _) _ _ _); k_dflt (refine' use_I ?zzB ?zzF ?zzX ?zzN ?zzT ?zzK (cb_s_bit ?zzz1 ?zzz2 ?zzh1 ?zzi1 ?zzb1 ?zzb2 ?zzb3) ?zzS ?zzD ?zzU ?_; (k_extra "m_use"); (case zzi1 => k_extra "m_iP"); (case zzz1 => assumption); (case zzz2 => assumption); (case zzh1 => first | rfl | assumption); (case zzb1 => k_extra "m_bnd"); (case zzb2 => k_extra "m_bnd"); (case zzb3 => k_extra "m_bnd"); skip); intro _ _ _ _ _; (try k_sweep))
  k_with "call ref" => (k_here; (with_reducible show wpAny _ _ (call (Value.ref 237) _ _) _ _ _); k_dflt (refine' use_Sl ?zzB ?zzF ?zzX ?zzN ?zzT ?zzK (cb_s_shift ?zzz1 ?zzz2 ?zzh1 ?zzi1 ?zzb1 ?zzb2 ?zzb3 ?zzb4) ?zzS ?zzD ?zzU ?_; (k_extra "m_use"); (case zzi1 => k_extra "m_iP"); (case zzz1 => assumption); (case zzz2 => assumption); (case zzh1 => first | rfl | assumption); (case zzb1 => k_extra "m_bnd"); (case zzb2 => k_extra "m_bnd"); (case zzb3 => k_extra "m_bnd"); (case zzb4 => k_extra "m_bnd"); skip); intro _ _ _ _ _ _ _ _ _ _ _; (try k_sweep))
  k_with "call ref" => (k_here; (with_reducible show wpAny _ _ (call (Value.ref 155) _ _) _ _ _); k_dflt (refine' use_L ?zzB ?zzF ?zzX ?zzN ?zzT ?zzK (cc_one_at ?zzz1 ?zzz2 ?zzb1 ?zzb2) ?zzS ?zzD ?zzU ?_; (k_extra "m_use"); (case zzz1 => assumption); (case zzz2 => assumption); (case zzb1 => k_extra "m_bnd"); (case zzb2 => k_extra "m_bnd")); intro _ _ _ _ _ _ _ _; (try k_sweep))
  k_with "call ref" => (k_here; (with_reducible show wpAny _ _ (call (Value.ref 230) _ _) _ _ _); k_dflt (refine' use_Sl ?zzB ?zzF ?zzX ?zzN ?zzT ?zzK (cb_s_sub ?zzz1 ?zzz2 ?zzh1 ?zzh2 ?zzi1 ?zzi2 ?zzb1 ?zzb2) ?zzS ?zzD ?zzU ?_; (k_extra "m_use"); (case zzi1 => k_extra "m_iP"); (case zzi2 => k_extra "m_iP"); (case zzz1 => assumption); (case zzz2 => assumption); (case zzh1 => first | rfl | assumption); (case zzh2 => first | rfl | assumption); (case zzb1 => k_extra "m_bnd"); (case zzb2 => k_extra "m_bnd"); skip); intro _ _ _ _ _ _ _ _ _ _ _; (try k_sweep))
  k_with "call ref" => (k_here; (with_reducible show wpAny _ _ (call (Value.ref 202) _ _) _ _ _); k_dflt (refine' use_O ?zzB ?zzF ?zzX ?zzN ?zzT ?zzK (cb_distance ?zzz1 ?zzz2 ?zzh1 ?zzh2 ?zzi1 ?zzi2 ?zzb1 ?zzb2 ?zzb3) ?zzS ?zzD ?zzU ?_ ?_; (k_extra "m_use"); (case zzi1 => k_extra "m_iP"); (case zzi2 => k_extra "m_iP"); (case zzz1 => assumption); (case zzz2 => assumption); (case zzh1 => first | rfl | assumption); (case zzh2 => first | rfl | assumption); (case zzb1 => k_extra "m_bnd"); (case zzb2 => k_extra "m_bnd"); (case zzb3 => k_extra "m_bnd"); skip); (focus (intro e' h' tk' F' N'; (try k_sweep))); (intro _ _ _ _ _ _ _; (try k_sweep)))
  k_with "call ref" => (k_here; (with_reducible show wpAny _ _ (call (Value.ref 162) _ _) _ _ _); k_dflt (refine' use_Sl ?zzB ?zzF ?zzX ?zzN ?zzT ?zzK (cb_set_bit ?zzz1 ?zzz2 ?zzh1 ?zzi1 ?zzb1 ?zzb2 ?zzb3) ?zzS ?zzD ?zzU ?_; (k_extra "m_use"); (case zzi1 => k_extra "m_iP"); (case zzz1 => assumption); (case zzz2 => assumption); (case zzh1 => first | rfl | assumption); (case zzb1 => k_extra "m_bnd"); (case zzb2 => k_extra "m_bnd"); (case zzb3 => k_extra "m_bnd"); skip); intro _ _ _ _ _ _ _ _ _ _ _; (try k_sweep))
  k_with "call ref" => (k_here; (with_reducible show wpAny _ _ (call (Value.ref 169) _ _) _ _ _); k_dflt (refine' use_Sl ?zzB ?zzF ?zzX ?zzN ?zzT ?zzK (cb_clear_bit ?zzz1 ?zzz2 ?zzh1 ?zzi1 ?zzb1 ?zzb2 ?zzb3) ?zzS ?zzD ?zzU ?_; (k_extra "m_use"); (case zzi1 => k_extra "m_iP"); (case zzz1 => assumption); (case zzz2 => assumption); (case zzh1 => first | rfl | assumption); (case zzb1 => k_extra "m_bnd"); (case zzb2 => k_extra "m_bnd"); (case zzb3 => k_extra "m_bnd"); skip); intro _ _ _ _ _ _ _ _ _ _ _; (try k_sweep))
  k_with "call ref" => (k_here; (with_reducible show wpAny _ _ (call (Value.ref 195) _ _) _ _ _); k_dflt (refine' use_O ?zzB ?zzF ?zzX ?zzN ?zzT ?zzK (cb_count_ones ?zzz1 ?zzz2 ?zzh1 ?zzi1 ?zzb1) ?zzS ?zzD ?zzU ?_ ?_; (k_extra "m_use"); (case zzi1 => k_extra "m_iP"); (case zzz1 => assumption); (case zzz2 => assumption); (case zzh1 => first | rfl | assumption); (case zzb1 => k_extra "m_bnd"); skip); (focus (intro e' h' tk' F' N'; (try k_sweep))); (intro _ _ _ _ _ _ _; (try k_sweep)))
  k_with "call ref" => (k_here; (with_reducible show wpAny _ _ (call (Value.ref 176) _ _) _ _ _); k_dflt (refine' use_S ?zzB ?zzF ?zzX ?zzN ?zzT ?zzK (cb_flip_bit ?zzz1 ?zzz2 ?zzh1 ?zzi1 ?zzb1 ?zzb2 ?zzb3) ?zzS ?zzD ?zzU ?_; (k_extra "m_use"); (case zzi1 => k_extra "m_iP"); (case zzz1 => assumption); (case zzz2 => assumption); (case zzh1 => first | rfl | assumption); (case zzb1 => k_extra "m_bnd"); (case zzb2 => k_extra "m_bnd"); (case zzb3 => k_extra "m_bnd"); skip); intro _ _ _ _ _ _ _ _ _ _; (try k_sweep))
  k_with "m_un" => (show _ + 64 < 9900; dsimp only [ktrTop]; omega)
  k_with "m_e" => first | assumption | rfl | exact Eq.symm (by assumption)
  k_with "m_eqs" => ((case zzN => k_asm); (case zzm1 => first | (with_reducible k_extra "m_mem") | k_mem); (case zzm2 => first | (with_reducible k_extra "m_mem") | k_mem); (case zzm3 => first | (with_reducible k_extra "m_mem") | k_mem); (case zzm4 => first | (with_reducible k_extra "m_mem") | k_mem); (case zzi1 => k_extra "m_iP"); (case zzi2 => k_extra "m_iP"); (case zzk => omega); (case zzh1 => first | rfl | assumption); (case zzh2 => first | rfl | assumption); (case zzu => k_extra "m_un"))
  k_with "compareOp Eq ref ref" => (k_here; k_dflt (refine' eq_Sf ?zze ?zzk ?zzN ?zzm1 ?zzm2 ?zzm3 ?zzm4 ?zzi1 ?zzi2 ?zzh1 ?zzh2 ?zzu ?_; (k_extra "m_eqs"); (case zze => assumption)))
  k_with "compareOp Eq ref ref" => (k_here; k_dflt (refine' eq_St ?zze ?zzk ?zzN ?zzm1 ?zzm2 ?zzm3 ?zzm4 ?zzi1 ?zzi2 ?zzh1 ?zzh2 ?zzu ?_; (k_extra "m_eqs"); (case zze => k_extra "m_e")))
  k_with "compareOp NotEq ref ref" => (k_here; k_dflt (refine' ne_St ?zze ?zzk ?zzN ?zzm1 ?zzm2 ?zzm3 ?zzm4 ?zzi1 ?zzi2 ?zzh1 ?zzh2 ?zzu ?_; (k_extra "m_eqs"); (case zze => k_extra "m_e")))
  exact True.intro
theorem eq_int_t {prog : Program} {wd : World} {A : Around} {E : Value → Shared → Prop} {s : Shared} {a b : Int} {t u : Tok} {Q : Value → Shared → Prop} (e : a = b) (h : Q (.bool true) s) : wpAny (model prog wd) A (compareOp .Eq (.int a t) (.int b u)) Q E s := eq_int (by rw [beq_iff_eq.mpr e]; exact h)
theorem eq_int_f {prog : Program} {wd : World} {A : Around} {E : Value → Shared → Prop} {s : Shared} {a b : Int} {t u : Tok} {Q : Value → Shared → Prop} (e : ¬ a = b) (h : Q (.bool false) s) : wpAny (model prog wd) A (compareOp .Eq (.int a t) (.int b u)) Q E s := eq_int (by rw [beq_eq_false_iff_ne.mpr e]; exact h)
theorem rows21 : True := by
  k_with "compareOp Eq int int" => (k_dflt (first | (refine' eq_int_t ?zze ?_; (case zze => assumption)) | (refine' eq_int_f ?zze ?_; (case zze => assumption))))
  k_with "m_go" => repeat' (first | (k_unfold; (try dsimp only [List.nil_append, List.cons_append])) | (k_end; wrow_close) | walk1 | (dsimp only; walk1) | (leave1; (try dsimp only)) | fail "no step")
  k_with "eval Call" => k_fold
  k_with "isTrue Compare" => k_fold
  k_with "eval BoolOp" => k_fold
  k_with "isTrue BoolOp" => k_fold
  k_with "eval Tuple" => k_fold
  exact True.intro
theorem cb_place_t {x lx : Addr} {bx : Bool} {cx clx : Nat} {xs : List Value} {X n : Int} {tn tw : Tok} (hz : 2 ≤ z) (hz' : z ≤ 9) (hb : bx = sg X)
    (ix : IntsAre xs (mag z X)) (hX : X.natAbs < 2 ^ 100) (hn : 0 ≤ n) (hn' : n < 50) (hbit : X / 2 ^ n.toNat % 2 = 1) :
    Ct w mean mg mb 12 277 [.ref x, .int n tn, .int (z : Int) tw] [(x, tupS bx lx cx), (lx, listOf xs.toArray clx)] (BRes true) := by
  obtain ⟨e1, e2, e3, e4, _⟩ := place_facts hX hn hn'
  obtain ⟨e5, e6, e7⟩ := e4 hbit
  obtain ⟨b1, b2, b3, b4, b5, b6, b7, b8, b9, b10, b11, b12⟩ := place_bounds hX hn hn'
  k_dflt (refine' ct_of (binds := [(PySem.Str.ofString "x", .ref x), (PySem.Str.ofString "n", .int n tn), (PySem.Str.ofString "w", .int (z : Int) tw)]) ?k6 ?k7 ?k9 ?kB ?c5 ?c2 ?c3 ?c4 ?_ ?c6)
  walk_at "ct"
  intro dp un gd outer A₀ base g L' s hd1 hu F N B XK T hl
  (try simp only [List.reverse_cons, List.reverse_nil, List.nil_append, List.cons_append] at F)
  k_fold
  k_extra "m_go"
theorem cb_place_f {x lx : Addr} {bx : Bool} {cx clx : Nat} {xs : List Value} {X n : Int} {tn tw : Tok} (hz : 2 ≤ z) (hz' : z ≤ 9) (hb : bx = sg X)
    (ix : IntsAre xs (mag z X)) (hX : X.natAbs < 2 ^ 100) (hn : 0 ≤ n) (hn' : n < 50) (hbit : ¬ X / 2 ^ n.toNat % 2 = 1) :
    Ct w mean mg mb 12 277 [.ref x, .int n tn, .int (z : Int) tw] [(x, tupS bx lx cx), (lx, listOf xs.toArray clx)] (BRes true) := by
  obtain ⟨e1, e2, e3, _, e4⟩ := place_facts hX hn hn'
  obtain ⟨e5, e6, e7⟩ := e4 hbit
  obtain ⟨b1, b2, b3, b4, b5, b6, b7, b8, b9, b10, b11, b12⟩ := place_bounds hX hn hn'
  k_dflt (refine' ct_of (binds := [(PySem.Str.ofString "x", .ref x), (PySem.Str.ofString "n", .int n tn), (PySem.Str.ofString "w", .int (z : Int) tw)]) ?k6 ?k7 ?k9 ?kB ?c5 ?c2 ?c3 ?c4 ?_ ?c6)
  walk_at "ct"
  intro dp un gd outer A₀ base g L' s hd1 hu F N B XK T hl
  (try simp only [List.reverse_cons, List.reverse_nil, List.nil_append, List.cons_append] at F)
  k_fold
  k_extra "m_go"
theorem cb_place_right {x lx : Addr} {bx : Bool} {cx clx : Nat} {xs : List Value} {X n : Int} {tn tw : Tok} (hz : 2 ≤ z) (hz' : z ≤ 9) (hb : bx = sg X)
    (ix : IntsAre xs (mag z X)) (hX : X.natAbs < 2 ^ 100) (hn : 0 ≤ n) (hn' : n < 50) :
    Ct w mean mg mb 12 277 [.ref x, .int n tn, .int (z : Int) tw] [(x, tupS bx lx cx), (lx, listOf xs.toArray clx)] (BRes true) := by
  by_cases h : X / 2 ^ n.toNat % 2 = 1
  · exact cb_place_t hz hz' hb ix hX hn hn' h
  · exact cb_place_f hz hz' hb ix hX hn hn' h

-- part Fa
theorem rows22 : True := by
  k_with_none
  k_with "ct" => ((case k6 => k_is); (case k7 => k_is); (case k9 => (intro s; exact BindsTo.of_eq rfl)); (case kB => exact locs rfl); (case c5 => decide); (case c2 => exact rfl); (case c3 => exact rfl); (case c4 => exact rfl); (case c6 => decide))
  k_with "ctc" => ((case k6 => k_is); (case k7 => k_is); (case k9 => (intro s; exact BindsTo.of_eq rfl)); (case kB => exact rfl); (case kD => decide +kernel); (case c2 => exact rfl); (case c3 => exact rfl); (case c4 => exact rfl); (case c6 => decide))
  k_with "m_mem" => first | exact List.mem_cons_self | (refine List.mem_cons_of_mem _ ?_; k_extra "m_mem")
  k_with "m_sub" => first | exact True.intro | (refine' And.intro ?zzm1 ?zzm2; (case zzm1 => first | (with_reducible k_extra "m_mem") | k_mem); (case zzm2 => k_extra "m_sub"))
  k_with "PEnd" => (refine' pend ?zzF ?zzN ?zzS ?_ ?zzE; (case zzF => k_asm); (case zzN => k_asm); (case zzS => k_extra "m_sub"); (case zzE => exact rfl); (try dsimp only))
  k_with "SRes" => (refine' sres_of ?zzm1 ?zzm2 ?zzm3 ?_ ?_; (case zzm1 => k_mem); (case zzm2 => k_mem); (case zzm3 => k_asm))
  k_with "LRes" => (refine' lres_of ?zzm2 ?zzm3 ?_; (case zzm2 => k_mem); (case zzm3 => first | k_asm | exact IntsAre.nil | l_ints))
  k_with "LRes" => (refine' lres_push ?zzm2 ?zzm3 ?_; (case zzm2 => k_mem); (case zzm3 => k_asm))
  k_with "IRes" => (refine' ires_of ?_)
  k_with "ORes" => first | refine' ores_none ?_ | refine' ores_some ?_
  k_with "BRes" => (refine' bres_of ?_)
  k_with "binaryOp FloorDiv int int" => (k_here; k_dflt (refine' fdiv_gen ?zza ?zzb ?zzc ?_; (case zza => omega); (case zzb => omega); (case zzc => omega)); intro _ _ _ _)
  k_with "binaryOp Mod int int" => (k_here; k_dflt (refine' fmod_gen ?zza ?zzb ?_; (case zza => omega); (case zzb => omega)); intro _ _ _ _)
  k_with "binaryOp FloorDiv int int" => (k_here; k_dflt (refine' fdiv_known ?zze ?zzb ?zzc ?_; (case zze => assumption); (case zzb => omega); (case zzc => omega)))
  k_with "binaryOp Mod int int" => (k_here; k_dflt (refine' fmod_known ?zze ?zzb ?_; (case zze => assumption); (case zzb => omega)))
  k_with "m_abs" => first | omega | exact LimbB.abs (by assumption) (by assumption) | exact LimbB.absAt (by assumption) _
  k_with "binaryOp LShift int int" => (k_here; k_dflt (refine' lshift_int_small ?zza ?zzb ?zzc ?_; (case zza => omega); (case zzb => omega); (case zzc => k_extra "m_abs")))
  k_with "binaryOp RShift int int" => (k_here; k_dflt (refine' rshift_int ?zza ?_; (case zza => omega)))
  k_with "m_use" => ((case zzB => k_asm); (case zzF => k_asm); (case zzX => k_asm); (case zzN => k_asm); (case zzT => k_asm); (case zzK => first | exact rfl | assumption); (case zzS => k_extra "m_sub"); (case zzD => first | exact dlt (by assumption) (by decide) | omega); (case zzU => first | exact ult (by assumption) (by decide) | omega))
  k_with "subscriptTail Name Slice ref ref" => (k_here; k_dflt (refine' kmk_slice_ints ?zzF ?zzN ?zzl ?zzp ?zzq ?zzi ?zzm ?zzc ?_ ?zzs ?zzt ?zzz; (case zzF => k_asm); (case zzN => k_asm); (case zzl => exact News.isList (by k_asm) (by k_mem)); (case zzp => kmk_part); (case zzq => kmk_part); (case zzi => k_asm); (case zzm => first | exact kmk_all (by assumption) | exact kmk_upto (by assumption) (by omega)); (case zzc => kmk_len); (case zzs => with_unfolding_all rfl); (case zzt => kmk_pure); (case zzz => exact kmk_sz (by assumption) (by rw [sizeLine_eq]; omega))); intro _ _ _ _ _ l1 _ _ _; (try k_lt l1); (try k_sweep))
  k_with "InvEndN" => k_dflt kst_close
  k_with "m_pick" => first | assumption | exact pk0 (by assumption) | exact pk1 (by assumption) | exact pk2 (by assumption) | exact pk3 (by assumption) | exact pl1 (by assumption) | exact pl2 (by assumption) | exact pl3 (by assumption) | exact pl4 (by assumption) | exact pl5 (by assumption) | exact pk4 (by assumption) | exact pk5 (by assumption) | exact pk6 (by assumption)
  k_with "m_ne" => (refine neN ?_; (try dsimp only); with_reducible first | exact Nat.ne_of_lt (by k_extra "m_pick") | exact Nat.ne_of_gt (by k_extra "m_pick") | k_extra "m_pick" | exact Ne.symm (by k_extra "m_pick") | omega)
  k_with "m_om" => first | with_reducible assumption | exact Nat.lt_of_lt_of_le (by with_reducible assumption) (by decide) | exact Nat.le_trans (by with_reducible assumption) (by decide) | exact Nat.lt_of_le_of_lt (by with_reducible assumption) (by decide) | exact Int.lt_of_lt_of_le (by with_reducible assumption) (by decide) | exact Int.le_trans (by with_reducible assumption) (by decide) | exact Int.lt_of_le_of_lt (by with_reducible assumption) (by decide) | exact int_le_of (by with_reducible assumption) (by decide) | exact int_lt_of (by with_reducible assumption) (by decide) | exact nat_le_of (by with_reducible assumption) (by decide) | exact lp_lt (by with_reducible assumption) (by with_reducible assumption) | exact lp_sz' (by with_reducible assumption) (by with_reducible assumption) (by with_reducible assumption) (by with_reducible assumption)
  k_with "m_bnd" => first | assumption | omega | (have hSg := sg_t (by assumption); omega) | (have hSg := sg_f (by assumption); omega)
  k_with "m_i" => first | k_asm | exact one_ints (by assumption) | exact nil_ints | exact two_ints (by assumption)
  k_with "call ref" => (k_here; (with_reducible show wpAny _ _ (call (Value.ref 60) _ _) _ _ _); k_dflt (refine' use_L ?zzB ?zzF ?zzX ?zzN ?zzT ?zzK (cc_add ?zzz1 ?zzz2 ?zzi1 ?zzi2 ?zzb1 ?zzb2) ?zzS ?zzD ?zzU ?_; (k_extra "m_use"); (case zzi1 => k_extra "m_i"); (case zzi2 => k_extra "m_i"); (case zzz1 => assumption); (case zzz2 => assumption); (case zzb1 => k_extra "m_bnd"); (case zzb2 => k_extra "m_bnd")); intro _ _ _ _ _ _ _ _; (try k_sweep))
  k_with "call ref" => (k_here; (with_reducible show wpAny _ _ (call (Value.ref 67) _ _) _ _ _); k_dflt (refine' use_L ?zzB ?zzF ?zzX ?zzN ?zzT ?zzK (cc_sub ?zzz1 ?zzz2 ?zzi1 ?zzi2 ?zzb1 ?zzb2) ?zzS ?zzD ?zzU ?_; (k_extra "m_use"); (case zzi1 => k_extra "m_i"); (case zzi2 => k_extra "m_i"); (case zzz1 => assumption); (case zzz2 => assumption); (case zzb1 => k_extra "m_bnd"); (case zzb2 => k_extra "m_bnd")); intro _ _ _ _ _ _ _ _; (try k_sweep))
  k_with "call ref" => (k_here; (with_reducible show wpAny _ _ (call (Value.ref 53) _ _) _ _ _); k_dflt (refine' use_I ?zzB ?zzF ?zzX ?zzN ?zzT ?zzK (cc_compare ?zzz1 ?zzi1 ?zzi2 ?zzb1 ?zzb2) ?zzS ?zzD ?zzU ?_; (k_extra "m_use"); (case zzi1 => k_extra "m_i"); (case zzi2 => k_extra "m_i"); (case zzz1 => assumption); (case zzb1 => k_extra "m_bnd"); (case zzb2 => k_extra "m_bnd")); intro _ _ _ _ _; (try k_sweep))
  k_with "call ref" => (k_here; (with_reducible show wpAny _ _ (call (Value.ref 74) _ _) _ _ _); k_dflt (refine' use_L ?zzB ?zzF ?zzX ?zzN ?zzT ?zzK (cc_add_limb ?zzz1 ?zzz2 ?zzi1 ?zzb1) ?zzS ?zzD ?zzU ?_; (k_extra "m_use"); (case zzi1 => k_extra "m_i"); (case zzz1 => assumption); (case zzz2 => assumption); (case zzb1 => k_extra "m_bnd")); intro _ _ _ _ _ _ _ _; (try k_sweep))
  k_with "call ref" => (k_here; (with_reducible show wpAny _ _ (call (Value.ref 81) _ _) _ _ _); k_dflt (refine' use_L ?zzB ?zzF ?zzX ?zzN ?zzT ?zzK (cc_shift_left ?zzz1 ?zzz2 ?zzi1 ?zzb1 ?zzb2 ?zzb3) ?zzS ?zzD ?zzU ?_; (k_extra "m_use"); (case zzi1 => k_extra "m_i"); (case zzz1 => assumption); (case zzz2 => assumption); (case zzb1 => k_extra "m_bnd"); (case zzb2 => k_extra "m_bnd"); (case zzb3 => k_extra "m_bnd")); intro _ _ _ _ _ _ _ _; (try k_sweep))
  k_with "call ref" => (k_here; (with_reducible show wpAny _ _ (call (Value.ref 88) _ _) _ _ _); k_dflt (refine' use_L ?zzB ?zzF ?zzX ?zzN ?zzT ?zzK (cc_shift_right ?zzz1 ?zzz2 ?zzi1 ?zzb1 ?zzb2 ?zzb3) ?zzS ?zzD ?zzU ?_; (k_extra "m_use"); (case zzi1 => k_extra "m_i"); (case zzz1 => assumption); (case zzz2 => assumption); (case zzb1 => k_extra "m_bnd"); (case zzb2 => k_extra "m_bnd"); (case zzb3 => k_extra "m_bnd")); intro _ _ _ _ _ _ _ _; (try k_sweep))
  k_with "call ref" => (k_here; (with_reducible show wpAny _ _ (call (Value.ref 95) _ _) _ _ _); k_dflt (refine' use_I ?zzB ?zzF ?zzX ?zzN ?zzT ?zzK (cc_bit ?zzz1 ?zzz2 ?zzi1 ?zzb1 ?zzb2 ?zzb3) ?zzS ?zzD ?zzU ?_; (k_extra "m_use"); (case zzi1 => k_extra "m_i"); (case zzz1 => assumption); (case zzz2 => assumption); (case zzb1 => k_extra "m_bnd"); (case zzb2 => k_extra "m_bnd"); (case zzb3 => k_extra "m_bnd")); intro _ _ _ _ _; (try k_sweep))
  k_with "call ref" => (k_here; (with_reducible show wpAny _ _ (call (Value.ref 102) _ _) _ _ _); k_dflt (refine' use_L ?zzB ?zzF ?zzX ?zzN ?zzT ?zzK (cc_low ?zzz1 ?zzz2 ?zzi1 ?zzb1 ?zzb2 ?zzb3) ?zzS ?zzD ?zzU ?_; (k_extra "m_use"); (case zzi1 => k_extra "m_i"); (case zzz1 => assumption); (case zzz2 => assumption); (case zzb1 => k_extra "m_bnd"); (case zzb2 => k_extra "m_bnd"); (case zzb3 => k_extra "m_bnd")); intro _ _ _ _ _ _ _ _; (try k_sweep))
  k_with "call ref" => (k_here; (with_reducible show wpAny _ _ (call (Value.ref 209) _ _) _ _ _); k_dflt (refine' use_S ?zzB ?zzF ?zzX ?zzN ?zzT ?zzK (cc_signed ?zzz1 ?zzi1 ?zzb1) ?zzS ?zzD ?zzU ?_; (k_extra "m_use"); (case zzi1 => k_extra "m_i"); (case zzz1 => assumption); (case zzb1 => k_extra "m_bnd")); intro _ _ _ _ _ _ _ _ _ _; (try k_sweep))
  k_with "call ref" => (k_here; (with_reducible show wpAny _ _ (call (Value.ref 188) _ _) _ _ _); k_dflt (refine' use_I ?zzB ?zzF ?zzX ?zzN ?zzT ?zzK (cc_nat_ones ?zzz1 ?zzz2 ?zzi1 ?zzb1) ?zzS ?zzD ?zzU ?_; (k_extra "m_use"); (case zzi1 => k_extra "m_i"); (case zzz1 => assumption); (case zzz2 => assumption); (case zzb1 => k_extra "m_bnd")); intro _ _ _ _ _; (try k_sweep))
  k_with "m_iP" => first | k_asm | exact one_intsP (by assumption)
  k_with "call ref" => (k_here; (with_reducible show wpAny _ _ (call (Value.ref 124) _ _) _ _ _); k_dflt (refine' use_Sl ?zzB ?zzF ?zzX ?zzN ?zzT ?zzK (cb_s_and ?zzz1 ?zzz2 ?zzh1 ?zzh2 ?zzi1 ?zzi2 ?zzb1 ?zzb2) ?zzS ?zzD ?zzU ?_; (k_extra "m_use"); (case zzi1 => k_extra "m_iP"); (case zzi2 => k_extra "m_iP"); (case zzz1 => assumption); (case zzz2 => assumption); (case zzh1 => first | rfl | assumption); (case zzh2 => first | rfl | assumption); (case zzb1 => k_extra "m_bnd"); (case zzb2 => k_extra "m_bnd")); intro _ _ _ _ _ _ _ _ _ _ _; (try k_sweep))
  k_with "call ref" => (k_here; (with_reducible show wpAny _ _ (call (Value.ref 129) _ _) _ _ _); k_dflt (refine' use_Sl ?zzB ?zzF ?zzX ?zzN ?zzT ?zzK (cb_s_or ?zzz1 ?zzz2 ?zzh1 ?zzh2 ?zzi1 ?zzi2 ?zzb1 ?zzb2) ?zzS ?zzD ?zzU ?_; (k_extra "m_use"); (case zzi1 => k_extra "m_iP"); (case zzi2 => k_extra "m_iP"); (case zzz1 => assumption); (case zzz2 => assumption); (case zzh1 => first | rfl | assumption); (case zzh2 => first | rfl | assumption); (case zzb1 => k_extra "m_bnd"); (case zzb2 => k_extra "m_bnd")); intro _ _ _ _ _ _ _ _ _ _ _; (try k_sweep))
  k_with "call ref" => (k_here; (with_reducible show wpAny _ _ (call (Value.ref 134) _ _) _ _ _); k_dflt (refine' use_Sl ?zzB ?zzF ?zzX ?zzN ?zzT ?zzK (cb_s_xor ?zzz1 ?zzz2 ?zzh1 ?zzh2 ?zzi1 ?zzi2 ?zzb1 ?zzb2) ?zzS ?zzD ?zzU ?_; (k_extra "m_use"); (case zzi1 => k_extra "m_iP"); (case zzi2 => k_extra "m_iP"); (case zzz1 => assumption); (case zzz2 => assumption); (case zzh1 => first | rfl | assumption); (case zzh2 => first | rfl | assumption); (case zzb1 => k_extra "m_bnd"); (case zzb2 => k_extra "m_bnd")); intro _ _ _ _ _ _ _ _ _ _ _; (try k_sweep))
  k_with "call ref" => (k_here; (with_reducible show wpAny _ _ (call (Value.ref 223) _ _) _ _ _); k_dflt (refine' use_Sl ?zzB ?zzF ?zzX ?zzN ?zzT ?zzK (cb_s_add ?zzz1 ?zzz2 ?zzh1 ?zzh2 ?zzi1 ?zzi2 ?zzb1 ?zzb2) ?zzS ?zzD ?zzU ?_; (k_extra "m_use"); (case zzi1 => k_extra "m_iP"); (case zzi2 => k_extra "m_iP"); (case zzz1 => assumption); (case zzz2 => assumption); (case zzh1 => first | rfl | assumption); (case zzh2 => first | rfl | assumption); (case zzb1 => k_extra "m_bnd"); (case zzb2 => k_extra "m_bnd")); intro _ _ _ _ _ _ _ _ _ _ _; (try k_sweep))
  k_with "call ref" => (k_here; (with_reducible show wpAny _ _ (call (Value.ref 216) _ _) _ _ _); k_dflt (refine' use_Sl ?zzB ?zzF ?zzX ?zzN ?zzT ?zzK (cb_s_neg ?zzz1 ?zzh1 ?zzi1 ?zzb1) ?zzS ?zzD ?zzU ?_; (k_extra "m_use"); (case zzi1 => k_extra "m_iP"); (case zzz1 => assumption); (case zzh1 => first | rfl | assumption); (case zzb1 => k_extra "m_bnd"); skip); intro _ _ _ _ _ _ _ _ _ _ _; (try k_sweep))
  k_with "call ref" => (k_here; (with_reducible show wpAny _ _ (call (Value.ref 141) _ _) _ _ _); k_dflt (refine' use_Sl ?zzB ?zzF ?zzX ?zzN ?zzT ?zzK (cb_s_not ?zzz1 ?zzz2 ?zzh1 ?zzi1 ?zzb1) ?zzS ?zzD ?zzU ?_; (k_extra "m_use"); (case zzi1 => k_extra "m_iP"); (case zzz1 => assumption); (case zzz2 => assumption); (case zzh1 => first | rfl | assumption); (case zzb1 => k_extra "m_bnd"); skip); intro _ _ _ _ _ _ _ _ _ _ _; (try k_sweep))
  k_with "call ref" => (k_here; (with_reducible show wpAny _ _ (call (Value.ref 148) _ _) _ _ _); k_dflt (refine' use_I ?zzB ?zzF ?zzX ?zzN ?zzT ?zzK (cb_s_bit ?zzz1 ?zzz2 ?zzh1 ?zzi1 ?zzb1 ?zzb2 ?zzb3) ?zzS ?zzD ?zzU ?_; (k_extra "m_use"); (case zzi1 => k_extra "m_iP"); (case zzz1 => assumption); (case zzz2 => assumption); (case zzh1 => first | rfl | assumption); (case zzb1 => k_extra "m_bnd"); (case zzb2 => k_extra "m_bnd"); (case zzb3 => k_extra "m_bnd"); skip); intro _ _ _ _ _; (try k_sweep))
  k_with "call ref" => (k_here; (with_reducible show wpAny _ _ (call (Value.ref 237) _ _) _ _ _); k_dflt (refine' use_Sl ?zzB ?zzF ?zzX ?zzN ?zzT ?zzK (cb_s_shift ?zzz1 ?zzz2 ?zzh1 ?zzi1 ?zzb1 ?zzb2 ?zzb3 ?zzb4) ?zzS ?zzD ?zzU ?_; (k_extra "m_use"); (case zzi1 => k_extra "m_iP"); (case zzz1 => assumption); (case zzz2 => assumption); (case zzh1 => first | rfl | assumption); (case zzb1 => k_extra "m_bnd"); (case zzb2 => k_extra "m_bnd"); (case zzb3 => k_extra "m_bnd"); (case zzb4 => k_extra "m_bnd"); skip); intro _ _ _ _ _ _ _ _ _ _ _; (try k_sweep))
  k_with "call ref" => (k_here; (with_reducible show wpAny _ _ (call (Value.ref 155) _ _) _ _ _); k_dflt (refine' use_L ?zzB ?zzF ?zzX ?zzN ?zzT ?zzK (cc_one_at ?zzz1 ?zzz2 ?zzb1 ?zzb2) ?zzS ?zzD ?zzU ?_; (k_extra "m_use"); (case zzz1 => assumption); (case zzz2 => assumption); (case zzb1 => k_extra "m_bnd"); (case zzb2 => k_extra "m_bnd")); intro _ _ _ _ _ _ _ _; (try k_sweep))
  k_with "call ref" => (k_here; (with_reducible show wpAny _ _ (call (Value.ref 230) _ _) _ _ _); k_dflt (refine' use_Sl ?zzB ?zzF ?zzX ?zzN ?zzT ?zzK (cb_s_sub ?zzz1 ?zzz2 ?zzh1 ?zzh2 ?zzi1 ?zzi2 ?zzb1 ?zzb2) ?zzS ?zzD ?zzU ?_; (k_extra "m_use"); (case zzi1 => k_extra "m_iP"); (case zzi2 => k_extra "m_iP"); (case zzz1 => assumption); (case zzz2 => assumption); (case zzh1 => first | rfl | assumption); (case zzh2 => first | rfl | assumption); (case zzb1 => k_extra "m_bnd"); (case zzb2 => k_extra "m_bnd"); skip); intro _ _ _ _ _ _ _ _ _ _ _; (try k_sweep))
  k_with "call ref" => (k_here; (with_reducible show wpAny _ _ (call (Value.ref 202) _ _) _ _ _); k_dflt (refine' use_O ?zzB ?zzF ?zzX ?zzN ?zzT ?zzK (cb_distance ?zzz1 ?zzz2 ?zzh1 ?zzh2 ?zzi1 ?zzi2 ?zzb1 ?zzb2 ?zzb3) ?zzS ?zzD ?zzU ?_ ?_; (k_extra "m_use"); (case zzi1 => k_extra "m_iP"); (case zzi2 => k_extra "m_iP"); (case zzz1 => assumption); (case zzz2 => assumption); (case zzh1 => first | rfl | assumption); (case zzh2 => first | rfl | assumption); (case zzb1 => k_extra "m_bnd"); (case zzb2 => k_extra "m_bnd"); (case zzb3 => k_extra "m_bnd"); skip); (focus (intro e' h' tk' F' N'; (try k_sweep))); (intro _ _ _ _ _ _ _; (try k_sweep)))
  k_with "call ref" => (k_here; (with_reducible show wpAny _ _ (call (Value.ref 162) _ _) _ _ _); k_dflt (refine' use_Sl ?zzB ?zzF ?zzX ?zzN ?zzT ?zzK (cb_set_bit ?zzz1 ?zzz2 ?zzh1 ?zzi1 ?zzb1 ?zzb2 ?zzb3) ?zzS ?zzD ?zzU ?_; (k_extra "m_use"); (case zzi1 => k_extra "m_iP"); (case zzz1 => assumption); (case zzz2 => assumption); (case zzh1 => first | rfl | assumption); (case zzb1 => k_extra "m_bnd"); (case zzb2 => k_extra "m_bnd"); (case zzb3 => k_extra "m_bnd"); skip); intro _ _ _ _ _ _ _ _ _ _ _; (try k_sweep))
  k_with "call ref" => (k_here; (with_reducible show wpAny _ _ (call (Value.ref 169) _ _) _ _ _); k_dflt (refine' use_Sl ?zzB ?zzF ?zzX ?zzN ?zzT ?zzK (cb_clear_bit ?zzz1 ?zzz2 ?zzh1 ?zzi1 ?zzb1 ?zzb2 ?zzb3) ?zzS ?zzD ?zzU ?_; (k_extra "m_use"); (case zzi1 => k_extra "m_iP"); (case zzz1 => assumption); (case zzz2 => assumption); (case zzh1 => first | rfl | assumption); (case zzb1 => k_extra "m_bnd"); (case zzb2 => k_extra "m_bnd"); (case zzb3 => k_extra "m_bnd"); skip); intro _ _ _ _ _ _ _ _ _ _ _; (try k_sweep))
  k_with "call ref" => (k_here; (with_reducible show wpAny _ _ (call (Value.ref 195) _ _) _ _ _); k_dflt (refine' use_O ?zzB ?zzF ?zzX ?zzN ?zzT ?zzK (cb_count_ones ?zzz1 ?zzz2 ?zzh1 ?zzi1 ?zzb1) ?zzS ?zzD ?zzU ?_ ?_; (k_extra "m_use"); (case zzi1 => k_extra "m_iP"); (case zzz1 => assumption); (case zzz2 => assumption); (case zzh1 => first | rfl | assumption); (case zzb1 => k_extra "m_bnd"); skip); (focus (intro e' h' tk' F' N'; (try k_sweep))); (intro _ _ _ _ _ _ _; (try k_sweep)))
  k_with "call ref" => (k_here; (with_reducible show wpAny _ _ (call (Value.ref 176) _ _) _ _ _); k_dflt (refine' use_S ?zzB ?zzF ?zzX ?zzN ?zzT ?zzK (cb_flip_bit ?zzz1 ?zzz2 ?zzh1 ?zzi1 ?zzb1 ?zzb2 ?zzb3) ?zzS ?zzD ?zzU ?_; (k_extra "m_use"); (case zzi1 => k_extra "m_iP"); (case zzz1 => assumption); (case zzz2 => assumption); (case zzh1 => first | rfl | assumption); (case zzb1 => k_extra "m_bnd"); (case zzb2 => k_extra "m_bnd"); (case zzb3 => k_extra "m_bnd"); skip); intro _ _ _ _ _ _ _ _ _ _; (try k_sweep))
  k_with "m_un" => (show _ + 64 < 9900; dsimp only [ktrTop]; omega)
  k_with "m_e" => first | assumption | rfl | exact Eq.symm (by assumption)
  k_with "m_eqs" => ((case zzN => k_asm); (case zzm1 => first | (with_reducible k_extra "m_mem") | k_mem); (case zzm2 => first | (with_reducible k_extra "m_mem") | k_mem); (case zzm3 => first | (with_reducible k_extra "m_mem") | k_mem); (case zzm4 => first | (with_reducible k_extra "m_mem") | k_mem); (case zzi1 => k_extra "m_iP"); (case zzi2 => k_extra "m_iP"); (case zzk => omega); (case zzh1 => first | rfl | assumption); (case zzh2 => first | rfl | assumption); (case zzu => k_extra "m_un"))
  k_with "compareOp Eq ref ref" => (k_here; k_dflt (refine' eq_Sf ?zze ?zzk ?zzN ?zzm1 ?zzm2 ?zzm3 ?zzm4 ?zzi1 ?zzi2 ?zzh1 ?zzh2 ?zzu ?_; (k_extra "m_eqs"); (case zze => assumption)))
  k_with "compareOp Eq ref ref" => (k_here; k_dflt (refine' eq_St ?zze ?zzk ?zzN ?zzm1 ?zzm2 ?zzm3 ?zzm4 ?zzi1 ?zzi2 ?zzh1 ?zzh2 ?zzu ?_; (k_extra "m_eqs"); (case zze => k_extra "m_e")))
  k_with "compareOp NotEq ref ref" => (k_here; k_dflt (refine' ne_St ?zze ?zzk ?zzN ?zzm1 ?zzm2 ?zzm3 ?zzm4 ?zzi1 ?zzi2 ?zzh1 ?zzh2 ?zzu ?_; (k_extra "m_eqs"); (case zze => k_extra "m_e")))
  exact True.intro
theorem ne_bool_t {prog : Program} {wd : World} {A : Around} {E : Value → Shared → Prop} {s : Shared} {a b : Bool} {Q : Value → Shared → Prop} (e : a ≠ b) (h : Q (.bool true) s) : wpAny (model prog wd) A (compareOp .NotEq (.bool a) (.bool b)) Q E s := ne_bool (by rw [bne_iff_ne.mpr e]; exact h)
theorem ne_bool_f {prog : Program} {wd : World} {A : Around} {E : Value → Shared → Prop} {s : Shared} {a b : Bool} {Q : Value → Shared → Prop} (e : a = b) (h : Q (.bool false) s) : wpAny (model prog wd) A (compareOp .NotEq (.bool a) (.bool b)) Q E s := ne_bool (by rw [bne_eq_false_iff_eq.mpr e]; exact h)
theorem ne_int_f {prog : Program} {wd : World} {A : Around} {E : Value → Shared → Prop} {s : Shared} {a b : Int} {t u : Tok} {Q : Value → Shared → Prop} (e : a = b) (h : Q (.bool false) s) : wpAny (model prog wd) A (compareOp .NotEq (.int a t) (.int b u)) Q E s := ne_int (by rw [bne_eq_false_iff_eq.mpr e]; exact h)
theorem le_int_t {prog : Program} {wd : World} {A : Around} {E : Value → Shared → Prop} {s : Shared} {a b : Int} {t u : Tok} {Q : Value → Shared → Prop} (e : a ≤ b) (h : Q (.bool true) s) : wpAny (model prog wd) A (compareOp .LtE (.int a t) (.int b u)) Q E s := le_int (by rw [decide_eq_true e]; exact h)
section
variable {w : World} {mean : ExcName → Option Value} {mg mb : Str → Option Value} {k : Nat} {f : Addr} {vs : List Value} {news FL : Led} {o : Option Int} {i : Int}
  {dp un : Nat} {gd : Option (List Code)} {cn : Str} {cs : Scope} {a : Addr} {ccd : Value} {cl : List (Str × Addr)} {outer : List Env} {A₀ : Around} {base h₀ : Heap} {L : Addr} {m : Str → Option Value} {s : Shared} {Q E : Value → Shared → Prop}
theorem use_On (e : o = none) (B : Below A₀ base outer h₀) (F : Fr h₀ L s.heap m) (X : (hd.heap_1 w.params).In h₀) (N : News h₀ L s.heap FL) (T : TopM mean mg mb h₀) (hk : cs.kind = .function)
    (C : Ct w mean mg mb k f vs news (ORes o)) (hsub : Sub news FL) (hd : dp + k < 1000) (hu : un + 8 * k < 9900)
    (h0 : ∀ h' tk', Fr h₀ L h' m → News h₀ L h' FL → Q .none { s with heap := h', toks := tk' }) :
    wpAny (model PySem.Challenge.rw_nz0085_01.row.prog w) (ktrTop dp un gd cn cs L a ccd cl outer) (call (.ref f) vs) Q E s :=
  use_O B F X N T hk C hsub hd hu (fun _ => h0) fun i q => by rw [e] at q; cases q
theorem use_Os (e : o = some i) (B : Below A₀ base outer h₀) (F : Fr h₀ L s.heap m) (X : (hd.heap_1 w.params).In h₀) (N : News h₀ L s.heap FL) (T : TopM mean mg mb h₀) (hk : cs.kind = .function)
    (C : Ct w mean mg mb k f vs news (ORes o)) (hsub : Sub news FL) (hd : dp + k < 1000) (hu : un + 8 * k < 9900)
    (h0 : ∀ t h' tk', Fr h₀ L h' m → News h₀ L h' FL → Q (.int i t) { s with heap := h', toks := tk' }) :
    wpAny (model PySem.Challenge.rw_nz0085_01.row.prog w) (ktrTop dp un gd cn cs L a ccd cl outer) (call (.ref f) vs) Q E s :=
  use_O B F X N T hk C hsub hd hu (fun q => by rw [e] at q; cases q) fun j q => by rw [e] at q; cases q; exact h0
end
theorem rows23 : True := by
  k_with "compareOp NotEq bool bool" => (k_dflt (first | (refine' ne_bool_t ?zze ?_; (case zze => assumption)) | (refine' ne_bool_f ?zze ?_; (case zze => assumption))))
  k_with "compareOp NotEq int int" => (k_dflt (refine' ne_int_f ?zze ?_; (case zze => first | rfl | assumption)))
  k_with "compareOp LtE int int" => (k_dflt (refine' le_int_t ?zze ?_; (case zze => assumption)))
  k_with "call ref" => (k_here; (with_reducible show wpAny _ _ (call (Value.ref 202) _ _) _ _ _); k_dflt (refine' use_On ?zzeo ?zzB ?zzF ?zzX ?zzN ?zzT ?zzK (cb_distance ?zzz1 ?zzz2 ?zzh1 ?zzh2 ?zzi1 ?zzi2 ?zzb1 ?zzb2 ?zzb3) ?zzS ?zzD ?zzU ?_; (k_extra "m_use"); (case zzi1 => k_extra "m_iP"); (case zzi2 => k_extra "m_iP"); (case zzz1 => assumption); (case zzz2 => assumption); (case zzh1 => first | rfl | assumption); (case zzh2 => first | rfl | assumption); (case zzb1 => k_extra "m_bnd"); (case zzb2 => k_extra "m_bnd"); (case zzb3 => k_extra "m_bnd"); (case zzeo => assumption)); intro _ _ _ _; (try k_sweep))
  k_with "call ref" => (k_here; (with_reducible show wpAny _ _ (call (Value.ref 202) _ _) _ _ _); k_dflt (refine' use_Os ?zzeo ?zzB ?zzF ?zzX ?zzN ?zzT ?zzK (cb_distance ?zzz1 ?zzz2 ?zzh1 ?zzh2 ?zzi1 ?zzi2 ?zzb1 ?zzb2 ?zzb3) ?zzS ?zzD ?zzU ?_; (k_extra "m_use"); (case zzi1 => k_extra "m_iP"); (case zzi2 => k_extra "m_iP"); (case zzz1 => assumption); (case zzz2 => assumption); (case zzh1 => first | rfl | assumption); (case zzh2 => first | rfl | assumption); (case zzb1 => k_extra "m_bnd"); (case zzb2 => k_extra "m_bnd"); (case zzb3 => k_extra "m_bnd"); (case zzeo => assumption)); intro _ _ _ _ _; (try k_sweep))
  k_with "call ref" => (k_here; (with_reducible show wpAny _ _ (call (Value.ref 195) _ _) _ _ _); k_dflt (refine' use_Os ?zzeo ?zzB ?zzF ?zzX ?zzN ?zzT ?zzK (cb_count_ones ?zzz1 ?zzz2 ?zzh1 ?zzi1 ?zzb1) ?zzS ?zzD ?zzU ?_; (k_extra "m_use"); (case zzi1 => k_extra "m_iP"); (case zzz1 => assumption); (case zzz2 => assumption); (case zzh1 => first | rfl | assumption); (case zzb1 => k_extra "m_bnd"); (case zzeo => assumption)); intro _ _ _ _ _; (try k_sweep))
  exact True.intro
theorem none_in3 {prog : Program} {wd : World} {A : Around} {E : Value → Shared → Prop} {s : Shared} {Q : Value → Shared → Prop} {h₀ : Heap} {L : Addr} {news : Led} {a : Addr} {c : Nat} {v1 v2 v3 : Value} {d1 d2 d3 : PyData} {b : Bool}
    (N : News h₀ L s.heap news) (h1 : (a, listOf (List.toArray [v1, v2, v3]) c) ∈ news) (r1 : Reads s.heap v1 d1 []) (r2 : Reads s.heap v2 d2 []) (r3 : Reads s.heap v3 d3 []) (hx : PyData.canLayAll0 [d1, d2, d3] = true)
    (e : ([d1, d2, d3].any fun y => PyData.eqv y .none) = b) (hu : A.units + 64 < cLine) (h : Q (.bool b) s) : wpAny (model prog wd) A (compareOp .In .none (.ref a)) Q E s := by
  have rc : Reads s.heap (.ref a) (.list [d1, d2, d3]) _ := reads_list_at (N _ h1).1 rfl rfl (.cons r1 (.cons r2 (.cons r3 .nil)))
  refine PySem.SeqAt.in_list_reads rc .none hx rfl ?_ (by rw [e]; exact h)
  have : min (PyData.depthAll [d1, d2, d3]) (PyData.depth .none) ≤ 1 := Nat.le_trans (Nat.min_le_right _ _) (by decide)
  omega
theorem rows24 : True := by
  k_with "compareOp In" => (k_here; k_dflt (refine' none_in3 (b := false) ?zzN ?zzm ?zzr1 ?zzr2 ?zzr3 ?zzx ?zze ?zzu ?_; (case zzN => k_asm); (case zzm => k_mem); (case zzr1 => first | exact Reads.none | exact Reads.int _ _); (case zzr2 => first | exact Reads.none | exact Reads.int _ _); (case zzr3 => first | exact Reads.none | exact Reads.int _ _); (case zzx => first | rfl | simp [PyData.canLay0, PyData.canLayAll0]); (case zze => simp [PyData.eqv]; done); (case zzu => k_extra "m_un")))
  k_with "compareOp In" => (k_here; k_dflt (refine' none_in3 (b := true) ?zzN ?zzm ?zzr1 ?zzr2 ?zzr3 ?zzx ?zze ?zzu ?_; (case zzN => k_asm); (case zzm => k_mem); (case zzr1 => first | exact Reads.none | exact Reads.int _ _); (case zzr2 => first | exact Reads.none | exact Reads.int _ _); (case zzr3 => first | exact Reads.none | exact Reads.int _ _); (case zzx => first | rfl | simp [PyData.canLay0, PyData.canLayAll0]); (case zze => simp [PyData.eqv]; done); (case zzu => k_extra "m_un")))
  k_with "m_go" => repeat' (first | (k_unfold; (try dsimp only [List.nil_append, List.cons_append])) | (k_end; wrow_close) | walk1 | (dsimp only; walk1) | (leave1; (try dsimp only)) | fail "no step")
  k_with "eval Call" => k_fold
  k_with "isTrue Compare" => k_fold
  k_with "eval BoolOp" => k_fold
  k_with "isTrue BoolOp" => k_fold
  k_with "eval Tuple" => k_fold
  exact True.intro
theorem dist_same {X Y : Int} (h : sg X = sg Y) : distI X Y = some (onesI (Builtin.bitXor X Y).natAbs) := if_pos h
theorem dist_none {X Y : Int} (h : sg X ≠ sg Y) : distI X Y = none := if_neg h
theorem dist_self (X : Int) : distI X X = some 0 := by rw [dist_same rfl, xor_self]; rfl
theorem cnt_xor {X Y : Int} (h : sg X = sg Y) : cntI (Builtin.bitXor X Y) = some (onesI (Builtin.bitXor X Y).natAbs) := if_neg (by rw [sg_ge (sg_xor h)]; decide)
theorem cb_far_sss {x lx y ly v lv : Addr} {bx bY bv : Bool} {cx clx cy cly cv clv : Nat} {xs ys vs : List Value} {X Y V : Int} {tw : Tok} (hz : 2 ≤ z) (hz' : z ≤ 9) (hb : bx = sg X) (hb' : bY = sg Y) (hb'' : bv = sg V)
    (ix : IntsAre xs (mag z X)) (iy : IntsAre ys (mag z Y)) (iv : IntsAre vs (mag z V)) (hX : X.natAbs < 2 ^ 100) (hY : Y.natAbs < 2 ^ 100) (hV : V.natAbs < 2 ^ 100) (h1 : sg X = sg Y) (h2 : sg Y = sg V) :
    Ct w mean mg mb 12 284 [.ref x, .ref y, .ref v, .int (z : Int) tw] [(x, tupS bx lx cx), (lx, listOf xs.toArray clx), (y, tupS bY ly cy), (ly, listOf ys.toArray cly), (v, tupS bv lv cv), (lv, listOf vs.toArray clv)] (BRes true) := by
  have hbb : bx = bY := by rw [hb, hb', h1]
  have d1 := dist_same h1
  have d2 := dist_same h2
  have d3 := dist_same (h1.trans h2)
  have d4 := cnt_xor h1
  have d5 := ones_tri h1 h2
  have a1 := op_abs bits_xor (X := X) (Y := Y) (by omega) (by omega) (by omega) (by omega)
  have a2 := op_abs bits_xor (X := Y) (Y := V) (by omega) (by omega) (by omega) (by omega)
  have a3 := op_abs bits_xor (X := X) (Y := V) (by omega) (by omega) (by omega) (by omega)
  have a4 : (Builtin.bitXor X X).natAbs < 2 ^ 188 := by rw [xor_self]; decide
  have d0 := dist_self X
  k_dflt (refine' ct_of (binds := [(PySem.Str.ofString "x", .ref x), (PySem.Str.ofString "y", .ref y), (PySem.Str.ofString "z", .ref v), (PySem.Str.ofString "w", .int (z : Int) tw)]) ?k6 ?k7 ?k9 ?kB ?c5 ?c2 ?c3 ?c4 ?_ ?c6)
  walk_at "ct"
  intro dp un gd outer A₀ base g L' s hd1 hu F N B XK T hl
  (try simp only [List.reverse_cons, List.reverse_nil, List.nil_append, List.cons_append] at F)
  k_fold
  k_extra "m_go"
theorem cb_far_ssd {x lx y ly v lv : Addr} {bx bY bv : Bool} {cx clx cy cly cv clv : Nat} {xs ys vs : List Value} {X Y V : Int} {tw : Tok} (hz : 2 ≤ z) (hz' : z ≤ 9) (hb : bx = sg X) (hb' : bY = sg Y) (hb'' : bv = sg V)
    (ix : IntsAre xs (mag z X)) (iy : IntsAre ys (mag z Y)) (iv : IntsAre vs (mag z V)) (hX : X.natAbs < 2 ^ 100) (hY : Y.natAbs < 2 ^ 100) (hV : V.natAbs < 2 ^ 100) (h1 : sg X = sg Y) (h2 : sg Y ≠ sg V) :
    Ct w mean mg mb 12 284 [.ref x, .ref y, .ref v, .int (z : Int) tw] [(x, tupS bx lx cx), (lx, listOf xs.toArray clx), (y, tupS bY ly cy), (ly, listOf ys.toArray cly), (v, tupS bv lv cv), (lv, listOf vs.toArray clv)] (BRes true) := by
  have hbb : bx = bY := by rw [hb, hb', h1]
  have d1 := dist_same h1
  have d2 := dist_none h2
  have d3 := dist_none (fun h => h2 (h1.symm.trans h))
  have d4 := cnt_xor h1
  have a1 := op_abs bits_xor (X := X) (Y := Y) (by omega) (by omega) (by omega) (by omega)
  have a2 := op_abs bits_xor (X := Y) (Y := V) (by omega) (by omega) (by omega) (by omega)
  have a3 := op_abs bits_xor (X := X) (Y := V) (by omega) (by omega) (by omega) (by omega)
  have a4 : (Builtin.bitXor X X).natAbs < 2 ^ 188 := by rw [xor_self]; decide
  have d0 := dist_self X
  k_dflt (refine' ct_of (binds := [(PySem.Str.ofString "x", .ref x), (PySem.Str.ofString "y", .ref y), (PySem.Str.ofString "z", .ref v), (PySem.Str.ofString "w", .int (z : Int) tw)]) ?k6 ?k7 ?k9 ?kB ?c5 ?c2 ?c3 ?c4 ?_ ?c6)
  walk_at "ct"
  intro dp un gd outer A₀ base g L' s hd1 hu F N B XK T hl
  (try simp only [List.reverse_cons, List.reverse_nil, List.nil_append, List.cons_append] at F)
  k_fold
  k_extra "m_go"
theorem cb_far_dss {x lx y ly v lv : Addr} {bx bY bv : Bool} {cx clx cy cly cv clv : Nat} {xs ys vs : List Value} {X Y V : Int} {tw : Tok} (hz : 2 ≤ z) (hz' : z ≤ 9) (hb : bx = sg X) (hb' : bY = sg Y) (hb'' : bv = sg V)
    (ix : IntsAre xs (mag z X)) (iy : IntsAre ys (mag z Y)) (iv : IntsAre vs (mag z V)) (hX : X.natAbs < 2 ^ 100) (hY : Y.natAbs < 2 ^ 100) (hV : V.natAbs < 2 ^ 100) (h1 : sg X ≠ sg Y) (h2 : sg Y = sg V) :
    Ct w mean mg mb 12 284 [.ref x, .ref y, .ref v, .int (z : Int) tw] [(x, tupS bx lx cx), (lx, listOf xs.toArray clx), (y, tupS bY ly cy), (ly, listOf ys.toArray cly), (v, tupS bv lv cv), (lv, listOf vs.toArray clv)] (BRes true) := by
  have hbb : bx ≠ bY := by rw [hb, hb']; exact h1
  have d1 := dist_none h1
  have d2 := dist_same h2
  have d3 := dist_none (fun h => h1 (h.trans h2.symm))
  have a1 := op_abs bits_xor (X := X) (Y := Y) (by omega) (by omega) (by omega) (by omega)
  have a2 := op_abs bits_xor (X := Y) (Y := V) (by omega) (by omega) (by omega) (by omega)
  have a3 := op_abs bits_xor (X := X) (Y := V) (by omega) (by omega) (by omega) (by omega)
  have a4 : (Builtin.bitXor X X).natAbs < 2 ^ 188 := by rw [xor_self]; decide
  have d0 := dist_self X
  k_dflt (refine' ct_of (binds := [(PySem.Str.ofString "x", .ref x), (PySem.Str.ofString "y", .ref y), (PySem.Str.ofString "z", .ref v), (PySem.Str.ofString "w", .int (z : Int) tw)]) ?k6 ?k7 ?k9 ?kB ?c5 ?c2 ?c3 ?c4 ?_ ?c6)
  walk_at "ct"
  intro dp un gd outer A₀ base g L' s hd1 hu F N B XK T hl
  (try simp only [List.reverse_cons, List.reverse_nil, List.nil_append, List.cons_append] at F)
  k_fold
  k_extra "m_go"
theorem cb_far_dsd {x lx y ly v lv : Addr} {bx bY bv : Bool} {cx clx cy cly cv clv : Nat} {xs ys vs : List Value} {X Y V : Int} {tw : Tok} (hz : 2 ≤ z) (hz' : z ≤ 9) (hb : bx = sg X) (hb' : bY = sg Y) (hb'' : bv = sg V)
    (ix : IntsAre xs (mag z X)) (iy : IntsAre ys (mag z Y)) (iv : IntsAre vs (mag z V)) (hX : X.natAbs < 2 ^ 100) (hY : Y.natAbs < 2 ^ 100) (hV : V.natAbs < 2 ^ 100) (h1 : sg X ≠ sg Y) (h2 : sg X = sg V) :
    Ct w mean mg mb 12 284 [.ref x, .ref y, .ref v, .int (z : Int) tw] [(x, tupS bx lx cx), (lx, listOf xs.toArray clx), (y, tupS bY ly cy), (ly, listOf ys.toArray cly), (v, tupS bv lv cv), (lv, listOf vs.toArray clv)] (BRes true) := by
  have hbb : bx ≠ bY := by rw [hb, hb']; exact h1
  have d1 := dist_none h1
  have d2 := dist_none (fun h => h1 (h2.trans h.symm))
  have d3 := dist_same h2
  have a1 := op_abs bits_xor (X := X) (Y := Y) (by omega) (by omega) (by omega) (by omega)
  have a2 := op_abs bits_xor (X := Y) (Y := V) (by omega) (by omega) (by omega) (by omega)
  have a3 := op_abs bits_xor (X := X) (Y := V) (by omega) (by omega) (by omega) (by omega)
  have a4 : (Builtin.bitXor X X).natAbs < 2 ^ 188 := by rw [xor_self]; decide
  have d0 := dist_self X
  k_dflt (refine' ct_of (binds := [(PySem.Str.ofString "x", .ref x), (PySem.Str.ofString "y", .ref y), (PySem.Str.ofString "z", .ref v), (PySem.Str.ofString "w", .int (z : Int) tw)]) ?k6 ?k7 ?k9 ?kB ?c5 ?c2 ?c3 ?c4 ?_ ?c6)
  walk_at "ct"
  intro dp un gd outer A₀ base g L' s hd1 hu F N B XK T hl
  (try simp only [List.reverse_cons, List.reverse_nil, List.nil_append, List.cons_append] at F)
  k_fold
  k_extra "m_go"
theorem cb_far_right {x lx y ly v lv : Addr} {bx bY bv : Bool} {cx clx cy cly cv clv : Nat} {xs ys vs : List Value} {X Y V : Int} {tw : Tok} (hz : 2 ≤ z) (hz' : z ≤ 9) (hb : bx = sg X) (hb' : bY = sg Y) (hb'' : bv = sg V)
    (ix : IntsAre xs (mag z X)) (iy : IntsAre ys (mag z Y)) (iv : IntsAre vs (mag z V)) (hX : X.natAbs < 2 ^ 100) (hY : Y.natAbs < 2 ^ 100) (hV : V.natAbs < 2 ^ 100) :
    Ct w mean mg mb 12 284 [.ref x, .ref y, .ref v, .int (z : Int) tw] [(x, tupS bx lx cx), (lx, listOf xs.toArray clx), (y, tupS bY ly cy), (ly, listOf ys.toArray cly), (v, tupS bv lv cv), (lv, listOf vs.toArray clv)] (BRes true) := by
  by_cases h1 : sg X = sg Y
  · by_cases h2 : sg Y = sg V
    · exact cb_far_sss hz hz' hb hb' hb'' ix iy iv hX hY hV h1 h2
    · exact cb_far_ssd hz hz' hb hb' hb'' ix iy iv hX hY hV h1 h2
  · by_cases h2 : sg Y = sg V
    · exact cb_far_dss hz hz' hb hb' hb'' ix iy iv hX hY hV h1 h2
    · refine cb_far_dsd hz hz' hb hb' hb'' ix iy iv hX hY hV h1 ?_
      revert h1 h2
      cases sg X <;> cases sg Y <;> cases sg V <;> simp

-- part Ma
/-- what a body that turns its footprint must come to -/
theorem rows25 : True := by
  k_with_none
  k_with "ct" => ((case k6 => k_is); (case k7 => k_is); (case k9 => (intro s; exact BindsTo.of_eq rfl)); (case kB => exact locs rfl); (case c5 => decide); (case c2 => exact rfl); (case c3 => exact rfl); (case c4 => exact rfl); (case c6 => decide))
  k_with "ctc" => ((case k6 => k_is); (case k7 => k_is); (case k9 => (intro s; exact BindsTo.of_eq rfl)); (case kB => exact rfl); (case kD => decide +kernel); (case c2 => exact rfl); (case c3 => exact rfl); (case c4 => exact rfl); (case c6 => decide))
  k_with "m_mem" => first | exact List.mem_cons_self | (refine List.mem_cons_of_mem _ ?_; k_extra "m_mem")
  k_with "m_sub" => first | exact True.intro | (refine' And.intro ?zzm1 ?zzm2; (case zzm1 => first | (with_reducible k_extra "m_mem") | k_mem); (case zzm2 => k_extra "m_sub"))
  k_with "PEnd" => (refine' pend ?zzF ?zzN ?zzS ?_ ?zzE; (case zzF => k_asm); (case zzN => k_asm); (case zzS => k_extra "m_sub"); (case zzE => exact rfl); (try dsimp only))
  k_with "SRes" => (refine' sres_of ?zzm1 ?zzm2 ?zzm3 ?_ ?_; (case zzm1 => k_mem); (case zzm2 => k_mem); (case zzm3 => k_asm))
  k_with "LRes" => (refine' lres_of ?zzm2 ?zzm3 ?_; (case zzm2 => k_mem); (case zzm3 => first | k_asm | exact IntsAre.nil | l_ints))
  k_with "LRes" => (refine' lres_push ?zzm2 ?zzm3 ?_; (case zzm2 => k_mem); (case zzm3 => k_asm))
  k_with "IRes" => (refine' ires_of ?_)
  k_with "ORes" => first | refine' ores_none ?_ | refine' ores_some ?_
  k_with "BRes" => (refine' bres_of ?_)
  k_with "binaryOp FloorDiv int int" => (k_here; k_dflt (refine' fdiv_gen ?zza ?zzb ?zzc ?_; (case zza => omega); (case zzb => omega); (case zzc => omega)); intro _ _ _ _)
  k_with "binaryOp Mod int int" => (k_here; k_dflt (refine' fmod_gen ?zza ?zzb ?_; (case zza => omega); (case zzb => omega)); intro _ _ _ _)
  k_with "binaryOp FloorDiv int int" => (k_here; k_dflt (refine' fdiv_known ?zze ?zzb ?zzc ?_; (case zze => assumption); (case zzb => omega); (case zzc => omega)))
  k_with "binaryOp Mod int int" => (k_here; k_dflt (refine' fmod_known ?zze ?zzb ?_; (case zze => assumption); (case zzb => omega)))
  k_with "m_abs" => first | omega | exact LimbB.abs (by assumption) (by assumption) | exact LimbB.absAt (by assumption) _
  k_with "binaryOp LShift int int" => (k_here; k_dflt (refine' lshift_int_small ?zza ?zzb ?zzc ?_; (case zza => omega); (case zzb => omega); (case zzc => k_extra "m_abs")))
  k_with "binaryOp RShift int int" => (k_here; k_dflt (refine' rshift_int ?zza ?_; (case zza => omega)))
  k_with "m_use" => ((case zzB => k_asm); (case zzF => k_asm); (case zzX => k_asm); (case zzN => k_asm); (case zzT => k_asm); (case zzK => first | exact rfl | assumption); (case zzS => k_extra "m_sub"); (case zzD => first | exact dlt (by assumption) (by decide) | omega); (case zzU => first | exact ult (by assumption) (by decide) | omega))
  k_with "subscriptTail Name Slice ref ref" => (k_here; k_dflt (refine' kmk_slice_ints ?zzF ?zzN ?zzl ?zzp ?zzq ?zzi ?zzm ?zzc ?_ ?zzs ?zzt ?zzz; (case zzF => k_asm); (case zzN => k_asm); (case zzl => exact News.isList (by k_asm) (by k_mem)); (case zzp => kmk_part); (case zzq => kmk_part); (case zzi => k_asm); (case zzm => first | exact kmk_all (by assumption) | exact kmk_upto (by assumption) (by omega)); (case zzc => kmk_len); (case zzs => with_unfolding_all rfl); (case zzt => kmk_pure); (case zzz => exact kmk_sz (by assumption) (by rw [sizeLine_eq]; omega))); intro _ _ _ _ _ l1 _ _ _; (try k_lt l1); (try k_sweep))
  k_with "InvEndN" => k_dflt kst_close
  k_with "m_pick" => first | assumption | exact pk0 (by assumption) | exact pk1 (by assumption) | exact pk2 (by assumption) | exact pk3 (by assumption) | exact pl1 (by assumption) | exact pl2 (by assumption) | exact pl3 (by assumption) | exact pl4 (by assumption) | exact pl5 (by assumption) | exact pk4 (by assumption) | exact pk5 (by assumption) | exact pk6 (by assumption)
  k_with "m_ne" => (refine neN ?_; (try dsimp only); with_reducible first | exact Nat.ne_of_lt (by k_extra "m_pick") | exact Nat.ne_of_gt (by k_extra "m_pick") | k_extra "m_pick" | exact Ne.symm (by k_extra "m_pick") | omega)
  k_with "m_om" => first | with_reducible assumption | exact Nat.lt_of_lt_of_le (by with_reducible assumption) (by decide) | exact Nat.le_trans (by with_reducible assumption) (by decide) | exact Nat.lt_of_le_of_lt (by with_reducible assumption) (by decide) | exact Int.lt_of_lt_of_le (by with_reducible assumption) (by decide) | exact Int.le_trans (by with_reducible assumption) (by decide) | exact Int.lt_of_le_of_lt (by with_reducible assumption) (by decide) | exact int_le_of (by with_reducible assumption) (by decide) | exact int_lt_of (by with_reducible assumption) (by decide) | exact nat_le_of (by with_reducible assumption) (by decide) | exact lp_lt (by with_reducible assumption) (by with_reducible assumption) | exact lp_sz' (by with_reducible assumption) (by with_reducible assumption) (by with_reducible assumption) (by with_reducible assumption)
  exact True.intro
noncomputable def PEndG (g : Heap) (post : Led → Value → Prop) (s : Shared) (v : Value) (s' : Shared) : Prop :=
  ∃ L' m' nx h' tk', s' = { s with heap := h', toks := tk' } ∧ Fr g L' h' m' ∧ News g L' h' nx ∧ post nx v
/-- a contract of a def that may turn its footprint -/
noncomputable def CtG (w : World) (mean : ExcName → Option Value) (mg mb : Str → Option Value) (k : Nat) (f : Addr) (vs : List Value) (P : Heap → Prop) (news : Led) (post : Led → Value → Prop) : Prop :=
  ∀ (dp un : Nat) (gd : Option (List Code)) (cn : Str) (cs : Scope) (a : Addr) (ccd : Value) (cl : List (Str × Addr)) (outer : List Env) (A₀ : Around) (base h₀ : Heap) (L : Addr) (m : Str → Option Value) (s : Shared) (Q E : Value → Shared → Prop),
    Below A₀ base outer h₀ → Fr h₀ L s.heap m → (hd.heap_1 w.params).In h₀ → P h₀ → News h₀ L s.heap news → TopM mean mg mb h₀ → cs.kind = .function → dp + k < 1000 → un + 8 * k < 9900 →
    (∀ r nx h' tk', Fr h₀ L h' m → (∀ b o, b ∉ news.map (·.1) → s.heap.get? b = some o → h'.get? b = some o) → News h₀ L h' nx → (∀ p ∈ nx, s.heap.get? p.1 = none ∨ p.1 ∈ news.map (·.1)) → post nx r → Q r { s with heap := h', toks := tk' }) →
    wpAny (model PySem.Challenge.rw_nz0085_01.row.prog w) (ktrTop dp un gd cn cs L a ccd cl outer) (call (.ref f) vs) Q E s
theorem ct_ofG {w : World} {mean : ExcName → Option Value} {mg mb : Str → Option Value} {k : Nat} {f : Addr} {vs : List Value} {P : Heap → Prop} {news : Led} {post : Led → Value → Prop}
    {name qual : Str} {params : Arguments} {body : List Stmt} {scope : Scope} {dV kV doc pm cdv ct oc : Value} {an od : Option Addr} {osl : Array (Option Value)} {binds : List (Str × Value)}
    (hP : ∀ h g, (∀ b o, h.get? b = some o → g.get? b = some o) → P h → P g)
    (ho : (hd.heap_1 w.params).lookup f = some ⟨oc, od, .func (fnOf name qual params body scope dV kV doc pm an cdv ct), osl⟩) (hcd : codeIn (hd.heap_1 w.params) cdv qual = true)
    (hbind : ∀ s, BindsTo s (fnOf name qual params body scope dV kV doc pm an cdv ct) ⟨vs, []⟩ binds) (hloc : ∀ y ∈ binds, scope.names.lookup y.1 = some .local)
    (hcell : ∀ x ∈ scope.names, x.2 ≠ .cell) (hco : scope.isCoroutine = false) (hgen : scope.isGenerator = false) (hk : scope.kind = .function)
    (h : ∀ (dp un : Nat) (gd : Option (List Code)) (outer : List Env) (A₀ : Around) (base g : Heap) (L' : Addr) (s : Shared), dp + (k - 1) < 1000 → un + 8 * (k - 1) < 9900 → Fr g L' s.heap (fun y => binds.reverse.lookup y) → News g L' s.heap news → Below A₀ base outer g → (hd.heap_1 w.params).In g → P g → TopM mean mg mb g → (∀ p ∈ news, p.1 < L') →
      wpAny (model PySem.Challenge.rw_nz0085_01.row.prog w) (ktrTop dp un gd qual scope L' f cdv [] outer) (execs body (envX qual scope L' f cdv [])) (fun fl s' => PEndG g post s (match fl with | .ret v => v | _ => .none) s') (fun _ _ => False) s)
    (hk1 : 1 ≤ k) : CtG w mean mg mb k f vs P news post := by
  intro dp un gd cn cs a ccd cl outer A₀ base h₀ L m s Q E B F X Ph N T hke hd hu hret
  refine wpAny_call ?_
  have hroom : (ktrTop dp un gd cn cs L a ccd cl outer).depth < recursionLimit := by show dp < 1000; omega
  obtain ⟨FG, BG, st, lv⟩ := groundX (R := fun r s' => match r with | .ok (.ret v) => Q v s' | .ok _ => False | .error e => E e s') (A := ktrTop dp un gd cn cs L a ccd cl outer) B F N rfl rfl hke
  refine codeAny_call_def (fd := fnOf name qual params body scope dV kV doc pm an cdv ct) (body := body) (binds := binds) hroom ((X.keeps F.keep) _ _ ho) rfl (T.nolimit.keeps F.keep) (codeRec_of (X.keeps F.keep) hcd) rfl (hbind s) hcell hloc (fun h₁ hns hk₁ => ?_) hco hgen hk
  have NL : ∀ p ∈ news, p.1 < s.heap.objs.size := fun p hp => Heap.lt_size (N p hp).1
  have H := h (dp + 1) (un + 3) gd (envX cn cs L a ccd cl :: outer) _ base (hideAll s.heap (news.map (·.1))) s.heap.objs.size { s with heap := h₁, toks := s.toks + binds.length } (by omega) (by omega) ⟨hns, fun b o e => hk₁ b o (of_hideAll _ e), Nat.le_of_eq (hideAll_size _ _)⟩
    (fun p hp => ⟨hk₁ _ _ (N p hp).1, Nat.ne_of_lt (NL p hp), hideAll_none _ (List.mem_map_of_mem hp)⟩) BG (X.keeps fun b o e => st b o e) (hP _ _ (fun b o e => st b o e) Ph) (T.keeps fun b o e => st b o e) NL
  refine wpAny_mono H (fun fl s' hl => ?_) fun _ _ y => y.elim
  obtain ⟨L', m', nx, h', tk', rfl, F', N', hp⟩ := hl
  obtain ⟨oL, es, ep, hL, hLd, hLk, hLf⟩ := FG.ns
  have keep : ∀ b o, b ∉ news.map (·.1) → s.heap.get? b = some o → h'.get? b = some o := fun b o hb e => F'.keep b o (hideAll_get _ e hb)
  refine hret _ nx h' tk' ⟨⟨oL, es, ep, F'.keep L oL hL, hLd, hLk, hLf⟩, fun b o e => F'.keep b o (st b o e), F.above⟩ keep (fun p hp' => ?_) (fun p hp' => ?_) hp
  · refine ⟨(N' p hp').1, fun q => ?_, ?_⟩
    · have := (N' p hp').2.2
      rw [q, hL] at this; cases this
    · cases q : h₀.get? p.1 with
      | none => rfl
      | some o => have := (N' p hp').2.2; rw [st _ _ q] at this; cases this
  · cases q : s.heap.get? p.1 with
    | none => exact .inl rfl
    | some o =>
      by_cases hb : p.1 ∈ news.map (·.1)
      · exact .inr hb
      · have := (N' p hp').2.2; rw [hideAll_get _ q hb] at this; cases this
/-- what the ledger bears beside the box -/
inductive RestOf (B I : Nat) : Led → Led → Prop
  | nil : RestOf B I [] []
  | dropB {o : Obj} {r r' : Led} : RestOf B I r r' → RestOf B I ((B, o) :: r) r'
  | dropI {o : Obj} {r r' : Led} : RestOf B I r r' → RestOf B I ((I, o) :: r) r'
  | opaque {r : Led} : (∀ p ∈ r, @Ne Nat p.1 B ∧ @Ne Nat p.1 I) → RestOf B I r r
  | keep {p : Addr × Obj} {r r' : Led} : @Ne Nat p.1 B → @Ne Nat p.1 I → RestOf B I r r' → RestOf B I (p :: r) (p :: r')
theorem RestOf.spec {B I : Nat} : ∀ {l r : Led}, RestOf B I l r → ∀ p ∈ r, p ∈ l ∧ @Ne Nat p.1 B ∧ @Ne Nat p.1 I
  | _, _, .nil, _, h => nomatch h
  | _, _, .opaque a, p, h => ⟨h, a p h⟩
  | _, _, .dropB a, p, h => ⟨.tail _ (a.spec p h).1, (a.spec p h).2⟩
  | _, _, .dropI a, p, h => ⟨.tail _ (a.spec p h).1, (a.spec p h).2⟩
  | _, _, .keep a b c, p, h => by
    rcases List.mem_cons.mp h with rfl | h
    · exact ⟨.head _, a, b⟩
    · exact ⟨.tail _ (c.spec p h).1, (c.spec p h).2⟩
noncomputable abbrev boxB (I : Addr) (i : Int) (t : Tok) (c : Nat) : Obj := listOf (List.toArray [.ref I, .int i t]) c
/-- the box of numbers to be drawn, at any time -/
noncomputable def BoxN (vs : List Value) (i : Int) : Prop := ∃ ns, IntsAre vs ns ∧ (∀ n ∈ ns, 0 ≤ n) ∧ ns.length ≤ 40 ∧ 0 ≤ i ∧ i < 1000003
noncomputable def MRes (B I : Addr) (post : Led → Value → Prop) (nx : Led) (r : Value) : Prop :=
  ∃ i t c vs c' own, BoxN vs i ∧ nx = (B, boxB I i t c) :: (I, listOf (List.toArray vs) c') :: own ∧ (∀ p ∈ own, @Ne Nat p.1 B ∧ @Ne Nat p.1 I) ∧ post own r
noncomputable def TRes (many : Int) (own : Led) (r : Value) : Prop := own = [] ∧ ∃ i t, r = .int i t ∧ 0 ≤ i ∧ i < many
/-- a number drawn: its tuple and its limbs -/
noncomputable def DRes (z : Nat) (own : Led) (r : Value) : Prop := ∃ (X : Int) (a l : Addr) (ls : List Value) (c c' : Nat), X.natAbs < 2 ^ 60 ∧ r = .ref a ∧ own = [(a, tupS (sg X) l c), (l, listOf (List.toArray ls) c')] ∧ IntsAre ls (mag z X)
section
variable {w : World} {mean : ExcName → Option Value} {mg mb : Str → Option Value} {k : Nat} {f : Addr} {vs : List Value} {FL rest : Led} {P : Heap → Prop}
  {dp un : Nat} {gd : Option (List Code)} {cn : Str} {cs : Scope} {a : Addr} {ccd : Value} {cl : List (Str × Addr)} {outer : List Env} {A₀ : Around} {base h₀ : Heap} {L : Addr} {m : Str → Option Value} {s : Shared} {Q E : Value → Shared → Prop}
  {B I : Addr} {i : Int} {t : Tok} {c c' : Nat} {us : List Value}
theorem use_M {post : Led → Value → Prop} (Bl : Below A₀ base outer h₀) (F : Fr h₀ L s.heap m) (X : (hd.heap_1 w.params).In h₀) (hP : P h₀) (N : News h₀ L s.heap FL) (T : TopM mean mg mb h₀) (hk : cs.kind = .function)
    (C : CtG w mean mg mb k f vs P [(B, boxB I i t c), (I, listOf (List.toArray us) c')] (MRes B I post)) (hB : (B, boxB I i t c) ∈ FL) (hI : (I, listOf (List.toArray us) c') ∈ FL) (hR : RestOf B I FL rest) (hd : dp + k < 1000) (hu : un + 8 * k < 9900)
    (h : ∀ r own i' t' c2 us' c2' h' tk', BoxN us' i' → post own r → Fr h₀ L h' m → News h₀ L h' (own ++ (B, boxB I i' t' c2) :: (I, listOf (List.toArray us') c2') :: rest) → (∀ p ∈ own, @Ne Nat p.1 B ∧ @Ne Nat p.1 I) → Q r { s with heap := h', toks := tk' }) :
    wpAny (model PySem.Challenge.rw_nz0085_01.row.prog w) (ktrTop dp un gd cn cs L a ccd cl outer) (call (.ref f) vs) Q E s := by
  refine C dp un gd cn cs a ccd cl outer A₀ base h₀ L m s Q E Bl F X hP (fun p hp => ?_) T hk hd hu ?_
  · rcases List.mem_cons.mp hp with rfl | hp
    · exact N _ hB
    rcases List.mem_cons.mp hp with rfl | hp
    · exact N _ hI
    · exact nomatch hp
  rintro r nx h' tk' F' keep N' - ⟨i', t', c2, us', c2', own, hb, rfl, ho, hp⟩
  refine h r own i' t' c2 us' c2' h' tk' hb hp F' (fun p hp => ?_) ho
  rcases List.mem_append.mp hp with hp | hp
  · exact N' _ (.tail _ (.tail _ hp))
  rcases List.mem_cons.mp hp with rfl | hp
  · exact N' _ (.head _)
  rcases List.mem_cons.mp hp with rfl | hp
  · exact N' _ (.tail _ (.head _))
  obtain ⟨q1, q2, q3⟩ := hR.spec p hp
  refine ⟨keep _ _ (fun hm => ?_) (N p q1).1, (N p q1).2⟩
  simp only [List.map_cons, List.map_nil, List.mem_cons, List.not_mem_nil, or_false] at hm
  exact hm.elim q2 q3
theorem use_T {many : Int} (Bl : Below A₀ base outer h₀) (F : Fr h₀ L s.heap m) (X : (hd.heap_1 w.params).In h₀) (N : News h₀ L s.heap FL) (T : TopM mean mg mb h₀) (hk : cs.kind = .function)
    (C : CtG w mean mg mb k f vs (fun _ => True) [(B, boxB I i t c), (I, listOf (List.toArray us) c')] (MRes B I (TRes many))) (hB : (B, boxB I i t c) ∈ FL) (hI : (I, listOf (List.toArray us) c') ∈ FL) (hR : RestOf B I FL rest) (hd : dp + k < 1000) (hu : un + 8 * k < 9900)
    (h : ∀ j tj i' t' c2 us' c2' h' tk', 0 ≤ j → j < many → BoxN us' i' → Fr h₀ L h' m → News h₀ L h' ((B, boxB I i' t' c2) :: (I, listOf (List.toArray us') c2') :: rest) → Q (.int j tj) { s with heap := h', toks := tk' }) :
    wpAny (model PySem.Challenge.rw_nz0085_01.row.prog w) (ktrTop dp un gd cn cs L a ccd cl outer) (call (.ref f) vs) Q E s := by
  refine use_M Bl F X trivial N T hk C hB hI hR hd hu ?_
  rintro r own i' t' c2 us' c2' h' tk' hb ⟨rfl, j, tj, rfl, h0, h1⟩ F' N' -
  exact h j tj i' t' c2 us' c2' h' tk' h0 h1 hb F' N'
theorem use_D {z : Nat} (Bl : Below A₀ base outer h₀) (F : Fr h₀ L s.heap m) (X : (hd.heap_1 w.params).In h₀) (N : News h₀ L s.heap FL) (T : TopM mean mg mb h₀) (hk : cs.kind = .function)
    (C : CtG w mean mg mb k f vs (fun _ => True) [(B, boxB I i t c), (I, listOf (List.toArray us) c')] (MRes B I (DRes z))) (hB : (B, boxB I i t c) ∈ FL) (hI : (I, listOf (List.toArray us) c') ∈ FL) (hR : RestOf B I FL rest) (hd : dp + k < 1000) (hu : un + 8 * k < 9900)
    (h : ∀ Y x l ls cx cl' i' t' c2 us' c2' h' tk', Y.natAbs < 2 ^ 60 → IntsAre ls (mag z Y) → BoxN us' i' → @Ne Nat x B → @Ne Nat x I → @Ne Nat l B → @Ne Nat l I → Fr h₀ L h' m → News h₀ L h' ((x, tupS (sg Y) l cx) :: (l, listOf (List.toArray ls) cl') :: (B, boxB I i' t' c2) :: (I, listOf (List.toArray us') c2') :: rest) → Q (.ref x) { s with heap := h', toks := tk' }) :
    wpAny (model PySem.Challenge.rw_nz0085_01.row.prog w) (ktrTop dp un gd cn cs L a ccd cl outer) (call (.ref f) vs) Q E s := by
  refine use_M Bl F X trivial N T hk C hB hI hR hd hu ?_
  rintro r own i' t' c2 us' c2' h' tk' hb ⟨Y, x, l, ls, cx, cl', hY, rfl, rfl, hi⟩ F' N' ho
  exact h Y x l ls cx cl' i' t' c2 us' c2' h' tk' hY hi hb (ho _ (.head _)).1 (ho _ (.head _)).2 (ho _ (.tail _ (.head _))).1 (ho _ (.tail _ (.head _))).2 F' N'
end
theorem pendG {g : Heap} {post : Led → Value → Prop} {s s' : Shared} {v : Value} {L' : Addr} {m' : Str → Option Value} {nx : Led}
    (F : Fr g L' s'.heap m') (N : News g L' s'.heap nx) (hp : post nx v) (e : s' = { s with heap := s'.heap, toks := s'.toks }) : PEndG g post s v s' :=
  ⟨L', m', nx, s'.heap, s'.toks, e, F, N, hp⟩
theorem pendT {g : Heap} {s s' : Shared} {L' : Addr} {m' : Str → Option Value} {FL : Led} {B I : Addr} {many i j : Int} {t tj : Tok} {c c' : Nat} {us : List Value}
    (F : Fr g L' s'.heap m') (N : News g L' s'.heap FL) (hB : (B, boxB I i t c) ∈ FL) (hI : (I, listOf (List.toArray us) c') ∈ FL) (hb : BoxN us i) (h0 : 0 ≤ j) (h1 : j < many) (e : s' = { s with heap := s'.heap, toks := s'.toks }) : PEndG g (MRes B I (TRes many)) s (.int j tj) s' :=
  pendG F (nx := [(B, boxB I i t c), (I, listOf (List.toArray us) c')]) (fun p hp => by
    rcases List.mem_cons.mp hp with rfl | hp
    · exact N _ hB
    rcases List.mem_cons.mp hp with rfl | hp
    · exact N _ hI
    · exact nomatch hp) ⟨i, t, c, us, c', [], hb, rfl, (fun _ h => nomatch h), rfl, j, tj, rfl, h0, h1⟩ e
theorem pendD {g : Heap} {s s' : Shared} {L' : Addr} {m' : Str → Option Value} {FL : Led} {B I x l : Addr} {i X Y : Int} {t : Tok} {c c' cx cl z : Nat} {us ls : List Value} {bx : Bool}
    (F : Fr g L' s'.heap m') (N : News g L' s'.heap FL) (hB : (B, boxB I i t c) ∈ FL) (hI : (I, listOf (List.toArray us) c') ∈ FL) (hx : (x, tupS bx l cx) ∈ FL) (hl : (l, listOf (List.toArray ls) cl) ∈ FL) (iv : IntsAre ls (mag z Y)) (hb : BoxN us i)
    (n1 : @Ne Nat x B) (n2 : @Ne Nat x I) (n3 : @Ne Nat l B) (n4 : @Ne Nat l I) (hX : X.natAbs < 2 ^ 60) (hbx : bx = sg X) (hY : Y.natAbs = X.natAbs) (e : s' = { s with heap := s'.heap, toks := s'.toks }) : PEndG g (MRes B I (DRes z)) s (.ref x) s' := by
  subst hbx
  rw [mag, hY] at iv
  exact pendG F (nx := [(B, boxB I i t c), (I, listOf (List.toArray us) c'), (x, tupS (sg X) l cx), (l, listOf (List.toArray ls) cl)]) (fun p hp => by
    rcases List.mem_cons.mp hp with rfl | hp
    · exact N _ hB
    rcases List.mem_cons.mp hp with rfl | hp
    · exact N _ hI
    rcases List.mem_cons.mp hp with rfl | hp
    · exact N _ hx
    rcases List.mem_cons.mp hp with rfl | hp
    · exact N _ hl
    · exact nomatch hp) ⟨i, t, c, us, c', _, hb, rfl, (fun p hp => by
      rcases List.mem_cons.mp hp with rfl | hp
      · exact ⟨n1, n2⟩
      rcases List.mem_cons.mp hp with rfl | hp
      · exact ⟨n3, n4⟩
      · exact nomatch hp), X, x, l, ls, cx, cl, hX, rfl, rfl, iv⟩ e

-- part Na
theorem rows26 : True := by
  k_with_none
  k_with "ct" => ((case k6 => k_is); (case k7 => k_is); (case k9 => (intro s; exact BindsTo.of_eq rfl)); (case kB => exact locs rfl); (case c5 => decide); (case c2 => exact rfl); (case c3 => exact rfl); (case c4 => exact rfl); (case c6 => decide))
  k_with "ctc" => ((case k6 => k_is); (case k7 => k_is); (case k9 => (intro s; exact BindsTo.of_eq rfl)); (case kB => exact rfl); (case kD => decide +kernel); (case c2 => exact rfl); (case c3 => exact rfl); (case c4 => exact rfl); (case c6 => decide))
  k_with "m_mem" => first | exact List.mem_cons_self | (refine List.mem_cons_of_mem _ ?_; k_extra "m_mem")
  k_with "m_sub" => first | exact True.intro | (refine' And.intro ?zzm1 ?zzm2; (case zzm1 => first | (with_reducible k_extra "m_mem") | k_mem); (case zzm2 => k_extra "m_sub"))
  k_with "PEnd" => (refine' pend ?zzF ?zzN ?zzS ?_ ?zzE; (case zzF => k_asm); (case zzN => k_asm); (case zzS => k_extra "m_sub"); (case zzE => exact rfl); (try dsimp only))
  k_with "SRes" => (refine' sres_of ?zzm1 ?zzm2 ?zzm3 ?_ ?_; (case zzm1 => k_mem); (case zzm2 => k_mem); (case zzm3 => k_asm))
  k_with "LRes" => (refine' lres_of ?zzm2 ?zzm3 ?_; (case zzm2 => k_mem); (case zzm3 => first | k_asm | exact IntsAre.nil | l_ints))
  k_with "LRes" => (refine' lres_push ?zzm2 ?zzm3 ?_; (case zzm2 => k_mem); (case zzm3 => k_asm))
  k_with "IRes" => (refine' ires_of ?_)
  k_with "ORes" => first | refine' ores_none ?_ | refine' ores_some ?_
  k_with "BRes" => (refine' bres_of ?_)
  k_with "binaryOp FloorDiv int int" => (k_here; k_dflt (refine' fdiv_gen ?zza ?zzb ?zzc ?_; (case zza => omega); (case zzb => omega); (case zzc => omega)); intro _ _ _ _)
  k_with "binaryOp Mod int int" => (k_here; k_dflt (refine' fmod_gen ?zza ?zzb ?_; (case zza => omega); (case zzb => omega)); intro _ _ _ _)
  k_with "binaryOp FloorDiv int int" => (k_here; k_dflt (refine' fdiv_known ?zze ?zzb ?zzc ?_; (case zze => assumption); (case zzb => omega); (case zzc => omega)))
  k_with "binaryOp Mod int int" => (k_here; k_dflt (refine' fmod_known ?zze ?zzb ?_; (case zze => assumption); (case zzb => omega)))
  k_with "m_abs" => first | omega | exact LimbB.abs (by assumption) (by assumption) | exact LimbB.absAt (by assumption) _
  k_with "binaryOp LShift int int" => (k_here; k_dflt (refine' lshift_int_small ?zza ?zzb ?zzc ?_; (case zza => omega); (case zzb => omega); (case zzc => k_extra "m_abs")))
  k_with "binaryOp RShift int int" => (k_here; k_dflt (refine' rshift_int ?zza ?_; (case zza => omega)))
  k_with "m_use" => ((case zzB => k_asm); (case zzF => k_asm); (case zzX => k_asm); (case zzN => k_asm); (case zzT => k_asm); (case zzK => first | exact rfl | assumption); (case zzS => k_extra "m_sub"); (case zzD => first | exact dlt (by assumption) (by decide) | omega); (case zzU => first | exact ult (by assumption) (by decide) | omega))
  k_with "subscriptTail Name Slice ref ref" => (k_here; k_dflt (refine' kmk_slice_ints ?zzF ?zzN ?zzl ?zzp ?zzq ?zzi ?zzm ?zzc ?_ ?zzs ?zzt ?zzz; (case zzF => k_asm); (case zzN => k_asm); (case zzl => exact News.isList (by k_asm) (by k_mem)); (case zzp => kmk_part); (case zzq => kmk_part); (case zzi => k_asm); (case zzm => first | exact kmk_all (by assumption) | exact kmk_upto (by assumption) (by omega)); (case zzc => kmk_len); (case zzs => with_unfolding_all rfl); (case zzt => kmk_pure); (case zzz => exact kmk_sz (by assumption) (by rw [sizeLine_eq]; omega))); intro _ _ _ _ _ l1 _ _ _; (try k_lt l1); (try k_sweep))
  k_with "InvEndN" => k_dflt kst_close
  k_with "m_pick" => first | assumption | exact pk0 (by assumption) | exact pk1 (by assumption) | exact pk2 (by assumption) | exact pk3 (by assumption) | exact pl1 (by assumption) | exact pl2 (by assumption) | exact pl3 (by assumption) | exact pl4 (by assumption) | exact pl5 (by assumption) | exact pk4 (by assumption) | exact pk5 (by assumption) | exact pk6 (by assumption)
  k_with "m_ne" => (refine neN ?_; (try dsimp only); with_reducible first | exact Nat.ne_of_lt (by k_extra "m_pick") | exact Nat.ne_of_gt (by k_extra "m_pick") | k_extra "m_pick" | exact Ne.symm (by k_extra "m_pick") | omega)
  k_with "m_om" => first | with_reducible assumption | exact Nat.lt_of_lt_of_le (by with_reducible assumption) (by decide) | exact Nat.le_trans (by with_reducible assumption) (by decide) | exact Nat.lt_of_le_of_lt (by with_reducible assumption) (by decide) | exact Int.lt_of_lt_of_le (by with_reducible assumption) (by decide) | exact Int.le_trans (by with_reducible assumption) (by decide) | exact Int.lt_of_le_of_lt (by with_reducible assumption) (by decide) | exact int_le_of (by with_reducible assumption) (by decide) | exact int_lt_of (by with_reducible assumption) (by decide) | exact nat_le_of (by with_reducible assumption) (by decide) | exact lp_lt (by with_reducible assumption) (by with_reducible assumption) | exact lp_sz' (by with_reducible assumption) (by with_reducible assumption) (by with_reducible assumption) (by with_reducible assumption)
  exact True.intro
theorem fdiv_gen16 {prog : Program} {wd : World} {A : Around} {E : Value → Shared → Prop} {s : Shared} {Q : Value → Shared → Prop} {n W : Int} {t u : Tok} (hn : 0 ≤ n) (hw : 2 ≤ W) (hw' : W ≤ 1000) (h : ∀ q, q = n.fdiv W → 0 ≤ q → q ≤ n → Q (.int q s.toks) { s with toks := s.toks + 1 }) : wpAny (model prog wd) A (binaryOp .FloorDiv (.int n t) (.int W u)) Q E s :=
  floordiv_int (by omega) (h _ rfl (dm hn hw).1 (dm hn hw).2.1) (Or.inl (PyProof.noPylong_small (by omega)))
theorem pop0 {prog : Program} {wd : World} {A : Around} {E : Value → Shared → Prop} {s : Shared} {Q : Value → Shared → Prop} {h₀ : Heap} {L D : Addr} {m : Str → Option Value} {news news' : Led} {v : Value} {vs : List Value} {n : Nat} {u : Tok}
    (F : Fr h₀ L s.heap m) (N : News h₀ L s.heap news) (U : Upd D (listOf (List.toArray (v :: vs)) n) (listOf (List.toArray vs) (n + 1)) news news') (hz : vs.length < 1000) (h : ∀ h', Fr h₀ L h' m → News h₀ L h' news' → Q v { s with heap := h' }) :
    wpAny (model prog wd) A (call (.builtin "list.pop") [.ref D, .int 0 u]) Q E s := by
  refine kl_popAt (p := []) (q := vs) (y := v) (k := 0) F N rfl ?_ rfl U ?_ h
  · have e : (List.toArray (v :: vs)).size = vs.length + 1 := by simp
    rw [e]
    simp [seqIndex?]
  · show List.length (v :: vs) ≤ _
    rw [List.length_cons, sizeLine_eq]; omega
theorem rows27 : True := by
  k_with "ctg" => ((case hP => first | exact fun _ _ _ h => h | exact fun _ _ k h => h.at fun o e => k _ o e); (case k6 => k_is); (case k7 => k_is); (case k9 => (intro s; exact BindsTo.of_eq rfl)); (case kB => exact locs rfl); (case c5 => decide); (case c2 => exact rfl); (case c3 => exact rfl); (case c4 => exact rfl); (case c6 => decide))
  k_with "PEndG" => (refine' pendT ?zzF ?zzN ?zzm1 ?zzm2 ?zzhb ?zzh0 ?zzh1 ?zzE; (case zzF => k_asm); (case zzN => k_asm); (case zzm1 => k_mem); (case zzm2 => k_mem); (case zzE => exact rfl); (case zzh0 => omega); (case zzh1 => omega))
  k_with "binaryOp FloorDiv int int" => (k_here; k_dflt (refine' fdiv_gen16 ?zza ?zzb ?zzc ?_; (case zza => omega); (case zzb => omega); (case zzc => omega)); intro _ _ _ _)
  k_with "call builtin:list.pop" => (k_here; k_dflt (refine' pop0 ?zzF ?zzN ?zzU ?zzz ?_; (case zzF => k_asm); (case zzN => k_asm); (case zzU => k_upd); (case zzz => omega)); intro _ _ N'; (try dsimp only [List.nil_append, List.cons_append] at N'))
  exact True.intro
theorem ct_take {B I : Addr} {i : Int} {t tm : Tok} {c c' : Nat} {us : List Value} {many : Int} (hBI : @Ne Nat B I) (hb : BoxN us i) (hm : 2 ≤ many) (hm' : many ≤ 1000) :
    CtG w mean mg mb 1 251 [.ref B, .int many tm] (fun _ => True) [(B, boxB I i t c), (I, listOf us.toArray c')] (MRes B I (TRes many)) := by
  obtain ⟨ns, iv, hpos, hlen, h0, h1⟩ := hb
  cases iv with
  | nil =>
    k_dflt (refine' ct_ofG (binds := [(PySem.Str.ofString "box", .ref B), (PySem.Str.ofString "many", .int many tm)]) ?hP ?k6 ?k7 ?k9 ?kB ?c5 ?c2 ?c3 ?c4 ?_ ?c6)
    walk_at "ctg"
    intro dp un gd outer A₀ base g L' s hd1 hu F N B XK Ph T hl
    (try simp only [List.reverse_cons, List.reverse_nil, List.nil_append, List.cons_append] at F)
    k_fold
    k_steps
    exact ⟨[], .nil, hpos, hlen, by omega, by omega⟩
  | cons n tn iv' =>
    have hn := hpos n (.head _)
    have hl' := iv'.length
    rw [List.length_cons] at hlen
    k_dflt (refine' ct_ofG (binds := [(PySem.Str.ofString "box", .ref B), (PySem.Str.ofString "many", .int many tm)]) ?hP ?k6 ?k7 ?k9 ?kB ?c5 ?c2 ?c3 ?c4 ?_ ?c6)
    walk_at "ctg"
    intro dp un gd outer A₀ base g L' s hd1 hu F N B XK Ph T hl
    (try simp only [List.reverse_cons, List.reverse_nil, List.nil_append, List.cons_append] at F)
    k_fold
    k_steps
    refine' pendT ?F ?N ?m1 ?m2 ?hb ?h0 ?h1 ?E
    case F => k_asm
    case N => k_asm
    case m1 => k_mem
    case m2 => k_mem
    case E => exact rfl
    case h0 => omega
    case h1 => omega
    exact ⟨_, iv', fun x hx => hpos x (.tail _ hx), by omega, h0, h1⟩
/-- what is still to be written of a number -/
structure MagRem (z : Nat) (found : List Int) (n N : Int) : Prop where
  eq : found ++ mag z n = mag z N
theorem mag_turn0 {z : Nat} {n N r : Int} {found : List Int} (hz : 2 ≤ z) (h4 : (limbs z N.natAbs).length < 97) (h : found ++ mag z n = mag z N) (hn : 0 < n) (er : r = n.fmod (1 * 2 ^ ((z : Int)).toNat)) :
    0 ≤ n.fdiv (2 ^ ((z : Int)).toNat) ∧ (found ++ [r]) ++ mag z (n.fdiv (2 ^ ((z : Int)).toNat)) = mag z N ∧ (found ++ [r]).length ≤ 97 := by
  obtain ⟨m, rfl⟩ : ∃ m : Nat, n = m := ⟨n.toNat, by omega⟩
  have hp := Nat.two_pow_pos z
  have e1 : (2 : Int) ^ ((z : Int)).toNat = ((2 ^ z : Nat) : Int) := by rw [Int.toNat_natCast, kbt_cast]
  rw [e1] at er
  rw [Int.one_mul, Int.fmod_eq_emod_of_nonneg _ (Int.natCast_nonneg _), ← Int.natCast_emod] at er
  rw [e1, Int.fdiv_eq_ediv_of_nonneg _ (Int.natCast_nonneg _), ← Int.natCast_ediv]
  have hl := limbs_pos (w := z) (n := m) (by omega) (by omega)
  have h2 : mag z (m : Int) = ((m % 2 ^ z : Nat) : Int) :: limbs z (m / 2 ^ z) := hl
  rw [h2] at h
  have h3 := congrArg List.length h
  rw [List.length_append, List.length_cons] at h3
  refine ⟨Int.natCast_nonneg _, ?_, by rw [List.length_append, List.length_cons, List.length_nil]; show _ + 1 ≤ 97; have : (mag z N).length = (limbs z N.natAbs).length := rfl; omega⟩
  rw [List.append_assoc, er]
  exact h
theorem mag_turn {z : Nat} {n N r : Int} {found : List Int} (hz : 2 ≤ z) (h4 : (limbs z N.natAbs).length < 97) (h : MagRem z found n N) (hn : 0 < n) (er : r = n.fmod (1 * 2 ^ ((z : Int)).toNat)) :
    0 ≤ n.fdiv (2 ^ ((z : Int)).toNat) ∧ (found ++ [r]).length ≤ 97 ∧ MagRem z (found ++ [r]) (n.fdiv (2 ^ ((z : Int)).toNat)) N := by
  have := mag_turn0 hz h4 h.eq hn er
  exact ⟨this.1, this.2.2, ⟨this.2.1⟩⟩
theorem mag_start {z : Nat} {N : Int} (h : 0 ≤ N) : 0 ≤ N ∧ ([] : List Int).length ≤ 97 ∧ MagRem z [] N N := ⟨h, Nat.zero_le _, ⟨List.nil_append _⟩⟩
theorem mag_less {z : Nat} {n : Int} (hz : 2 ≤ z) (hn : 0 < n) : (n.fdiv (2 ^ ((z : Int)).toNat)).toNat < n.toNat := by
  obtain ⟨m, rfl⟩ : ∃ m : Nat, n = m := ⟨n.toNat, by omega⟩
  have e1 : (2 : Int) ^ ((z : Int)).toNat = ((2 ^ z : Nat) : Int) := by rw [Int.toNat_natCast, kbt_cast]
  rw [e1, Int.fdiv_eq_ediv_of_nonneg _ (Int.natCast_nonneg _), ← Int.natCast_ediv, Int.toNat_natCast, Int.toNat_natCast]
  exact div_less (by omega) (by omega)
theorem mag_done {z : Nat} {n N : Int} {found : List Int} (h' : MagRem z found n N) (h0 : 0 ≤ n) (hn : ¬ 0 < n) : found = mag z N := by
  have h := h'.eq
  have : n = 0 := by omega
  subst this
  rw [← h]; show found = found ++ []
  rw [List.append_nil]
/-- apart from all that the ledger bears -/
noncomputable def NeAll (l : Nat) : Led → Prop
  | [] => True
  | p :: r => @Ne Nat l p.1 ∧ NeAll l r
theorem neAll_of {l : Nat} : ∀ {FL : Led}, (∀ p ∈ FL, @Ne Nat l p.1) → NeAll l FL
  | [], _ => trivial
  | p :: _, h => ⟨h p (.head _), neAll_of fun q hq => h q (.tail _ hq)⟩
theorem use_L0 {w : World} {mean : ExcName → Option Value} {mg mb : Str → Option Value} {k : Nat} {f : Addr} {vs : List Value} {FL : Led} {ns : List Int}
    {dp un : Nat} {gd : Option (List Code)} {cn : Str} {cs : Scope} {a : Addr} {ccd : Value} {cl : List (Str × Addr)} {outer : List Env} {A₀ : Around} {base h₀ : Heap} {L : Addr} {m : Str → Option Value} {s : Shared} {Q E : Value → Shared → Prop}
    (B : Below A₀ base outer h₀) (F : Fr h₀ L s.heap m) (X : (hd.heap_1 w.params).In h₀) (N : News h₀ L s.heap FL) (T : TopM mean mg mb h₀) (hk : cs.kind = .function)
    (C : Ct w mean mg mb k f vs [] (LRes ns)) (hd : dp + k < 1000) (hu : un + 8 * k < 9900)
    (h : ∀ l ls c h' tk', NeAll l FL → Fr h₀ L h' m → News h₀ L h' ((l, listOf (List.toArray ls) c) :: FL) → IntsAre ls ns → Q (.ref l) { s with heap := h', toks := tk' }) :
    wpAny (model PySem.Challenge.rw_nz0085_01.row.prog w) (ktrTop dp un gd cn cs L a ccd cl outer) (call (.ref f) vs) Q E s := by
  refine C dp un gd cn cs a ccd cl outer A₀ base h₀ L m s Q E B F X (fun p hp => nomatch hp) T hk hd hu ?_
  rintro r nx h' tk' F' keep N' - hf ⟨l, ls, c, rfl, hm, hi⟩
  refine h l ls c h' tk' (neAll_of fun p hp e => ?_) F' (fun p hp => ?_) hi
  · rcases hf _ hm with q | q
    · have := (N p hp).1
      rw [← e] at this
      rw [show s.heap.get? l = none from q] at this
      cases this
    · exact nomatch q
  rcases List.mem_cons.mp hp with rfl | hp
  · exact N' _ hm
  · exact ⟨keep _ _ (N p hp).1, (N p hp).2⟩
theorem ct_law_limbs {N : Int} {tn tw : Tok} {z : Nat} (hz : 2 ≤ z) (hz' : z ≤ 9) (h0 : 0 ≤ N) (hN : N.natAbs < 2 ^ 190) :
    Ct w mean mg mb 1 244 [.int N tn, .int (z : Int) tw] [] (LRes (mag z N)) := by
  have hp : (2 : Int) ≤ 1 * 2 ^ ((z : Int)).toNat := by
    have h1 : (2 : Nat) ^ 1 ≤ 2 ^ z := Nat.pow_le_pow_right (by decide) (by omega)
    rw [Int.toNat_natCast, Int.one_mul, ← kbt_cast]; omega
  have h4 := len_of hz hN
  clear hN
  k_dflt (refine' ct_of (binds := [(PySem.Str.ofString "number", .int N tn), (PySem.Str.ofString "w", .int (z : Int) tw)]) ?k6 ?k7 ?k9 ?kB ?c5 ?c2 ?c3 ?c4 ?_ ?c6)
  walk_at "ct"
  intro dp un gd outer A₀ base g L' s hd1 hu F N B XK T hl
  (try simp only [List.reverse_cons, List.reverse_nil, List.nil_append, List.cons_append] at F)
  k_fold
  k_with "exec While Compare cons nil" => k_dflt (refine hold ?_)
  k_with "exec While BoolOp cons nil" => k_dflt (refine hold ?_)
  k_steps
  unfold Hold
  rename Fr _ _ _ _ => lF'
  rename News _ _ _ _ => lN'
  k_dflt (refine' ksw_while (σ := List Value × List Int × Int × Tok × Nat) (fun c => [(_, listOf (List.toArray c.1) c.2.2.2.2)]) (fun c => [(PySem.Str.ofString "number", .int c.2.2.1 c.2.2.2.1)]) (fun c => IntsAre c.1 c.2.1) [] (fun c => 0 ≤ c.2.2.1 ∧ c.2.1.length ≤ 97 ∧ MagRem z c.2.1 c.2.2.1 N) (fun c => c.2.2.1.toNat) ([], [], N, tn, 0) lF' lN' .nil ?kk (mag_start h0) ?_)
  case kk => kst_all
  intro kC kU kH kTk kFacts kInv kFr kNews
  clear lF' lN'
  obtain ⟨kVs, kNs, kN, kT, kV⟩ := kC
  dsimp only at kFacts kInv kNews
  dsimp only [kstB, List.contains_nil] at kFr
  obtain ⟨kI1, kI2, kI3⟩ := kInv
  k_with "measure" => exact mag_less hz (by assumption)
  k_with "state" => exact mag_turn hz h4 (by assumption) (by assumption) (by assumption)
  try k_fold
  k_steps
  exact mag_done (by assumption) (by assumption) (by assumption)

-- part Ra
theorem rows28 : True := by
  k_with_none
  k_with "ct" => ((case k6 => k_is); (case k7 => k_is); (case k9 => (intro s; exact BindsTo.of_eq rfl)); (case kB => exact locs rfl); (case c5 => decide); (case c2 => exact rfl); (case c3 => exact rfl); (case c4 => exact rfl); (case c6 => decide))
  k_with "ctc" => ((case k6 => k_is); (case k7 => k_is); (case k9 => (intro s; exact BindsTo.of_eq rfl)); (case kB => exact rfl); (case kD => decide +kernel); (case c2 => exact rfl); (case c3 => exact rfl); (case c4 => exact rfl); (case c6 => decide))
  k_with "m_mem" => first | exact List.mem_cons_self | (refine List.mem_cons_of_mem _ ?_; k_extra "m_mem")
  k_with "m_sub" => first | exact True.intro | (refine' And.intro ?zzm1 ?zzm2; (case zzm1 => first | (with_reducible k_extra "m_mem") | k_mem); (case zzm2 => k_extra "m_sub"))
  k_with "PEnd" => (refine' pend ?zzF ?zzN ?zzS ?_ ?zzE; (case zzF => k_asm); (case zzN => k_asm); (case zzS => k_extra "m_sub"); (case zzE => exact rfl); (try dsimp only))
  k_with "SRes" => (refine' sres_of ?zzm1 ?zzm2 ?zzm3 ?_ ?_; (case zzm1 => k_mem); (case zzm2 => k_mem); (case zzm3 => k_asm))
  k_with "LRes" => (refine' lres_of ?zzm2 ?zzm3 ?_; (case zzm2 => k_mem); (case zzm3 => first | k_asm | exact IntsAre.nil | l_ints))
  k_with "LRes" => (refine' lres_push ?zzm2 ?zzm3 ?_; (case zzm2 => k_mem); (case zzm3 => k_asm))
  k_with "IRes" => (refine' ires_of ?_)
  k_with "ORes" => first | refine' ores_none ?_ | refine' ores_some ?_
  k_with "BRes" => (refine' bres_of ?_)
  k_with "binaryOp FloorDiv int int" => (k_here; k_dflt (refine' fdiv_gen ?zza ?zzb ?zzc ?_; (case zza => omega); (case zzb => omega); (case zzc => omega)); intro _ _ _ _)
  k_with "binaryOp Mod int int" => (k_here; k_dflt (refine' fmod_gen ?zza ?zzb ?_; (case zza => omega); (case zzb => omega)); intro _ _ _ _)
  k_with "binaryOp FloorDiv int int" => (k_here; k_dflt (refine' fdiv_known ?zze ?zzb ?zzc ?_; (case zze => assumption); (case zzb => omega); (case zzc => omega)))
  k_with "binaryOp Mod int int" => (k_here; k_dflt (refine' fmod_known ?zze ?zzb ?_; (case zze => assumption); (case zzb => omega)))
  k_with "m_abs" => first | omega | exact LimbB.abs (by assumption) (by assumption) | exact LimbB.absAt (by assumption) _
  k_with "binaryOp LShift int int" => (k_here; k_dflt (refine' lshift_int_small ?zza ?zzb ?zzc ?_; (case zza => omega); (case zzb => omega); (case zzc => k_extra "m_abs")))
  k_with "binaryOp RShift int int" => (k_here; k_dflt (refine' rshift_int ?zza ?_; (case zza => omega)))
  k_with "m_use" => ((case zzB => k_asm); (case zzF => k_asm); (case zzX => k_asm); (case zzN => k_asm); (case zzT => k_asm); (case zzK => first | exact rfl | assumption); (case zzS => k_extra "m_sub"); (case zzD => first | exact dlt (by assumption) (by decide) | omega); (case zzU => first | exact ult (by assumption) (by decide) | omega))
  k_with "subscriptTail Name Slice ref ref" => (k_here; k_dflt (refine' kmk_slice_ints ?zzF ?zzN ?zzl ?zzp ?zzq ?zzi ?zzm ?zzc ?_ ?zzs ?zzt ?zzz; (case zzF => k_asm); (case zzN => k_asm); (case zzl => exact News.isList (by k_asm) (by k_mem)); (case zzp => kmk_part); (case zzq => kmk_part); (case zzi => k_asm); (case zzm => first | exact kmk_all (by assumption) | exact kmk_upto (by assumption) (by omega)); (case zzc => kmk_len); (case zzs => with_unfolding_all rfl); (case zzt => kmk_pure); (case zzz => exact kmk_sz (by assumption) (by rw [sizeLine_eq]; omega))); intro _ _ _ _ _ l1 _ _ _; (try k_lt l1); (try k_sweep))
  k_with "InvEndN" => k_dflt kst_close
  k_with "m_pick" => first | assumption | exact pk0 (by assumption) | exact pk1 (by assumption) | exact pk2 (by assumption) | exact pk3 (by assumption) | exact pl1 (by assumption) | exact pl2 (by assumption) | exact pl3 (by assumption) | exact pl4 (by assumption) | exact pl5 (by assumption) | exact pk4 (by assumption) | exact pk5 (by assumption) | exact pk6 (by assumption)
  k_with "m_ne" => (refine neN ?_; (try dsimp only); with_reducible first | exact Nat.ne_of_lt (by k_extra "m_pick") | exact Nat.ne_of_gt (by k_extra "m_pick") | k_extra "m_pick" | exact Ne.symm (by k_extra "m_pick") | omega)
  k_with "m_om" => first | with_reducible assumption | exact Nat.lt_of_lt_of_le (by with_reducible assumption) (by decide) | exact Nat.le_trans (by with_reducible assumption) (by decide) | exact Nat.lt_of_le_of_lt (by with_reducible assumption) (by decide) | exact Int.lt_of_lt_of_le (by with_reducible assumption) (by decide) | exact Int.le_trans (by with_reducible assumption) (by decide) | exact Int.lt_of_le_of_lt (by with_reducible assumption) (by decide) | exact int_le_of (by with_reducible assumption) (by decide) | exact int_lt_of (by with_reducible assumption) (by decide) | exact nat_le_of (by with_reducible assumption) (by decide) | exact lp_lt (by with_reducible assumption) (by with_reducible assumption) | exact lp_sz' (by with_reducible assumption) (by with_reducible assumption) (by with_reducible assumption) (by with_reducible assumption)
  k_with "ctg" => ((case hP => first | exact fun _ _ _ h => h | exact fun _ _ k h => h.at fun o e => k _ o e); (case k6 => k_is); (case k7 => k_is); (case k9 => (intro s; exact BindsTo.of_eq rfl)); (case kB => exact locs rfl); (case c5 => decide); (case c2 => exact rfl); (case c3 => exact rfl); (case c4 => exact rfl); (case c6 => decide))
  k_with "PEndG" => (refine' pendT ?zzF ?zzN ?zzm1 ?zzm2 ?zzhb ?zzh0 ?zzh1 ?zzE; (case zzF => k_asm); (case zzN => k_asm); (case zzm1 => k_mem); (case zzm2 => k_mem); (case zzE => exact rfl); (case zzh0 => omega); (case zzh1 => omega))
  k_with "binaryOp FloorDiv int int" => (k_here; k_dflt (refine' fdiv_gen16 ?zza ?zzb ?zzc ?_; (case zza => omega); (case zzb => omega); (case zzc => omega)); intro _ _ _ _)
  k_with "call builtin:list.pop" => (k_here; k_dflt (refine' pop0 ?zzF ?zzN ?zzU ?zzz ?_; (case zzF => k_asm); (case zzN => k_asm); (case zzU => k_upd); (case zzz => omega)); intro _ _ N'; (try dsimp only [List.nil_append, List.cons_append] at N'))
  exact True.intro
theorem abs0 (X : Int) : 0 ≤ if X < 0 then -X else X := by split <;> omega
theorem abs1 {X : Int} (h : X.natAbs < 2 ^ 60) : (if X < 0 then -X else X).natAbs < 2 ^ 190 := by split <;> omega
theorem abs2 (X : Int) : (if X < 0 then -X else X).natAbs = X.natAbs := by split <;> omega
theorem room1 {z : Nat} {j : Int} (h : j < 4 * (z : Int)) (h0 : 0 ≤ j) (hz' : z ≤ 9) : 1 ≤ (1 : Int) * 2 ^ j.toNat ∧ (1 : Int) * 2 ^ j.toNat < 2 ^ 40 := by
  have h1 : (2 : Nat) ^ j.toNat < 2 ^ 40 := Nat.pow_lt_pow_right (by decide) (by omega)
  have h2 := Nat.two_pow_pos j.toNat
  rw [← kbt_cast]; omega
theorem pow_room {z n : Nat} (hz' : z ≤ 9) (hn : n ≤ 6) : (2 : Int) ^ (z * n) ≤ 2 ^ 54 := by
  have h1 : z * n ≤ 9 * 6 := Nat.mul_le_mul hz' hn
  rw [← kbt_cast, ← kbt_cast]
  exact Int.ofNat_le.mpr (Nat.pow_le_pow_right (by decide) (by omega))
theorem drawn_turn {z : Nat} {pre : List Int} {f j k : Int} (h : 0 ≤ f ∧ f < 2 ^ (z * pre.length)) (h0 : 0 ≤ j) (h1 : j < 1 * 2 ^ ((z : Int)).toNat) : 0 ≤ f * 2 ^ ((z : Int)).toNat + j ∧ f * 2 ^ ((z : Int)).toNat + j < 2 ^ (z * (pre ++ [k]).length) := by
  rw [Int.toNat_natCast] at *
  have hp := two_pos z
  have e : (2 : Int) ^ (z * (pre ++ [k]).length) = 2 ^ (z * pre.length) * 2 ^ z := by
    rw [List.length_append, List.length_cons, List.length_nil, Nat.mul_add, Nat.zero_add, Nat.mul_one, Int.pow_add]
  rw [e]
  have h2 := Int.mul_le_mul_of_nonneg_right (show f + 1 ≤ 2 ^ (z * pre.length) by omega) (Int.le_of_lt hp)
  rw [Int.add_mul, Int.one_mul] at h2
  have h3 := Int.mul_nonneg h.1 (Int.le_of_lt hp)
  omega
theorem drawn_start (z : Nat) : (0 : Int) ≤ 0 ∧ (0 : Int) < 2 ^ (z * ([] : List Int).length) := ⟨Int.le_refl _, two_pos _⟩
theorem ownOff2 {own : Led} {a b : Addr} (h : OwnOff own [a, b]) : ∀ p ∈ own, @Ne Nat p.1 a ∧ @Ne Nat p.1 b := fun p hp => ⟨h p hp _ (.head _), h p hp _ (.tail _ (.head _))⟩
theorem rows29 : True := by
  k_with "m_bnd" => first | assumption | omega | (have hSg := sg_t (by assumption); omega) | (have hSg := sg_f (by assumption); omega)
  k_with "m_i" => first | k_asm | exact one_ints (by assumption) | exact nil_ints | exact two_ints (by assumption)
  k_with "call ref" => (k_here; (with_reducible show wpAny _ _ (call (Value.ref 60) _ _) _ _ _); k_dflt (refine' use_L ?zzB ?zzF ?zzX ?zzN ?zzT ?zzK (cc_add ?zzz1 ?zzz2 ?zzi1 ?zzi2 ?zzb1 ?zzb2) ?zzS ?zzD ?zzU ?_; (k_extra "m_use"); (case zzi1 => k_extra "m_i"); (case zzi2 => k_extra "m_i"); (case zzz1 => assumption); (case zzz2 => assumption); (case zzb1 => k_extra "m_bnd"); (case zzb2 => k_extra "m_bnd")); intro _ _ _ _ _ _ _ _; (try k_sweep))
  k_with "call ref" => (k_here; (with_reducible show wpAny _ _ (call (Value.ref 67) _ _) _ _ _); k_dflt (refine' use_L ?zzB ?zzF ?zzX ?zzN ?zzT ?zzK (cc_sub ?zzz1 ?zzz2 ?zzi1 ?zzi2 ?zzb1 ?zzb2) ?zzS ?zzD ?zzU ?_; (k_extra "m_use"); (case zzi1 => k_extra "m_i"); (case zzi2 => k_extra "m_i"); (case zzz1 => assumption); (case zzz2 => assumption); (case zzb1 => k_extra "m_bnd"); (case zzb2 => k_extra "m_bnd")); intro _ _ _ _ _ _ _ _; (try k_sweep))
  k_with "call ref" => (k_here; (with_reducible show wpAny _ _ (call (Value.ref 53) _ _) _ _ _); k_dflt (refine' use_I ?zzB ?zzF ?zzX ?zzN ?zzT ?zzK (cc_compare ?zzz1 ?zzi1 ?zzi2 ?zzb1 ?zzb2) ?zzS ?zzD ?zzU ?_; (k_extra "m_use"); (case zzi1 => k_extra "m_i"); (case zzi2 => k_extra "m_i"); (case zzz1 => assumption); (case zzb1 => k_extra "m_bnd"); (case zzb2 => k_extra "m_bnd")); intro _ _ _ _ _; (try k_sweep))
  k_with "call ref" => (k_here; (with_reducible show wpAny _ _ (call (Value.ref 74) _ _) _ _ _); k_dflt (refine' use_L ?zzB ?zzF ?zzX ?zzN ?zzT ?zzK (cc_add_limb ?zzz1 ?zzz2 ?zzi1 ?zzb1) ?zzS ?zzD ?zzU ?_; (k_extra "m_use"); (case zzi1 => k_extra "m_i"); (case zzz1 => assumption); (case zzz2 => assumption); (case zzb1 => k_extra "m_bnd")); intro _ _ _ _ _ _ _ _; (try k_sweep))
  k_with "call ref" => (k_here; (with_reducible show wpAny _ _ (call (Value.ref 81) _ _) _ _ _); k_dflt (refine' use_L ?zzB ?zzF ?zzX ?zzN ?zzT ?zzK (cc_shift_left ?zzz1 ?zzz2 ?zzi1 ?zzb1 ?zzb2 ?zzb3) ?zzS ?zzD ?zzU ?_; (k_extra "m_use"); (case zzi1 => k_extra "m_i"); (case zzz1 => assumption); (case zzz2 => assumption); (case zzb1 => k_extra "m_bnd"); (case zzb2 => k_extra "m_bnd"); (case zzb3 => k_extra "m_bnd")); intro _ _ _ _ _ _ _ _; (try k_sweep))
  k_with "call ref" => (k_here; (with_reducible show wpAny _ _ (call (Value.ref 88) _ _) _ _ _); k_dflt (refine' use_L ?zzB ?zzF ?zzX ?zzN ?zzT ?zzK (cc_shift_right ?zzz1 ?zzz2 ?zzi1 ?zzb1 ?zzb2 ?zzb3) ?zzS ?zzD ?zzU ?_; (k_extra "m_use"); (case zzi1 => k_extra "m_i"); (case zzz1 => assumption); (case zzz2 => assumption); (case zzb1 => k_extra "m_bnd"); (case zzb2 => k_extra "m_bnd"); (case zzb3 => k_extra "m_bnd")); intro _ _ _ _ _ _ _ _; (try k_sweep))
  k_with "call ref" => (k_here; (with_reducible show wpAny _ _ (call (Value.ref 95) _ _) _ _ _); k_dflt (refine' use_I ?zzB ?zzF ?zzX ?zzN ?zzT ?zzK (cc_bit ?zzz1 ?zzz2 ?zzi1 ?zzb1 ?zzb2 ?zzb3) ?zzS ?zzD ?zzU ?_; (k_extra "m_use"); (case zzi1 => k_extra "m_i"); (case zzz1 => assumption); (case zzz2 => assumption); (case zzb1 => k_extra "m_bnd"); (case zzb2 => k_extra "m_bnd"); (case zzb3 => k_extra "m_bnd")); intro _ _ _ _ _; (try k_sweep))
  k_with "call ref" => (k_here; (with_reducible show wpAny _ _ (call (Value.ref 102) _ _) _ _ _); k_dflt (refine' use_L ?zzB ?zzF ?zzX ?zzN ?zzT ?zzK (cc_low ?zzz1 ?zzz2 ?zzi1 ?zzb1 ?zzb2 ?zzb3) ?zzS ?zzD ?zzU ?_; (k_extra "m_use"); (case zzi1 => k_extra "m_i"); (case zzz1 => assumption); (case zzz2 => assumption); (case zzb1 => k_extra "m_bnd"); (case zzb2 => k_extra "m_bnd"); (case zzb3 => k_extra "m_bnd")); intro _ _ _ _ _ _ _ _; (try k_sweep))
  k_with "call ref" => (k_here; (with_reducible show wpAny _ _ (call (Value.ref 209) _ _) _ _ _); k_dflt (refine' use_S ?zzB ?zzF ?zzX ?zzN ?zzT ?zzK (cc_signed ?zzz1 ?zzi1 ?zzb1) ?zzS ?zzD ?zzU ?_; (k_extra "m_use"); (case zzi1 => k_extra "m_i"); (case zzz1 => assumption); (case zzb1 => k_extra "m_bnd")); intro _ _ _ _ _ _ _ _ _ _; (try k_sweep))
  k_with "call ref" => (k_here; (with_reducible show wpAny _ _ (call (Value.ref 188) _ _) _ _ _); k_dflt (refine' use_I ?zzB ?zzF ?zzX ?zzN ?zzT ?zzK (cc_nat_ones ?zzz1 ?zzz2 ?zzi1 ?zzb1) ?zzS ?zzD ?zzU ?_; (k_extra "m_use"); (case zzi1 => k_extra "m_i"); (case zzz1 => assumption); (case zzz2 => assumption); (case zzb1 => k_extra "m_bnd")); intro _ _ _ _ _; (try k_sweep))
  k_with "m_rest" => first | exact RestOf.nil | exact RestOf.opaque (by assumption) | (with_reducible refine' RestOf.dropB ?zza; (case zza => k_extra "m_rest")) | (with_reducible refine' RestOf.dropI ?zza; (case zza => k_extra "m_rest")) | (refine' RestOf.keep ?zza ?zzb ?zzc; (case zza => k_ne); (case zzb => k_ne); (case zzc => k_extra "m_rest"))
  k_with "m_useM" => ((case zzB => k_asm); (case zzF => k_asm); (case zzX => k_asm); (case zzN => k_asm); (case zzT => k_asm); (case zzK => first | exact rfl | assumption); (case zzm1 => k_mem); (case zzm2 => k_mem); (case zzR => k_extra "m_rest"); (case zzD => first | exact dlt (by assumption) (by decide) | omega); (case zzU => first | exact ult (by assumption) (by decide) | omega))
  k_with "call ref" => (k_here; (with_reducible show wpAny _ _ (call (Value.ref 251) _ _) _ _ _); k_dflt (refine' use_T ?zzB ?zzF ?zzX ?zzN ?zzT ?zzK (ct_take ?zzne ?zzbx ?zzb1 ?zzb2) ?zzm1 ?zzm2 ?zzR ?zzD ?zzU ?_; (k_extra "m_useM"); (case zzne => assumption); (case zzbx => assumption); (case zzb1 => k_extra "m_bnd"); (case zzb2 => k_extra "m_bnd")); intro _ _ _ _ _ _ _ _ _ _ _ _ _ _; (try k_sweep))
  k_with "m_room" => first | omega | (have hRm := room1 (by assumption) (by assumption) (by assumption); omega)
  k_with "call ref" => (k_here; (with_reducible show wpAny _ _ (call (Value.ref 244) _ _) _ _ _); k_dflt (refine' use_L0 ?zzB ?zzF ?zzX ?zzN ?zzT ?zzK (ct_law_limbs ?zzz1 ?zzz2 ?zzb1 ?zzb2) ?zzD ?zzU ?_; (k_extra "m_useL"); (case zzz1 => assumption); (case zzz2 => assumption); (case zzb1 => first | k_extra "m_bnd" | exact abs0 _); (case zzb2 => first | k_extra "m_bnd" | exact abs1 (by k_extra "m_room"))); intro _ _ _ _ _ hne' _ _ _; (try dsimp only [NeAll] at hne'); (try k_sweep))
  k_with "m_useL" => ((case zzB => k_asm); (case zzF => k_asm); (case zzX => k_asm); (case zzN => k_asm); (case zzT => k_asm); (case zzK => first | exact rfl | assumption); (case zzD => first | exact dlt (by assumption) (by decide) | omega); (case zzU => first | exact ult (by assumption) (by decide) | omega))
  k_with "PEndG" => (refine' pendD ?zzF ?zzN ?zzm1 ?zzm2 ?zzm3 ?zzm4 ?zziv ?zzhb ?zzn1 ?zzn2 ?zzn3 ?zzn4 ?zzhX ?zzhbx ?zzhY ?zzE; (case zzF => k_asm); (case zzN => k_asm); (case zzm1 => k_mem); (case zzm2 => k_mem); (case zzm3 => k_mem); (case zzm4 => k_mem); (case zziv => k_asm); (case zzhb => assumption); (case zzn1 => omega); (case zzn2 => omega); (case zzn3 => omega); (case zzn4 => omega); (case zzhbx => exact rfl); (case zzhX => k_extra "m_room"); (case zzhY => exact abs2 _); (case zzE => exact rfl))
  exact True.intro
theorem fr_swap {g h : Heap} {L : Addr} {a b : Str} {f r : Str → Option Value} {v : Option Value} (hab : ¬ a = b) (F : Fr g L h (fun y => if y = a then f y else if y = b then v else r y)) :
    Fr g L h (fun y => if y = b then v else if y = a then f y else r y) := by
  have e : (fun y => if y = a then f y else if y = b then v else r y) = fun y => if y = b then v else if y = a then f y else r y := by
    funext y
    by_cases h1 : y = a
    · subst h1; rw [if_pos rfl, if_neg hab, if_pos rfl]
    · rw [if_neg h1, if_neg h1]
  rw [← e]; exact F
theorem fr_dbl {g h : Heap} {L : Addr} {b : Str} {r : Str → Option Value} {u v : Option Value} (F : Fr g L h (fun y => if y = b then v else if y = b then u else r y)) :
    Fr g L h (fun y => if y = b then v else r y) := by
  have e : (fun y => if y = b then v else if y = b then u else r y) = fun y => if y = b then v else r y := by
    funext y
    by_cases h1 : y = b
    · rw [if_pos h1, if_pos h1]
    · rw [if_neg h1, if_neg h1, if_neg h1]
  rw [← e]; exact F
theorem cut_gen {K : Str → Option Value} {n : Str} {g kH : Heap} {L bo bi : Addr} {v : Option Value} {goal : Prop} {R : Heap → Nat → Prop} (_F : Fr g L kH (fun y => if y = n then v else K y))
    (gen : ∀ (fo : Int) (ft : Tok) (us : List Value) (i : Int) (t : Tok) (c c' : Nat) (h : Heap) (tk : Nat), Fr g L h (fun y => if y = n then some (.int fo ft) else K y) → News g L h [(bo, boxB bi i t c), (bi, listOf us.toArray c')] → BoxN us i → 0 ≤ fo → fo < 2 ^ 60 → R h tk)
    (main : (∀ (fo : Int) (ft : Tok) (us : List Value) (i : Int) (t : Tok) (c c' : Nat) (h : Heap) (tk : Nat), Fr g L h (fun y => if y = n then some (.int fo ft) else K y) → News g L h [(bo, boxB bi i t c), (bi, listOf us.toArray c')] → BoxN us i → 0 ≤ fo → fo < 2 ^ 60 → R h tk) → goal) : goal := main gen
theorem ct_drawn {bo bi : Addr} {i : Int} {t tw : Tok} {c c' : Nat} {us : List Value} {z : Nat} (hz : 2 ≤ z) (hz' : z ≤ 9) (hBI : @Ne Nat bo bi) (hb : BoxN us i) :
    CtG w mean mg mb 3 263 [.ref bo, .int (z : Int) tw] (fun _ => True) [(bo, boxB bi i t c), (bi, listOf us.toArray c')] (MRes bo bi (DRes z)) := by
  have hp : (2 : Int) ≤ 1 * 2 ^ ((z : Int)).toNat ∧ (1 : Int) * 2 ^ ((z : Int)).toNat ≤ 512 := by
    have h1 : (2 : Nat) ^ 1 ≤ 2 ^ z := Nat.pow_le_pow_right (by decide) (by omega)
    have h2 : (2 : Nat) ^ z ≤ 2 ^ 9 := Nat.pow_le_pow_right (by decide) (by omega)
    rw [Int.toNat_natCast, Int.one_mul, ← kbt_cast]; omega
  k_dflt (refine' ct_ofG (binds := [(PySem.Str.ofString "box", .ref bo), (PySem.Str.ofString "w", .int (z : Int) tw)]) ?hP ?k6 ?k7 ?k9 ?kB ?c5 ?c2 ?c3 ?c4 ?_ ?c6)
  walk_at "ctg"
  intro dp un gd outer A₀ base g L' s hd1 hu F N B XK Ph T hl
  (try simp only [List.reverse_cons, List.reverse_nil, List.nil_append, List.cons_append] at F)
  k_fold
  k_with "pyIter ref" => k_dflt (refine hold ?_)
  k_steps
  unfold Hold
  rename_i kj ktj ki kt kc2 kus kc3 kh ktk kj0 kj1 kbx kF kN kh2 ktk2 kt1 ku1 kv1 rgX lF' lN' kkeep
  k_dflt (refine' kst_range (σ := List Value × Int × Tok × Nat × Nat × Int × Tok) (fun c => [(bo, boxB bi c.2.1 c.2.2.1 c.2.2.2.1), (bi, listOf (List.toArray c.1) c.2.2.2.2.1)]) (fun c => [(PySem.Str.ofString "found", .int c.2.2.2.2.2.1 c.2.2.2.2.2.2)]) (fun c => BoxN c.1 c.2.1) [] (fun pre c => 0 ≤ c.2.2.2.2.2.1 ∧ c.2.2.2.2.2.1 < 2 ^ (z * pre.length)) (kus, ki, kt, kc2, kc3, 0, _) (by rfl) rgX (small_one (by omega) (by omega) (by omega) (by omega)) (rangeSize_nat _ _) lF' (kst_newsOf lN' ?kn) kbx ?kk (drawn_start z) ?_ ?_)
  case kn => kst_inAny
  case kk => kst_all
  · intro kC kPre kN kT kU kH kTk kOwn kEq kLt kOff kFacts kInv kFr kNews
    have kMark := kstMark
    clear lF' lN'
    obtain ⟨kVs, kI, kIt, kCc, kCd, kFo, kFt⟩ := kC
    dsimp only [List.map_cons, List.map_nil] at kFacts kInv kNews kOff
    dsimp only [kstB, List.contains_nil] at kFr
    have hroom := pow_room (n := kPre.length) hz' (by omega)
    have hown := ownOff2 kOff
    simp only [List.cons_append, List.nil_append] at kNews
    have kInv1 := kInv.1
    have kInv2 := kInv.2
    k_with "state" => exact drawn_turn kInv (by assumption) (by assumption)
    try k_fold
    k_steps
  · intro kC kU kH kTk kFacts kInv kFr kNews
    clear lF' lN'
    obtain ⟨kVs, kI, kIt, kCc, kCd, kFo, kFt⟩ := kC
    dsimp only at kFacts kInv kNews
    dsimp only [kstB, List.contains_nil] at kFr
    have hroom := pow_room (n := (rangeKs 0 (kj - 0).toNat).length) hz' (by rw [rangeKs_length]; omega)
    have kInv1 := kInv.1
    have kInv2 := kInv.2
    have kTop : kFo < 2 ^ 60 := by clear kInv kInv1; omega
    replace kFr := fr_swap (by decide) kFr
    walk1
    k_fold
    refine cut_gen (bo := bo) (bi := bi) (R := fun h tk => qk Flow.next { s with heap := h, toks := tk }) kFr ?_ ?_
    · clear kFr kNews kFacts kInv kInv1 kInv2 hroom kTop
      intro kFo kFt kVs kI kIt kCc kCd kH kTk kFr kNews kFacts kInv1 kTop
      k_unfold
      dsimp only
      walk1
      k_fold
      refine cut_gen (bo := bo) (bi := bi) (R := fun h tk => qk Flow.next { s with heap := h, toks := tk }) kFr ?_ ?_
      · clear kFr kNews kFacts kInv1 kTop
        intro kFo kFt kVs kI kIt kCc kCd kH kTk kFr kNews kFacts kInv1 kTop
        k_unfold
        dsimp only
        k_steps
        all_goals walk_at "PEndG"
      · intro gen
        clear_value qk
        k_steps
        all_goals (try dsimp only)
        all_goals (exact gen _ _ _ _ _ _ _ _ _ (by first | assumption | exact fr_dbl (by assumption)) (news_sub (by assumption) (by k_extra "m_sub")) (by assumption) (by first | with_reducible assumption | k_extra "m_room") (by first | with_reducible assumption | k_extra "m_room"))
    · intro gen
      clear_value qk
      k_steps
      all_goals (try dsimp only)
      all_goals (exact gen _ _ _ _ _ _ _ _ _ (by first | assumption | exact fr_dbl (by assumption)) (news_sub (by assumption) (by k_extra "m_sub")) (by assumption) (by first | with_reducible assumption | k_extra "m_room") (by first | with_reducible assumption | k_extra "m_room"))

-- part Ta
-- the walk keeps its lines by how many there are: one more than in the part before
/-- a box made -/
theorem rows30 : True := by
  k_with_none
  k_with "ct" => ((case k6 => k_is); (case k7 => k_is); (case k9 => (intro s; exact BindsTo.of_eq rfl)); (case kB => exact locs rfl); (case c5 => decide); (case c2 => exact rfl); (case c3 => exact rfl); (case c4 => exact rfl); (case c6 => decide))
  k_with "ctc" => ((case k6 => k_is); (case k7 => k_is); (case k9 => (intro s; exact BindsTo.of_eq rfl)); (case kB => exact rfl); (case kD => decide +kernel); (case c2 => exact rfl); (case c3 => exact rfl); (case c4 => exact rfl); (case c6 => decide))
  k_with "m_mem" => first | exact List.mem_cons_self | (refine List.mem_cons_of_mem _ ?_; k_extra "m_mem")
  k_with "m_sub" => first | exact True.intro | (refine' And.intro ?zzm1 ?zzm2; (case zzm1 => first | (with_reducible k_extra "m_mem") | k_mem); (case zzm2 => k_extra "m_sub"))
  k_with "PEnd" => (refine' pend ?zzF ?zzN ?zzS ?_ ?zzE; (case zzF => k_asm); (case zzN => k_asm); (case zzS => k_extra "m_sub"); (case zzE => exact rfl); (try dsimp only))
  k_with "SRes" => (refine' sres_of ?zzm1 ?zzm2 ?zzm3 ?_ ?_; (case zzm1 => k_mem); (case zzm2 => k_mem); (case zzm3 => k_asm))
  k_with "LRes" => (refine' lres_of ?zzm2 ?zzm3 ?_; (case zzm2 => k_mem); (case zzm3 => first | k_asm | exact IntsAre.nil | l_ints))
  k_with "LRes" => (refine' lres_push ?zzm2 ?zzm3 ?_; (case zzm2 => k_mem); (case zzm3 => k_asm))
  k_with "IRes" => (refine' ires_of ?_)
  k_with "ORes" => first | refine' ores_none ?_ | refine' ores_some ?_
  k_with "BRes" => (refine' bres_of ?_)
  k_with "binaryOp FloorDiv int int" => (k_here; k_dflt (refine' fdiv_gen ?zza ?zzb ?zzc ?_; (case zza => omega); (case zzb => omega); (case zzc => omega)); intro _ _ _ _)
  k_with "binaryOp Mod int int" => (k_here; k_dflt (refine' fmod_gen ?zza ?zzb ?_; (case zza => omega); (case zzb => omega)); intro _ _ _ _)
  k_with "binaryOp FloorDiv int int" => (k_here; k_dflt (refine' fdiv_known ?zze ?zzb ?zzc ?_; (case zze => assumption); (case zzb => omega); (case zzc => omega)))
  k_with "binaryOp Mod int int" => (k_here; k_dflt (refine' fmod_known ?zze ?zzb ?_; (case zze => assumption); (case zzb => omega)))
  k_with "m_abs" => first | omega | exact LimbB.abs (by assumption) (by assumption) | exact LimbB.absAt (by assumption) _
  k_with "binaryOp LShift int int" => (k_here; k_dflt (refine' lshift_int_small ?zza ?zzb ?zzc ?_; (case zza => omega); (case zzb => omega); (case zzc => k_extra "m_abs")))
  k_with "binaryOp RShift int int" => (k_here; k_dflt (refine' rshift_int ?zza ?_; (case zza => omega)))
  k_with "m_use" => ((case zzB => k_asm); (case zzF => k_asm); (case zzX => k_asm); (case zzN => k_asm); (case zzT => k_asm); (case zzK => first | exact rfl | assumption); (case zzS => k_extra "m_sub"); (case zzD => first | exact dlt (by assumption) (by decide) | omega); (case zzU => first | exact ult (by assumption) (by decide) | omega))
  k_with "subscriptTail Name Slice ref ref" => (k_here; k_dflt (refine' kmk_slice_ints ?zzF ?zzN ?zzl ?zzp ?zzq ?zzi ?zzm ?zzc ?_ ?zzs ?zzt ?zzz; (case zzF => k_asm); (case zzN => k_asm); (case zzl => exact News.isList (by k_asm) (by k_mem)); (case zzp => kmk_part); (case zzq => kmk_part); (case zzi => k_asm); (case zzm => first | exact kmk_all (by assumption) | exact kmk_upto (by assumption) (by omega)); (case zzc => kmk_len); (case zzs => with_unfolding_all rfl); (case zzt => kmk_pure); (case zzz => exact kmk_sz (by assumption) (by rw [sizeLine_eq]; omega))); intro _ _ _ _ _ l1 _ _ _; (try k_lt l1); (try k_sweep))
  k_with "InvEndN" => k_dflt kst_close
  k_with "m_pick" => first | assumption | exact pk0 (by assumption) | exact pk1 (by assumption) | exact pk2 (by assumption) | exact pk3 (by assumption) | exact pl1 (by assumption) | exact pl2 (by assumption) | exact pl3 (by assumption) | exact pl4 (by assumption) | exact pl5 (by assumption) | exact pk4 (by assumption) | exact pk5 (by assumption) | exact pk6 (by assumption)
  k_with "m_ne" => (refine neN ?_; (try dsimp only); with_reducible first | exact Nat.ne_of_lt (by k_extra "m_pick") | exact Nat.ne_of_gt (by k_extra "m_pick") | k_extra "m_pick" | exact Ne.symm (by k_extra "m_pick") | omega)
  k_with "m_om" => first | with_reducible assumption | exact Nat.lt_of_lt_of_le (by with_reducible assumption) (by decide) | exact Nat.le_trans (by with_reducible assumption) (by decide) | exact Nat.lt_of_le_of_lt (by with_reducible assumption) (by decide) | exact Int.lt_of_lt_of_le (by with_reducible assumption) (by decide) | exact Int.le_trans (by with_reducible assumption) (by decide) | exact Int.lt_of_le_of_lt (by with_reducible assumption) (by decide) | exact int_le_of (by with_reducible assumption) (by decide) | exact int_lt_of (by with_reducible assumption) (by decide) | exact nat_le_of (by with_reducible assumption) (by decide) | exact lp_lt (by with_reducible assumption) (by with_reducible assumption) | exact lp_sz' (by with_reducible assumption) (by with_reducible assumption) (by with_reducible assumption) (by with_reducible assumption)
  k_with "ctg" => ((case hP => first | exact fun _ _ _ h => h | exact fun _ _ k h => h.at fun o e => k _ o e); (case k6 => k_is); (case k7 => k_is); (case k9 => (intro s; exact BindsTo.of_eq rfl)); (case kB => exact locs rfl); (case c5 => decide); (case c2 => exact rfl); (case c3 => exact rfl); (case c4 => exact rfl); (case c6 => decide))
  k_with "PEndG" => (refine' pendT ?zzF ?zzN ?zzm1 ?zzm2 ?zzhb ?zzh0 ?zzh1 ?zzE; (case zzF => k_asm); (case zzN => k_asm); (case zzm1 => k_mem); (case zzm2 => k_mem); (case zzE => exact rfl); (case zzh0 => omega); (case zzh1 => omega))
  k_with "binaryOp FloorDiv int int" => (k_here; k_dflt (refine' fdiv_gen16 ?zza ?zzb ?zzc ?_; (case zza => omega); (case zzb => omega); (case zzc => omega)); intro _ _ _ _)
  k_with "call builtin:list.pop" => (k_here; k_dflt (refine' pop0 ?zzF ?zzN ?zzU ?zzz ?_; (case zzF => k_asm); (case zzN => k_asm); (case zzU => k_upd); (case zzz => omega)); intro _ _ N'; (try dsimp only [List.nil_append, List.cons_append] at N'))
  k_with "m_bnd" => first | assumption | omega | (have hSg := sg_t (by assumption); omega) | (have hSg := sg_f (by assumption); omega)
  k_with "m_i" => first | k_asm | exact one_ints (by assumption) | exact nil_ints | exact two_ints (by assumption)
  k_with "call ref" => (k_here; (with_reducible show wpAny _ _ (call (Value.ref 60) _ _) _ _ _); k_dflt (refine' use_L ?zzB ?zzF ?zzX ?zzN ?zzT ?zzK (cc_add ?zzz1 ?zzz2 ?zzi1 ?zzi2 ?zzb1 ?zzb2) ?zzS ?zzD ?zzU ?_; (k_extra "m_use"); (case zzi1 => k_extra "m_i"); (case zzi2 => k_extra "m_i"); (case zzz1 => assumption); (case zzz2 => assumption); (case zzb1 => k_extra "m_bnd"); (case zzb2 => k_extra "m_bnd")); intro _ _ _ _ _ _ _ _; (try k_sweep))
  k_with "call ref" => (k_here; (with_reducible show wpAny _ _ (call (Value.ref 67) _ _) _ _ _); k_dflt (refine' use_L ?zzB ?zzF ?zzX ?zzN ?zzT ?zzK (cc_sub ?zzz1 ?zzz2 ?zzi1 ?zzi2 ?zzb1 ?zzb2) ?zzS ?zzD ?zzU ?_; (k_extra "m_use"); (case zzi1 => k_extra "m_i"); (case zzi2 => k_extra "m_i"); (case zzz1 => assumption); (case zzz2 => assumption); (case zzb1 => k_extra "m_bnd"); (case zzb2 => k_extra "m_bnd")); intro _ _ _ _ _ _ _ _; (try k_sweep))
  k_with "call ref" => (k_here; (with_reducible show wpAny _ _ (call (Value.ref 53) _ _) _ _ _); k_dflt (refine' use_I ?zzB ?zzF ?zzX ?zzN ?zzT ?zzK (cc_compare ?zzz1 ?zzi1 ?zzi2 ?zzb1 ?zzb2) ?zzS ?zzD ?zzU ?_; (k_extra "m_use"); (case zzi1 => k_extra "m_i"); (case zzi2 => k_extra "m_i"); (case zzz1 => assumption); (case zzb1 => k_extra "m_bnd"); (case zzb2 => k_extra "m_bnd")); intro _ _ _ _ _; (try k_sweep))
  k_with "call ref" => (k_here; (with_reducible show wpAny _ _ (call (Value.ref 74) _ _) _ _ _); k_dflt (refine' use_L ?zzB ?zzF ?zzX ?zzN ?zzT ?zzK (cc_add_limb ?zzz1 ?zzz2 ?zzi1 ?zzb1) ?zzS ?zzD ?zzU ?_; (k_extra "m_use"); (case zzi1 => k_extra "m_i"); (case zzz1 => assumption); (case zzz2 => assumption); (case zzb1 => k_extra "m_bnd")); intro _ _ _ _ _ _ _ _; (try k_sweep))
  k_with "call ref" => (k_here; (with_reducible show wpAny _ _ (call (Value.ref 81) _ _) _ _ _); k_dflt (refine' use_L ?zzB ?zzF ?zzX ?zzN ?zzT ?zzK (cc_shift_left ?zzz1 ?zzz2 ?zzi1 ?zzb1 ?zzb2 ?zzb3) ?zzS ?zzD ?zzU ?_; (k_extra "m_use"); (case zzi1 => k_extra "m_i"); (case zzz1 => assumption); (case zzz2 => assumption); (case zzb1 => k_extra "m_bnd"); (case zzb2 => k_extra "m_bnd"); (case zzb3 => k_extra "m_bnd")); intro _ _ _ _ _ _ _ _; (try k_sweep))
  k_with "call ref" => (k_here; (with_reducible show wpAny _ _ (call (Value.ref 88) _ _) _ _ _); k_dflt (refine' use_L ?zzB ?zzF ?zzX ?zzN ?zzT ?zzK (cc_shift_right ?zzz1 ?zzz2 ?zzi1 ?zzb1 ?zzb2 ?zzb3) ?zzS ?zzD ?zzU ?_; (k_extra "m_use"); (case zzi1 => k_extra "m_i"); (case zzz1 => assumption); (case zzz2 => assumption); (case zzb1 => k_extra "m_bnd"); (case zzb2 => k_extra "m_bnd"); (case zzb3 => k_extra "m_bnd")); intro _ _ _ _ _ _ _ _; (try k_sweep))
  k_with "call ref" => (k_here; (with_reducible show wpAny _ _ (call (Value.ref 95) _ _) _ _ _); k_dflt (refine' use_I ?zzB ?zzF ?zzX ?zzN ?zzT ?zzK (cc_bit ?zzz1 ?zzz2 ?zzi1 ?zzb1 ?zzb2 ?zzb3) ?zzS ?zzD ?zzU ?_; (k_extra "m_use"); (case zzi1 => k_extra "m_i"); (case zzz1 => assumption); (case zzz2 => assumption); (case zzb1 => k_extra "m_bnd"); (case zzb2 => k_extra "m_bnd"); (case zzb3 => k_extra "m_bnd")); intro _ _ _ _ _; (try k_sweep))
  k_with "call ref" => (k_here; (with_reducible show wpAny _ _ (call (Value.ref 102) _ _) _ _ _); k_dflt (refine' use_L ?zzB ?zzF ?zzX ?zzN ?zzT ?zzK (cc_low ?zzz1 ?zzz2 ?zzi1 ?zzb1 ?zzb2 ?zzb3) ?zzS ?zzD ?zzU ?_; (k_extra "m_use"); (case zzi1 => k_extra "m_i"); (case zzz1 => assumption); (case zzz2 => assumption); (case zzb1 => k_extra "m_bnd"); (case zzb2 => k_extra "m_bnd"); (case zzb3 => k_extra "m_bnd")); intro _ _ _ _ _ _ _ _; (try k_sweep))
  k_with "call ref" => (k_here; (with_reducible show wpAny _ _ (call (Value.ref 209) _ _) _ _ _); k_dflt (refine' use_S ?zzB ?zzF ?zzX ?zzN ?zzT ?zzK (cc_signed ?zzz1 ?zzi1 ?zzb1) ?zzS ?zzD ?zzU ?_; (k_extra "m_use"); (case zzi1 => k_extra "m_i"); (case zzz1 => assumption); (case zzb1 => k_extra "m_bnd")); intro _ _ _ _ _ _ _ _ _ _; (try k_sweep))
  k_with "call ref" => (k_here; (with_reducible show wpAny _ _ (call (Value.ref 188) _ _) _ _ _); k_dflt (refine' use_I ?zzB ?zzF ?zzX ?zzN ?zzT ?zzK (cc_nat_ones ?zzz1 ?zzz2 ?zzi1 ?zzb1) ?zzS ?zzD ?zzU ?_; (k_extra "m_use"); (case zzi1 => k_extra "m_i"); (case zzz1 => assumption); (case zzz2 => assumption); (case zzb1 => k_extra "m_bnd")); intro _ _ _ _ _; (try k_sweep))
  k_with "m_rest" => first | exact RestOf.nil | exact RestOf.opaque (by assumption) | (with_reducible refine' RestOf.dropB ?zza; (case zza => k_extra "m_rest")) | (with_reducible refine' RestOf.dropI ?zza; (case zza => k_extra "m_rest")) | (refine' RestOf.keep ?zza ?zzb ?zzc; (case zza => k_ne); (case zzb => k_ne); (case zzc => k_extra "m_rest"))
  k_with "m_useM" => ((case zzB => k_asm); (case zzF => k_asm); (case zzX => k_asm); (case zzN => k_asm); (case zzT => k_asm); (case zzK => first | exact rfl | assumption); (case zzm1 => k_mem); (case zzm2 => k_mem); (case zzR => k_extra "m_rest"); (case zzD => first | exact dlt (by assumption) (by decide) | omega); (case zzU => first | exact ult (by assumption) (by decide) | omega))
  k_with "call ref" => (k_here; (with_reducible show wpAny _ _ (call (Value.ref 251) _ _) _ _ _); k_dflt (refine' use_T ?zzB ?zzF ?zzX ?zzN ?zzT ?zzK (ct_take ?zzne ?zzbx ?zzb1 ?zzb2) ?zzm1 ?zzm2 ?zzR ?zzD ?zzU ?_; (k_extra "m_useM"); (case zzne => assumption); (case zzbx => assumption); (case zzb1 => k_extra "m_bnd"); (case zzb2 => k_extra "m_bnd")); intro _ _ _ _ _ _ _ _ _ _ _ _ _ _; (try k_sweep))
  k_with "m_room" => first | omega | (have hRm := room1 (by assumption) (by assumption) (by assumption); omega)
  k_with "call ref" => (k_here; (with_reducible show wpAny _ _ (call (Value.ref 244) _ _) _ _ _); k_dflt (refine' use_L0 ?zzB ?zzF ?zzX ?zzN ?zzT ?zzK (ct_law_limbs ?zzz1 ?zzz2 ?zzb1 ?zzb2) ?zzD ?zzU ?_; (k_extra "m_useL"); (case zzz1 => assumption); (case zzz2 => assumption); (case zzb1 => first | k_extra "m_bnd" | exact abs0 _); (case zzb2 => first | k_extra "m_bnd" | exact abs1 (by k_extra "m_room"))); intro _ _ _ _ _ hne' _ _ _; (try dsimp only [NeAll] at hne'); (try k_sweep))
  k_with "m_useL" => ((case zzB => k_asm); (case zzF => k_asm); (case zzX => k_asm); (case zzN => k_asm); (case zzT => k_asm); (case zzK => first | exact rfl | assumption); (case zzD => first | exact dlt (by assumption) (by decide) | omega); (case zzU => first | exact ult (by assumption) (by decide) | omega))
  exact True.intro
noncomputable def BoxRes (nx : Led) (r : Value) : Prop := ∃ bo bi i t c us c', r = .ref bo ∧ nx = [(bo, boxB bi i t c), (bi, listOf (List.toArray us) c')] ∧ @Ne Nat bo bi ∧ BoxN us i
theorem pendB {g : Heap} {s s' : Shared} {L' : Addr} {m' : Str → Option Value} {FL : Led} {bo bi : Addr} {i : Int} {t : Tok} {c c' : Nat} {us : List Value}
    (F : Fr g L' s'.heap m') (N : News g L' s'.heap FL) (hB : (bo, boxB bi i t c) ∈ FL) (hI : (bi, listOf (List.toArray us) c') ∈ FL) (hb : BoxN us i) (hn : @Ne Nat bo bi) (e : s' = { s with heap := s'.heap, toks := s'.toks }) : PEndG g BoxRes s (.ref bo) s' :=
  pendG F (nx := [(bo, boxB bi i t c), (bi, listOf (List.toArray us) c')]) (fun p hp => by
    rcases List.mem_cons.mp hp with rfl | hp
    · exact N _ hB
    rcases List.mem_cons.mp hp with rfl | hp
    · exact N _ hI
    · exact nomatch hp) ⟨bo, bi, i, t, c, us, c', rfl, rfl, hn, hb⟩ e
theorem box_start : 0 ≤ (19 : Int) ∧ (19 : Int) < 1000003 := by decide
theorem box_end {ys : List Value} {ns : List Int} {i : Int} (h : IntsAre ys (List.map (fun k' => if k' < 0 then -k' else k') (List.take 40 ns))) (hi : 0 ≤ i ∧ i < 1000003) : BoxN ys i := by
  refine ⟨_, h, fun n hn => ?_, ?_, hi⟩
  · obtain ⟨k, _, rfl⟩ := List.mem_map.mp hn
    split <;> omega
  · rw [List.length_map, List.length_take]
    omega
theorem rows31 : True := by
  k_with "PEndG" => (refine' pendB ?zzF ?zzN ?zzm1 ?zzm2 ?zzhb ?zzn ?zzE; (case zzF => k_asm); (case zzN => k_asm); (case zzm1 => k_mem); (case zzm2 => k_mem); (case zzhb => assumption); (case zzn => omega); (case zzE => exact rfl))
  exact True.intro
theorem ct_law_box {l : Addr} {vs : List Value} {ns : List Int} (iv : IntsAre vs ns) (hn : ns.length < 64) :
    CtG w mean mg mb 2 256 [.ref l] (fun h => h.IsList l vs.toArray) [] BoxRes := by
  k_dflt (refine' ct_ofG (binds := [(PySem.Str.ofString "script", .ref l)]) ?hP ?k6 ?k7 ?k9 ?kB ?c5 ?c2 ?c3 ?c4 ?_ ?c6)
  walk_at "ctg"
  intro dp un gd outer A₀ base g L' s hd1 hu F N B XK Ph T hl
  (try simp only [List.reverse_cons, List.reverse_nil, List.nil_append, List.cons_append] at F)
  k_fold
  k_with "pyIter ref" => k_dflt (refine hold ?_)
  k_steps
  unfold Hold
  rename_i kD1 kWs1 kH1 kI1 kC1 kL1 kl1 kv kv1 kG kI8 kL8 kD2 kH2 ktk ko kBx kH3 kl2 kH4 kD kWs kH5 lF' lN' kI9 kC9 kL9 kl9
  k_dflt (refine' kst_listL (σ := Int × Tok) (nn := 0) (fun c => [(kD, listOf (List.toArray kWs) 0), (kBx, boxB kD2 c.1 c.2 0), (kD2, listOf (List.toArray ys) ys.length)]) (fun c => []) (fun c => True) [] (fun pre c => 0 ≤ c.1 ∧ c.1 < 1000003) (19, ktk) (by rfl) (fun _ => .head _) kI9 lF' (kst_newsOf lN' ?kn) trivial ?kk box_start ?_ ?_)
  case kn =>
    intro p hp
    rcases List.mem_cons.mp hp with rfl | hp
    · exact .head _
    rcases List.mem_cons.mp hp with rfl | hp
    · exact .tail _ (.head _)
    rcases List.mem_cons.mp hp with rfl | hp
    · exact .tail _ (.tail _ (.head _))
    · exact nomatch hp
  case kk => kst_all
  · intro kC kPre kPost kN kT kU kH kTk kOwn kEq kMem kOff kFacts kInv kFr kNews
    have kMark := kstMark
    clear lF' lN'
    obtain ⟨kI, kIt⟩ := kC
    dsimp only [List.map_cons, List.map_nil] at kFacts kInv kNews kOff
    dsimp only [kstB, List.contains_nil] at kFr
    simp only [List.cons_append, List.nil_append] at kNews
    have kInv1 := kInv.1
    have kInv2 := kInv.2
    k_with "state" => exact box_turn _
    try k_fold
    k_steps
  · intro kC kU kH kTk kFacts kInv kFr kNews
    clear lF' lN'
    obtain ⟨kI, kIt⟩ := kC
    dsimp only at kFacts kInv kNews
    dsimp only [kstB, List.contains_nil] at kFr
    have hbn := box_end kI8 kInv
    try k_fold
    k_steps

-- part Va
theorem rows32 : True := by
  k_with_none
  k_with "ct" => ((case k6 => k_is); (case k7 => k_is); (case k9 => (intro s; exact BindsTo.of_eq rfl)); (case kB => exact locs rfl); (case c5 => decide); (case c2 => exact rfl); (case c3 => exact rfl); (case c4 => exact rfl); (case c6 => decide))
  k_with "ctc" => ((case k6 => k_is); (case k7 => k_is); (case k9 => (intro s; exact BindsTo.of_eq rfl)); (case kB => exact rfl); (case kD => decide +kernel); (case c2 => exact rfl); (case c3 => exact rfl); (case c4 => exact rfl); (case c6 => decide))
  k_with "m_mem" => first | exact List.mem_cons_self | (refine List.mem_cons_of_mem _ ?_; k_extra "m_mem")
  k_with "m_sub" => first | exact True.intro | (refine' And.intro ?zzm1 ?zzm2; (case zzm1 => first | (with_reducible k_extra "m_mem") | k_mem); (case zzm2 => k_extra "m_sub"))
  k_with "PEnd" => (refine' pend ?zzF ?zzN ?zzS ?_ ?zzE; (case zzF => k_asm); (case zzN => k_asm); (case zzS => k_extra "m_sub"); (case zzE => exact rfl); (try dsimp only))
  k_with "SRes" => (refine' sres_of ?zzm1 ?zzm2 ?zzm3 ?_ ?_; (case zzm1 => k_mem); (case zzm2 => k_mem); (case zzm3 => k_asm))
  k_with "LRes" => (refine' lres_of ?zzm2 ?zzm3 ?_; (case zzm2 => k_mem); (case zzm3 => first | k_asm | exact IntsAre.nil | l_ints))
  k_with "LRes" => (refine' lres_push ?zzm2 ?zzm3 ?_; (case zzm2 => k_mem); (case zzm3 => k_asm))
  k_with "IRes" => (refine' ires_of ?_)
  k_with "ORes" => first | refine' ores_none ?_ | refine' ores_some ?_
  k_with "BRes" => (refine' bres_of ?_)
  k_with "binaryOp FloorDiv int int" => (k_here; k_dflt (refine' fdiv_gen ?zza ?zzb ?zzc ?_; (case zza => omega); (case zzb => omega); (case zzc => omega)); intro _ _ _ _)
  k_with "binaryOp Mod int int" => (k_here; k_dflt (refine' fmod_gen ?zza ?zzb ?_; (case zza => omega); (case zzb => omega)); intro _ _ _ _)
  k_with "binaryOp FloorDiv int int" => (k_here; k_dflt (refine' fdiv_known ?zze ?zzb ?zzc ?_; (case zze => assumption); (case zzb => omega); (case zzc => omega)))
  k_with "binaryOp Mod int int" => (k_here; k_dflt (refine' fmod_known ?zze ?zzb ?_; (case zze => assumption); (case zzb => omega)))
  k_with "m_abs" => first | omega | exact LimbB.abs (by assumption) (by assumption) | exact LimbB.absAt (by assumption) _
  k_with "binaryOp LShift int int" => (k_here; k_dflt (refine' lshift_int_small ?zza ?zzb ?zzc ?_; (case zza => omega); (case zzb => omega); (case zzc => k_extra "m_abs")))
  k_with "binaryOp RShift int int" => (k_here; k_dflt (refine' rshift_int ?zza ?_; (case zza => omega)))
  k_with "m_use" => ((case zzB => k_asm); (case zzF => k_asm); (case zzX => k_asm); (case zzN => k_asm); (case zzT => k_asm); (case zzK => first | exact rfl | assumption); (case zzS => k_extra "m_sub"); (case zzD => first | exact dlt (by assumption) (by decide) | omega); (case zzU => first | exact ult (by assumption) (by decide) | omega))
  k_with "subscriptTail Name Slice ref ref" => (k_here; k_dflt (refine' kmk_slice_ints ?zzF ?zzN ?zzl ?zzp ?zzq ?zzi ?zzm ?zzc ?_ ?zzs ?zzt ?zzz; (case zzF => k_asm); (case zzN => k_asm); (case zzl => exact News.isList (by k_asm) (by k_mem)); (case zzp => kmk_part); (case zzq => kmk_part); (case zzi => k_asm); (case zzm => first | exact kmk_all (by assumption) | exact kmk_upto (by assumption) (by omega)); (case zzc => kmk_len); (case zzs => with_unfolding_all rfl); (case zzt => kmk_pure); (case zzz => exact kmk_sz (by assumption) (by rw [sizeLine_eq]; omega))); intro _ _ _ _ _ l1 _ _ _; (try k_lt l1); (try k_sweep))
  k_with "InvEndN" => k_dflt kst_close
  exact True.intro
theorem add_w {prog : Program} {wd : World} {A : Around} {E : Value → Shared → Prop} {s : Shared} {Q : Value → Shared → Prop} {j : Int} {t u : Tok} (h0 : 0 ≤ j) (h1 : j < 8) (h : ∀ z : Nat, 2 ≤ z → z ≤ 9 → Q (.int (z : Int) s.toks) { s with toks := s.toks + 1 }) :
    wpAny (model prog wd) A (binaryOp .Add (.int 2 t) (.int j u)) Q E s := by
  have e : (2 : Int) + j = ((2 + j.toNat : Nat) : Int) := by omega
  refine add_int ?_
  rw [e]
  exact h _ (by omega) (by omega)
theorem room3 {z : Nat} (hz : z ≤ 9) : 1 ≤ (1 : Int) * 2 ^ (3 * (z : Int)).toNat ∧ (1 : Int) * 2 ^ (3 * (z : Int)).toNat < 2 ^ 40 := by
  have h1 : (2 : Nat) ^ (3 * (z : Int)).toNat < 2 ^ 40 := Nat.pow_lt_pow_right (by decide) (by omega)
  have h2 := Nat.two_pow_pos (3 * (z : Int)).toNat
  rw [← kbt_cast]; omega
section
variable {w : World} {mean : ExcName → Option Value} {mg mb : Str → Option Value} {k : Nat} {f : Addr} {vs : List Value} {FL : Led} {P : Heap → Prop}
  {dp un : Nat} {gd : Option (List Code)} {cn : Str} {cs : Scope} {a : Addr} {ccd : Value} {cl : List (Str × Addr)} {outer : List Env} {A₀ : Around} {base h₀ : Heap} {L : Addr} {m : Str → Option Value} {s : Shared} {Q E : Value → Shared → Prop}
theorem use_Box (Bl : Below A₀ base outer h₀) (F : Fr h₀ L s.heap m) (X : (hd.heap_1 w.params).In h₀) (hP : P h₀) (N : News h₀ L s.heap FL) (T : TopM mean mg mb h₀) (hk : cs.kind = .function)
    (C : CtG w mean mg mb k f vs P [] BoxRes) (hd : dp + k < 1000) (hu : un + 8 * k < 9900)
    (h : ∀ bo bi i t c us c' h' tk', @Ne Nat bo bi → BoxN us i → Fr h₀ L h' m → News h₀ L h' ((bo, boxB bi i t c) :: (bi, listOf (List.toArray us) c') :: FL) → Q (.ref bo) { s with heap := h', toks := tk' }) :
    wpAny (model PySem.Challenge.rw_nz0085_01.row.prog w) (ktrTop dp un gd cn cs L a ccd cl outer) (call (.ref f) vs) Q E s := by
  refine C dp un gd cn cs a ccd cl outer A₀ base h₀ L m s Q E Bl F X hP (fun p hp => nomatch hp) T hk hd hu ?_
  rintro r nx h' tk' F' keep N' - ⟨bo, bi, i, t, c, us, c', rfl, rfl, hn, hb⟩
  refine h bo bi i t c us c' h' tk' hn hb F' (fun p hp => ?_)
  rcases List.mem_cons.mp hp with rfl | hp
  · exact N' _ (.head _)
  rcases List.mem_cons.mp hp with rfl | hp
  · exact N' _ (.tail _ (.head _))
  exact ⟨keep _ _ (fun h => nomatch h) (N p hp).1, (N p hp).2⟩
end
theorem rows33 : True := by
  k_with "m_rest" => first | exact RestOf.nil | exact RestOf.opaque (by assumption) | (with_reducible refine' RestOf.dropB ?zza; (case zza => k_extra "m_rest")) | (with_reducible refine' RestOf.dropI ?zza; (case zza => k_extra "m_rest")) | (refine' RestOf.keep ?zza ?zzb ?zzc; (case zza => k_ne); (case zzb => k_ne); (case zzc => k_extra "m_rest"))
  k_with "m_useM" => ((case zzB => k_asm); (case zzF => k_asm); (case zzX => k_asm); (case zzN => k_asm); (case zzT => k_asm); (case zzK => first | exact rfl | assumption); (case zzm1 => k_mem); (case zzm2 => k_mem); (case zzR => k_extra "m_rest"); (case zzD => first | exact dlt (by assumption) (by decide) | omega); (case zzU => first | exact ult (by assumption) (by decide) | omega))
  k_with "call ref" => (k_here; (with_reducible show wpAny _ _ (call (Value.ref 251) _ _) _ _ _); k_dflt (refine' use_T ?zzB ?zzF ?zzX ?zzN ?zzT ?zzK (ct_take ?zzne ?zzbx ?zzb1 ?zzb2) ?zzm1 ?zzm2 ?zzR ?zzD ?zzU ?_; (k_extra "m_useM"); (case zzne => assumption); (case zzbx => assumption); (case zzb1 => k_extra "m_bnd"); (case zzb2 => k_extra "m_bnd")); intro _ _ _ _ _ _ _ _ _ _ _ _ _ _; (try k_sweep))
  k_with "m_room" => first | omega | (have hRm := room1 (by assumption) (by assumption) (by assumption); omega)
  k_with "call ref" => (k_here; (with_reducible show wpAny _ _ (call (Value.ref 244) _ _) _ _ _); k_dflt (refine' use_L0 ?zzB ?zzF ?zzX ?zzN ?zzT ?zzK (ct_law_limbs ?zzz1 ?zzz2 ?zzb1 ?zzb2) ?zzD ?zzU ?_; (k_extra "m_useL"); (case zzz1 => assumption); (case zzz2 => assumption); (case zzb1 => first | k_extra "m_bnd" | exact abs0 _); (case zzb2 => first | k_extra "m_bnd" | exact abs1 (by k_extra "m_room"))); intro _ _ _ _ _ hne' _ _ _; (try dsimp only [NeAll] at hne'); (try k_sweep))
  k_with "m_useL" => ((case zzB => k_asm); (case zzF => k_asm); (case zzX => k_asm); (case zzN => k_asm); (case zzT => k_asm); (case zzK => first | exact rfl | assumption); (case zzD => first | exact dlt (by assumption) (by decide) | omega); (case zzU => first | exact ult (by assumption) (by decide) | omega))
  k_with "m_room" => first | omega | (have hRm := room3 (by assumption); omega)
  k_with "m_D" => first | exact dlt (by assumption) (by decide) | omega | exact Nat.lt_of_ble_eq_true (by with_unfolding_all rfl) | decide
  k_with "m_useV" => ((case zzB => k_asm); (case zzF => k_asm); (case zzX => k_asm); (case zzN => k_asm); (case zzT => k_asm); (case zzK => first | exact rfl | assumption); (case zzD => k_extra "m_D"); (case zzU => k_extra "m_D"))
  k_with "binaryOp Add int int" => (k_here; k_dflt (refine' add_w ?zza ?zzb ?_; (case zza => assumption); (case zzb => assumption)); intro _ _ _)
  k_with "m_iV" => first | k_asm | exact one_intsN (by assumption) | exact two_intsN (by assumption) | exact nil_intsP
  k_with "m_sg" => first | exact rfl | exact (sg_ge (by k_extra "m_room")).symm
  k_with "call ref" => (k_here; (with_reducible show wpAny _ _ (call (Value.ref 256) _ _) _ _ _); k_dflt (refine' use_Box ?zzB ?zzF ?zzX ?zzP ?zzN ?zzT ?zzK (ct_law_box ?zziv ?zzhn) ?zzD ?zzU ?_; (k_extra "m_useV"); (case zzP => assumption); (case zziv => k_asm); (case zzhn => omega)); intro _ _ _ _ _ _ _ _ _ _ _ _ _; (try k_sweep))
  k_with "call ref" => (k_here; (with_reducible show wpAny _ _ (call (Value.ref 251) _ _) _ _ _); k_dflt (refine' use_T ?zzB ?zzF ?zzX ?zzN ?zzT ?zzK (ct_take ?zzne ?zzbx ?zzb1 ?zzb2) ?zzm1 ?zzm2 ?zzR ?zzD ?zzU ?_; (k_extra "m_useV"); (case zzm1 => k_mem); (case zzm2 => k_mem); (case zzR => k_extra "m_rest"); (case zzne => assumption); (case zzbx => assumption); (case zzb1 => omega); (case zzb2 => omega)); intro _ _ _ _ _ _ _ _ _ _ _ _ _ _; (try k_sweep))
  k_with "call ref" => (k_here; (with_reducible show wpAny _ _ (call (Value.ref 263) _ _) _ _ _); k_dflt (refine' use_D ?zzB ?zzF ?zzX ?zzN ?zzT ?zzK (ct_drawn ?zzz1 ?zzz2 ?zzne ?zzbx) ?zzm1 ?zzm2 ?zzR ?zzD ?zzU ?_; (k_extra "m_useV"); (case zzm1 => k_mem); (case zzm2 => k_mem); (case zzR => k_extra "m_rest"); (case zzne => assumption); (case zzbx => assumption); (case zzz1 => assumption); (case zzz2 => assumption)); intro _ _ _ _ _ _ _ _ _ _ _ _ _ _ _ _ _ _ _ _ _ _; (try k_sweep))
  k_with "call ref" => (k_here; (with_reducible show wpAny _ _ (call (Value.ref 244) _ _) _ _ _); k_dflt (refine' use_L0 ?zzB ?zzF ?zzX ?zzN ?zzT ?zzK (ct_law_limbs ?zzz1 ?zzz2 ?zzb1 ?zzb2) ?zzD ?zzU ?_; (k_extra "m_useV"); (case zzz1 => assumption); (case zzz2 => assumption); (case zzb1 => k_extra "m_room"); (case zzb2 => k_extra "m_room")); intro _ _ _ _ _ hne' _ _ _; (try dsimp only [NeAll] at hne'); (try k_sweep))
  k_with "call ref" => (k_here; (with_reducible show wpAny _ _ (call (Value.ref 270) _ _) _ _ _); k_dflt (refine' use_B ?zzB ?zzF ?zzX ?zzN ?zzT ?zzK (cb_two_right ?zzz1 ?zzz2 ?zzh1 ?zzh2 ?zzi1 ?zzi2 ?zzb1 ?zzb2) ?zzS ?zzD ?zzU ?_; (k_extra "m_useV"); (case zzS => k_extra "m_sub"); (case zzi1 => k_extra "m_iV"); (case zzi2 => k_extra "m_iV"); (case zzz1 => assumption); (case zzz2 => assumption); (case zzh1 => k_extra "m_sg"); (case zzh2 => k_extra "m_sg"); (case zzb1 => k_extra "m_room"); (case zzb2 => k_extra "m_room")); intro _ _ _ _; (try k_sweep))
  k_with "call ref" => (k_here; (with_reducible show wpAny _ _ (call (Value.ref 277) _ _) _ _ _); k_dflt (refine' use_B ?zzB ?zzF ?zzX ?zzN ?zzT ?zzK (cb_place_right ?zzz1 ?zzz2 ?zzh1 ?zzi1 ?zzb1 ?zzb2 ?zzb3) ?zzS ?zzD ?zzU ?_; (k_extra "m_useV"); (case zzS => k_extra "m_sub"); (case zzi1 => k_extra "m_iV"); (case zzz1 => assumption); (case zzz2 => assumption); (case zzh1 => k_extra "m_sg"); (case zzb1 => k_extra "m_room"); (case zzb2 => omega); (case zzb3 => omega)); intro _ _ _ _; (try k_sweep))
  k_with "call ref" => (k_here; (with_reducible show wpAny _ _ (call (Value.ref 284) _ _) _ _ _); k_dflt (refine' use_B ?zzB ?zzF ?zzX ?zzN ?zzT ?zzK (cb_far_right ?zzz1 ?zzz2 ?zzh1 ?zzh2 ?zzh3 ?zzi1 ?zzi2 ?zzi3 ?zzb1 ?zzb2 ?zzb3) ?zzS ?zzD ?zzU ?_; (k_extra "m_useV"); (case zzS => k_extra "m_sub"); (case zzi1 => k_extra "m_iV"); (case zzi2 => k_extra "m_iV"); (case zzi3 => k_extra "m_iV"); (case zzz1 => assumption); (case zzz2 => assumption); (case zzh1 => k_extra "m_sg"); (case zzh2 => k_extra "m_sg"); (case zzh3 => k_extra "m_sg"); (case zzb1 => k_extra "m_room"); (case zzb2 => k_extra "m_room"); (case zzb3 => k_extra "m_room")); intro _ _ _ _; (try k_sweep))
  k_with "m_go" => repeat' (first | (k_unfold; (try dsimp only [List.nil_append, List.cons_append])) | (k_end; wrow_close) | walk1 | (dsimp only; walk1) | (leave1; (try dsimp only)) | fail "no step")
  k_with "eval Call" => k_fold
  k_with "isTrue Compare" => k_fold
  k_with "eval BoolOp" => k_fold
  k_with "isTrue BoolOp" => k_fold
  k_with "eval Tuple" => k_fold
  exact True.intro
theorem end_none (w : List Int) : ∀ ct ∈ PySem.Challenge.rw_nz0085_01.row.raises, WTm.holds PySem.Challenge.rw_nz0085_01.row.records ct.snd { args := [ofPy (PyData.list (List.map PyData.int w))] } = false := by wrow_none_raised
theorem end_post (w : List Int) : PySem.Challenge.rw_nz0085_01.row.claim.post [ofPy (PyData.list (List.map PyData.int w))] (WData.bool true) [ofPy (PyData.list (List.map PyData.int w))] = true := by wrow_post
theorem law_holds : PySem.Challenge.rw_nz0085_01.Holds := hd (by
  k_go0
  all_goals try k_fold
  repeat' (first | (k_unfold; (try dsimp only [List.nil_append, List.cons_append])) | walk1 | (dsimp only; walk1) | (leave1; (try dsimp only)) | fail "no step")
  exact goodW_bool (by assumption) (by assumption) (raisesW_false (end_none _)) (end_post _))
end Mine

set_option maxRecDepth 100000 in
set_option maxHeartbeats 8000000 in
theorem PySem.Challenge.cw_nz0085_01_holds : PySem.Challenge.rw_nz0085_01.Holds := by
  exact Mine.law_holds
