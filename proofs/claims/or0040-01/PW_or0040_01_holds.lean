import PyProof.Rows.All

import Wide.All

import OpenK.AllK

import Wide.FinOn

import PySem.Challenge.RW_or0040_01

set_option Elab.async false

section PartHd
open PySem PySem.W PyProof.Rows
namespace Mine
-- the view: the program with four statements of its text left out (numbers 1, 4, 7 and 21)
noncomputable abbrev hd.pick {p : Program} {a0 a1 a2 a3 a4 a5 a6 a7 a8 a9 a10 a11 a12 a13 a14 a15 a16 a17 a18 a19 a20 a21 a22 : Stmt} (_ : p.main.body = [a0, a1, a2, a3, a4, a5, a6, a7, a8, a9, a10, a11, a12, a13, a14, a15, a16, a17, a18, a19, a20, a21, a22]) : Program :=
  { p with main := { p.main with body := [a0, a2, a3, a5, a6, a8, a9, a10, a11, a12, a13, a14, a15, a16, a17, a18, a19, a20, a22] } }
noncomputable abbrev hd.row : OpenRow := OpenLaw.row PySem.Challenge.rw_or0040_01
noncomputable def hd.view_39 : Program := hd.pick (p := (OpenRow.toRowW hd.row).prog) rfl
-- a run of the text's top over a tree of objects, the step and the check given
def treeRun (st : SharedT → Thread → Option (SharedT × Thread)) (ok : Thread → Bool) : Nat → SharedT → Thread → Option SharedT
  | 0, _, _ => none
  | n + 1, s, t => match through t with
    | true => some s
    | false => match ok t with
      | false => none
      | true => match st s t with
        | some r => treeRun st ok n r.1 r.2
        | none => none
theorem treeRun_top {tb : String → Option Builtin} {p : Program} {w : World} {n₀ : Nat} {ann : Option Value} : ∀ {n : Nat} {s s' : SharedT} {t : Thread},
    treeRun (stepT (denote tb) p w) (stepOk n₀ ann) n s t = some s' → topRun tb p w n₀ ann n s.abs t = some s'.abs
  | 0, _, _, _, h => by cases h
  | n + 1, s, s', t, h => by
    unfold treeRun at h
    unfold topRun
    cases e : through t with
    | true => rw [e] at h; cases h; rfl
    | false =>
      rw [e] at h
      cases k : stepOk n₀ ann t with
      | false => rw [k] at h; cases h
      | true =>
        rw [k] at h
        cases q : stepT (denote tb) p w s t with
        | none => rw [q] at h; cases h
        | some r => obtain ⟨s₂, t₂⟩ := r; rw [q] at h; dsimp only at h ⊢; rw [stepT_spec q]; exact treeRun_top h
def treeOf (l : List Obj) : Nat → Nat → Nat → BT
  | 0, _, _ => .nil
  | n + 1, a, b => match l[b]? with
    | some o => .node o (treeOf l n (2 * a) (a + b)) (treeOf l n (2 * a) (2 * a + b))
    | none => .nil
noncomputable def bootAt (w : World) (os : OsState) : SharedT := ⟨treeOf (boot_heap w.params).objs.toList 5 1 0, 11, (boot_heap w.params).life, Array.mk [], boot_drawn, boot_toks, os⟩
-- the opening of a plain text is a lemma of the kit; the rest of the head is one run from there
theorem left_of_boot {p q : Program} {loose : List Str} {Xt : Shared → Bool} {α : Type} {Yf : Shared → α} {Ya : World → α} {N m₀ k₀ : Nat} {ann : Option Value} {H : Params → Heap} {d₀ : Drawn} {T : World → OsState → SharedT}
    (op : ∀ w : World, (fencedOpening treeTable p w N).map (fun s => (s.heap, s.gens, s.drawn, s.toks)) = some (H w.params, Array.mk [], d₀, k₀))
    (size : ∀ w : World, ((H w.params).isNs mainGlobals, (H w.params).objs.size, (H w.params).nsMap mainGlobals "__annotations__") = (true, m₀, ann))
    (tree : ∀ (w : World) (os : OsState), ⟨H w.params, Array.mk [], d₀, k₀, os⟩ = (T w os).abs)
    (run : ∀ (w : World) (os : OsState), (treeRun (stepT (denote treeTable) p w) (stepOk m₀ ann) N (T w os) (topStub p)).map (fun t =>
      (staticsOk (importedModules p.main.body) (H w.params) t.abs.heap && namesBound p t.abs.heap && gensDone t.abs && laidKept (H w.params) t.abs.heap, Yf t.abs)) = some (true, Ya w))
    (look : ∀ (w : World) (os : OsState), (treeRun (stepT (denote treeTable) p w) (stepOk m₀ ann) N (T w os) (topStub p)).map (fun t =>
      openSeen q loose (importedModules p.main.body) Xt true t.abs) = some (openGood q loose)) :
    LeftO p q loose Xt Yf Ya N := fun w => by
  obtain ⟨⟨h, gs, d, k, os⟩, e, e'⟩ := Option.map_eq_some_iff.mp (op w)
  obtain ⟨rfl, rfl, rfl, rfl⟩ : h = _ ∧ gs = _ ∧ d = _ ∧ k = _ := by simpa using e'
  obtain ⟨t, r, y⟩ := Option.map_eq_some_iff.mp (run w os)
  have l := look w os
  rw [r] at l
  have l : openSeen q loose (importedModules p.main.body) Xt true t.abs = openGood q loose := Option.some.inj l
  have r := treeRun_top r
  rw [← tree] at r
  generalize t.abs = s₁ at r y l
  have z := size w
  simp only [Prod.mk.injEq] at y z
  unfold openEnds
  rw [e]
  show (topFrom treeTable p w N _).map _ = _
  unfold topFrom
  dsimp only
  rw [z.1, z.2.1, z.2.2, r]
  show (match staticsOk (importedModules p.main.body) (H w.params) s₁.heap && namesBound p s₁.heap && gensDone s₁ && laidKept (H w.params) s₁.heap with | true => some s₁ | false => none).map _ = _
  rw [y.1]
  exact congrArg some (Prod.ext l y.2)
theorem hd.look (w : World) (os : OsState) : (treeRun (stepT (denote treeTable) (OpenRow.toRowW hd.row).prog w) (stepOk 11 (some (.ref 6))) 3142 (bootAt w os) (topStub (OpenRow.toRowW hd.row).prog)).map (fun t =>
      openSeen hd.view_39 [Str.ofString "PostError"] (importedModules (OpenRow.toRowW hd.row).prog.main.body) (fun s => xlAt hd.view_39 [] s && recOk (RowW.records (OpenRow.toRowW hd.row)) s) true t.abs) = some (openGood hd.view_39 [Str.ofString "PostError"]) := by
  rw [Fast.te10156331382660048174, Fast.te6613529449190102663, Fast.te14364793385576792824, Fast.te11892475500146522536]
  rw [Fast.te4187177175401517315]
  kernel_rfl
-- the kit's own head runs the text in pieces, and what it lays down for the pieces fills 15 MB of the compiled file (the lid is 32 MiB):
-- here the text is run at once, by one look of the kernel, with the kit's quick forms of the machine and its table
local macro_rules | `(tactic| o_head $H) => `(tactic| (refine holds_open (q := hd.view_39) (loose := [Str.ofString "PostError"]) (N := 3142) (XP := XL hd.view_39 []) (Yf := Hook.obs $H) (Ya := Hook.val $H) (YP := Hook.says $H) (Xt := fun s => xlAt hd.view_39 [] s && recOk (RowW.records (OpenRow.toRowW hd.row)) s) ?hl (Hook.of $H) (Hook.keeps $H) (fun s e => xl_of s (Bool.and_eq_true_iff.mp e).1) XL.keeps (by rfl) (by rfl) (by rfl) (fun s e => recFacts_of (Bool.and_eq_true_iff.mp e).2) (by rfl) (by first | assumption | decide +kernel) (by decide +kernel) ⟨rfl, rfl, rfl, rfl, rfl, by decide +kernel⟩ ?hw ?hc; (case hl => (refine left_of_boot (m₀ := 11) (ann := some (.ref 6)) (T := bootAt) (boot_open (by kernel_rfl) rfl (fun _ => by kernel_rfl)) (fun _ => by kernel_rfl) (fun _ _ => by kernel_rfl) ?_ hd.look; (intro w os; rw [Fast.te10156331382660048174, Fast.te6613529449190102663, Fast.te14364793385576792824, Fast.te11892475500146522536]; kernel_rfl)))))
set_option maxRecDepth 100000 in
set_option maxHeartbeats 8000000 in
open_top hd for PySem.Challenge.rw_or0040_01
end Mine
end PartHd

section PartMBase
open PySem PySem.W PyProof.Rows PySem.Calls
namespace Mine

noncomputable abbrev lz : List Str := looseW hd.view_39 [Str.ofString "PostError"]
abbrev TopG (mean : ExcName → Option Value) (mg mb : Str → Option Value) (g : Heap) : Prop := Top hd.view_39 lz mean mg mb g

/-- every object of g stands in h as it is -/
def Stay (g h : Heap) : Prop := ∀ b o, g.get? b = some o → h.get? b = some o
/-- a goal at which a walk stops -/
def Stop (P : Prop) : Prop := P
theorem Stop.mk {P : Prop} (h : P) : Stop P := h
theorem Stop.out {P : Prop} (h : Stop P) : P := h
theorem Stay.refl (h : Heap) : Stay h h := fun _ _ e => e
theorem Stay.trans {a b c : Heap} (x : Stay a b) (y : Stay b c) : Stay a c := fun k o e => y k o (x k o e)

/-- the ambient of a call that is entered with the ground g -/
structure Amb (w : World) (A : Around) (base : Heap) (outer : List Env) (mean : ExcName → Option Value) (mg mb : Str → Option Value) (g : Heap) : Prop where
  B : Below A base outer g
  X : (hd.heap_39 w.params).In g
  T : TopG mean mg mb g
  hh : A.handled = none

/-- entries that stand in h and are hidden from g -/
def Own (g h : Heap) (led : List (Addr × Obj)) : Prop := ∀ p ∈ led, h.get? p.1 = some p.2 ∧ g.get? p.1 = none

theorem own_hide {h : Heap} {led : List (Addr × Obj)} (H : ∀ p ∈ led, h.get? p.1 = some p.2) : Own (hideAll h (led.map (·.1))) h led :=
  fun p hp => ⟨H p hp, hideAll_none _ (List.mem_map_of_mem hp)⟩
theorem stay_hide (h : Heap) (l : List Addr) : Stay (hideAll h l) h := fun _ _ e => of_hideAll l e

theorem back_end {Q : Value → Shared → Prop} {f : Flow → Value} {fl : Flow} {s : Shared} (h : Q (f fl) s) : Q (f fl) s := h

section
variable {prog : Program} {w : World} {A : Around} {s : Shared} {base g : Heap} {outer : List Env} {mean : ExcName → Option Value} {mg mb : Str → Option Value} {led : List (Addr × Obj)}
  {R : Result → Shared → Prop} {name qual : Str} {params : Arguments} {body : List Stmt} {scope : Scope} {dV kV doc pm cdv ct oc : Value} {an od : Option Addr} {osl : Array (Option Value)} {f : Addr} {args : Args} {binds : List (Str × Value)}

theorem enter_plain (Am : Amb w A base outer mean mg mb g) (st : Stay g s.heap) (hsz : g.objs.size ≤ s.heap.objs.size) (N : Own g s.heap led)
    (ho : (hd.heap_39 w.params).lookup f = some ⟨oc, od, .func (fnOf name qual params body scope dV kV doc pm an cdv ct), osl⟩) (hcd : codeIn (hd.heap_39 w.params) cdv qual = true) (hroom : A.depth < recursionLimit)
    (hbind : BindsTo s (fnOf name qual params body scope dV kV doc pm an cdv ct) args binds) (hloc : ∀ y ∈ binds, scope.names.lookup y.1 = some .local)
    (h : ∀ L' h₁, Fr g L' h₁ (fun y => binds.reverse.lookup y) → News g L' h₁ led → (∀ p ∈ led, p.1 < L') →
      wpAny (model prog w) (A.deeper (envOf qual scope L' f cdv)) (execs body (envOf qual scope L' f cdv))
        (fun fl s' => R (.ok (.ret (match fl with | .ret v => v | _ => .none))) s') (fun _ _ => False)
        { s with heap := h₁, toks := s.toks + binds.length })
    (hco : scope.isCoroutine = false) (hgen : scope.isGenerator = false) (hk : scope.kind = .function)
    (hcell : ∀ x ∈ scope.names, x.2 ≠ .cell) : codeAny (model prog w) A (.call (.ref f) args) R s := by
  refine codeAny_call_def (fd := fnOf name qual params body scope dV kV doc pm an cdv ct) (body := body) (binds := binds) hroom (st _ _ (Am.X _ _ ho)) rfl (Am.T.nolimit.keeps st) (codeRec_of (Am.X.keeps st) hcd) rfl hbind hcell hloc (fun h₁ hns hk₁ => ?_) hco hgen hk
  refine wpAny_mono (h s.heap.objs.size h₁ ⟨hns, fun b o e => hk₁ b o (st b o e), hsz⟩ (fun p hp => ⟨hk₁ _ _ (N p hp).1, Nat.ne_of_lt (Heap.lt_size (N p hp).1), (N p hp).2⟩) (fun p hp => Heap.lt_size (N p hp).1)) (fun _ _ x => x) fun _ _ x => x.elim

theorem enter_cells (Am : Amb w A base outer mean mg mb g) (st : Stay g s.heap) (hsz : g.objs.size ≤ s.heap.objs.size) (N : Own g s.heap led)
    (ho : (hd.heap_39 w.params).lookup f = some ⟨oc, od, .func (fnOf name qual params body scope dV kV doc pm an cdv ct), osl⟩) (hcd : codeIn (hd.heap_39 w.params) cdv qual = true) (hroom : A.depth < recursionLimit)
    (hbind : BindsTo s (fnOf name qual params body scope dV kV doc pm an cdv ct) args binds) (hkind : (binds.all fun y => scope.names.lookup y.1 == some .local || scope.names.lookup y.1 == some .cell) = true)
    (hnd : ((cellsFrom 0 scope.names []).map (·.1)).Nodup)
    (h : ∀ L' h₁ tk cells, Fr g L' h₁ (bindL (envOfC qual scope L' f cdv).kindOf binds fun _ => none) → News g L' h₁ (cells ++ led) →
      CellsAre (bindC (envOfC qual scope L' f cdv).kindOf binds fun _ => none) (cellsFrom (L' + 1) scope.names []) cells → (∀ p ∈ led, p.1 < L') →
      wpAny (model prog w) (A.deeper (envOfC qual scope L' f cdv)) (execs body (envOfC qual scope L' f cdv))
        (fun fl s' => R (.ok (.ret (match fl with | .ret v => v | _ => .none))) s') (fun _ _ => False)
        { s with heap := h₁, toks := tk })
    (hco : scope.isCoroutine = false) (hgen : scope.isGenerator = false) (hk : scope.kind = .function) : codeAny (model prog w) A (.call (.ref f) args) R s := by
  refine codeAny_call_function hroom (st _ _ (Am.X _ _ ho)) rfl hco hgen rfl (codeRec_of (Am.X.keeps st) hcd) (hbind _ _ _ _ ?_)
  refine wpAny_newFunctionEnv_cells hk (kindsX hkind _) fun env' he s' x => ?_
  subst he
  refine ⟨(Am.T.nolimit.keeps st).keeps x.toInCall.keep, codeAny_func ?_⟩
  obtain ⟨h₁, tk, rfl, _⟩ := x.done
  have hk₁ := x.toInCall.keep
  obtain ⟨cells, NC, Y⟩ := Cl.news (h₀ := s.heap) (Nat.le_refl _) fun n c hm => ⟨x.cell n c (lookup_of_mem_nodup (cellsFrom_names scope.names 0 (s.heap.objs.size + 1) [] [] rfl ▸ hnd) hm), x.above n c hm⟩
  refine wpAny_mono (h s.heap.objs.size h₁ tk cells ⟨x.toInCall.ns, fun b o e => hk₁ b o (st b o e), hsz⟩ (fun p hp => ?_) Y (fun p hp => Heap.lt_size (N p hp).1)) (fun _ _ y => y) fun _ _ y => y.elim
  rcases List.mem_append.mp hp with hp | hp
  · refine ⟨(NC p hp).1, (NC p hp).2.1, ?_⟩
    cases q : g.get? p.1 with
    | none => rfl
    | some o => have := st _ _ q; rw [(NC p hp).2.2] at this; cases this
  · exact ⟨hk₁ _ _ (N p hp).1, Nat.ne_of_lt (Heap.lt_size (N p hp).1), (N p hp).2⟩
end

/-- the dict of the box -/
def boxEs (P : Params) (k : Nat → Tok) (name validity nextUid top floor letters gone : Value) : List DictEntry :=
  [⟨PyData.keyHash P (Str.ofString "name"), .str (Str.ofString "name") (k 0), name⟩, ⟨PyData.keyHash P (Str.ofString "validity"), .str (Str.ofString "validity") (k 1), validity⟩,
   ⟨PyData.keyHash P (Str.ofString "next_uid"), .str (Str.ofString "next_uid") (k 2), nextUid⟩, ⟨PyData.keyHash P (Str.ofString "top"), .str (Str.ofString "top") (k 3), top⟩,
   ⟨PyData.keyHash P (Str.ofString "floor"), .str (Str.ofString "floor") (k 4), floor⟩, ⟨PyData.keyHash P (Str.ofString "letters"), .str (Str.ofString "letters") (k 5), letters⟩,
   ⟨PyData.keyHash P (Str.ofString "gone"), .str (Str.ofString "gone") (k 6), gone⟩]

/-- the dict of a letter -/
def letEs (P : Params) (k0 k1 k2 k3 k4 : Tok) (uid octets flags instant modseq : Value) : List DictEntry :=
  [⟨PyData.keyHash P (Str.ofString "uid"), .str (Str.ofString "uid") k0, uid⟩, ⟨PyData.keyHash P (Str.ofString "octets"), .str (Str.ofString "octets") k1, octets⟩,
   ⟨PyData.keyHash P (Str.ofString "flags"), .str (Str.ofString "flags") k2, flags⟩, ⟨PyData.keyHash P (Str.ofString "instant"), .str (Str.ofString "instant") k3, instant⟩,
   ⟨PyData.keyHash P (Str.ofString "modseq"), .str (Str.ofString "modseq") k4, modseq⟩]

theorem own_of {g h : Heap} {L : Addr} {led : List (Addr × Obj)} (N : News g L h led) : Own g h led := fun p hp => ⟨(N p hp).1, (N p hp).2.2⟩
theorem own_sub {g h : Heap} {led led' : List (Addr × Obj)} (N : Own g h led) (hs : ∀ p ∈ led', p ∈ led) : Own g h led' := fun p hp => N p (hs p hp)


theorem ne_of_objs {g h : Heap} {L a b : Addr} {o o' : Obj} {news : List (Addr × Obj)} (N : News g L h news) (h1 : (a, o) ∈ news) (h2 : (b, o') ∈ news) (hc : o.cls ≠ o'.cls) : @Ne Nat a b := fun e => by
  have e1 := (N _ h1).1
  have e2 := (N _ h2).1
  have e' : a = b := e
  subst e'
  dsimp only at e1 e2
  rw [e1] at e2
  cases e2
  exact hc rfl

abbrev tupOf (vs : List Value) : Obj := { cls := .type "tuple", data := .seq vs.toArray }
theorem own_mem {g h : Heap} {led : List (Addr × Obj)} (N : Own g h led) {p : Addr × Obj} (hp : p ∈ led) : h.get? p.1 = some p.2 := (N p hp).1
end Mine
end PartMBase

section PartMComp
open PySem PySem.W PyProof.Rows PySem.Calls PyProof.Rows.LCg
namespace Mine

theorem compRest_inv {prog : Program} {w : World} {A : Around} {h₀ : Heap} {L : Addr} {m : Str → Option Value} {env : Env} {elt : Expr} {x : Str} {scope : Scope} {cl : List (Str × Addr)} {s : Shared} {S : List (Addr × Obj) → Prop} {P : Nat → Value → Prop}
    {Fin : List Value → List (Addr × Obj) → Prop} {n : Nat} (J : Nat → List Value → List (Addr × Obj) → Prop)
    (turn : ∀ i ys nw, i < n → J i ys nw → ∀ v I oI C oC D m₂ h tk (E' : Value → Shared → Prop), P i v → NsObj oC m₂ → m₂ x = some v → Fr h₀ L h m → News h₀ L h ((I, oI) :: (C, oC) :: (D, lst ys) :: nw) → Off3 I C D nw → ((@Ne Nat I C) ∧ (@Ne Nat I D) ∧ (@Ne Nat C D)) →
      wpAny (model prog w) A (eval elt (compEnvC scope cl C env)) (CompEnd h₀ L m { s with heap := h, toks := tk } I oI C oC D (lst ys) S (fun y nw' => J (i + 1) (ys ++ [y]) nw')) E' { s with heap := h, toks := tk })
    (fin : ∀ ys nw, J n ys nw → Fin ys nw) : ∀ k i ys nw, i + k = n → J i ys nw → CompRest prog w A h₀ L m env elt x scope cl s S P Fin k i ys nw := by
  intro k
  induction k with
  | zero => intro i ys nw hi hJ; obtain rfl : i = n := by omega
            exact fin _ _ hJ
  | succ k ih =>
    intro i ys nw hi hJ
    refine CompRest.succ fun v I oI C oC D m₂ h tk E' hv hC hm F N off ne => ?_
    refine wpAny_mono (turn i ys nw (by omega) hJ v I oI C oC D m₂ h tk E' hv hC hm F N off ne) (fun y s' hy => ?_) fun _ _ e => e
    obtain ⟨h', tk', nw', e, F', N', off', hS, hr⟩ := hy
    exact ⟨h', tk', nw', e, F', N', off', hS, ih _ _ _ (by omega) hr⟩

theorem compRestT_inv {prog : Program} {w : World} {A : Around} {h₀ : Heap} {L : Addr} {m : Str → Option Value} {env : Env} {ct elt : Expr} {x : Str} {scope : Scope} {cl : List (Str × Addr)} {s : Shared} {S : List (Addr × Obj) → Prop} {P : Nat → Value → Prop}
    {Fin : List Value → List (Addr × Obj) → Prop} {n : Nat} (J : Nat → List Value → List (Addr × Obj) → Prop)
    (turn : ∀ i ys nw, i < n → J i ys nw → ∀ v I oI C oC D m₂ h tk (E' : Value → Shared → Prop), P i v → NsObj oC m₂ → m₂ x = some v → Fr h₀ L h m → News h₀ L h ((I, oI) :: (C, oC) :: (D, lst ys) :: nw) → Off3 I C D nw → ((@Ne Nat I C) ∧ (@Ne Nat I D) ∧ (@Ne Nat C D)) →
      wpAny (model prog w) A (isTrue ct (compEnvC scope cl C env) (eval ct (compEnvC scope cl C env))) (fun ok s' => if ok = true then
        wpAny (model prog w) A (eval elt (compEnvC scope cl C env)) (CompEnd h₀ L m { s with heap := h, toks := tk } I oI C oC D (lst ys) S (fun y nw' => J (i + 1) (ys ++ [y]) nw')) E' s'
        else CompEnd h₀ L m { s with heap := h, toks := tk } I oI C oC D (lst ys) S (fun _ nw' => J (i + 1) ys nw') Value.none s') E' { s with heap := h, toks := tk })
    (fin : ∀ ys nw, J n ys nw → Fin ys nw) : ∀ k i ys nw, i + k = n → J i ys nw → LCt.CompRestT prog w A h₀ L m env ct elt x scope cl s S P Fin k i ys nw := by
  intro k
  induction k with
  | zero => intro i ys nw hi hJ; obtain rfl : i = n := by omega
            exact fin _ _ hJ
  | succ k ih =>
    intro i ys nw hi hJ
    refine LCt.CompRestT.succ fun v I oI C oC D m₂ h tk E' hv hC hm F N off ne => ?_
    refine wpAny_mono (turn i ys nw (by omega) hJ v I oI C oC D m₂ h tk E' hv hC hm F N off ne) (fun ok s' hy => ?_) fun _ _ e => e
    cases ok with
    | true =>
      simp only [if_true] at hy ⊢
      refine wpAny_mono hy (fun y s₂ hy => ?_) fun _ _ e => e
      obtain ⟨h', tk', nw', e, F', N', off', hS, hr⟩ := hy
      exact ⟨h', tk', nw', e, F', N', off', hS, ih _ _ _ (by omega) hr⟩
    | false =>
      simp only [Bool.false_eq_true, if_false] at hy ⊢
      obtain ⟨h', tk', nw', e, F', N', off', hS, hr⟩ := hy
      exact ⟨h', tk', nw', e, F', N', off', hS, ih _ _ _ (by omega) hr⟩

theorem compRestP_inv {prog : Program} {w : World} {A : Around} {h₀ : Heap} {L : Addr} {m : Str → Option Value} {env : Env} {elt : Expr} {x x₂ : Str} {scope : Scope} {cl : List (Str × Addr)} {s : Shared} {S : List (Addr × Obj) → Prop} {P : Nat → Value → Prop}
    {Fin : List Value → List (Addr × Obj) → Prop} {n : Nat} (J : Nat → List Value → List (Addr × Obj) → Prop)
    (turn : ∀ i ys nw, i < n → J i ys nw → ∀ v, P i v → ∃ (t : Addr) (ot : Obj) (v₁ v₂ : Value) (nt : Nat), v = .ref t ∧ (t, ot) ∈ nw ∧ ot.cls = .type "tuple" ∧ ot.data = .seq #[v₁, v₂] nt ∧
      ∀ I oI C oC D m₂ h tk (E' : Value → Shared → Prop), NsObj oC m₂ → m₂ x = some v₁ → m₂ x₂ = some v₂ → Fr h₀ L h m → News h₀ L h ((I, oI) :: (C, oC) :: (D, lst ys) :: nw) → Off3 I C D nw → ((@Ne Nat I C) ∧ (@Ne Nat I D) ∧ (@Ne Nat C D)) →
      wpAny (model prog w) A (eval elt (compEnvC scope cl C env)) (CompEnd h₀ L m { s with heap := h, toks := tk } I oI C oC D (lst ys) S (fun y nw' => J (i + 1) (ys ++ [y]) nw')) E' { s with heap := h, toks := tk })
    (fin : ∀ ys nw, J n ys nw → Fin ys nw) : ∀ k i ys nw, i + k = n → J i ys nw → LCp.CompRestP prog w A h₀ L m env elt x x₂ scope cl s S P Fin k i ys nw := by
  intro k
  induction k with
  | zero => intro i ys nw hi hJ; obtain rfl : i = n := by omega
            exact fin _ _ hJ
  | succ k ih =>
    intro i ys nw hi hJ
    refine LCp.CompRestP.succ fun v hv => ?_
    obtain ⟨t, ot, v₁, v₂, nt, e, hm, hc, hd, hh⟩ := turn i ys nw (by omega) hJ v hv
    refine ⟨t, ot, v₁, v₂, nt, e, hm, hc, hd, fun I oI C oC D m₂ h tk E' hC hm1 hm2 F N off ne => ?_⟩
    refine wpAny_mono (hh I oI C oC D m₂ h tk E' hC hm1 hm2 F N off ne) (fun y s' hy => ?_) fun _ _ e => e
    obtain ⟨h', tk', nw', e, F', N', off', hS, hr⟩ := hy
    exact ⟨h', tk', nw', e, F', N', off', hS, ih _ _ _ (by omega) hr⟩

/-- a relation place by place -/
inductive All2 {α β : Type} (R : α → β → Prop) : List α → List β → Prop
  | nil : All2 R [] []
  | cons {a b l k} : R a b → All2 R l k → All2 R (a :: l) (b :: k)
theorem All2.length {α β : Type} {R : α → β → Prop} {l : List α} {k : List β} (h : All2 R l k) : l.length = k.length := by
  induction h with
  | nil => rfl
  | cons _ _ ih => simp [ih]
theorem All2.mono {α β : Type} {R S : α → β → Prop} {l : List α} {k : List β} (h : All2 R l k) (f : ∀ a b, R a b → S a b) : All2 S l k := by
  induction h with
  | nil => exact .nil
  | cons h _ ih => exact .cons (f _ _ h) ih
theorem All2.append {α β : Type} {R : α → β → Prop} {l l' : List α} {k k' : List β} (h : All2 R l k) (h' : All2 R l' k') : All2 R (l ++ l') (k ++ k') := by
  induction h with
  | nil => exact h'
  | cons h _ ih => exact .cons h ih
theorem All2.get {α β : Type} {R : α → β → Prop} {l : List α} {k : List β} (h : All2 R l k) : ∀ {i : Nat} {a : α}, l[i]? = some a → ∃ b, k[i]? = some b ∧ R a b := by
  induction h with
  | nil => intro i a e; simp at e
  | cons h _ ih =>
    intro i a e
    cases i with
    | zero => simp at e; subst e; exact ⟨_, rfl, h⟩
    | succ i => simpa using ih (by simpa using e)
theorem All2.get' {α β : Type} {R : α → β → Prop} {l : List α} {k : List β} (h : All2 R l k) : ∀ {i : Nat} {b : β}, k[i]? = some b → ∃ a, l[i]? = some a ∧ R a b := by
  induction h with
  | nil => intro i a e; simp at e
  | cons h _ ih =>
    intro i a e
    cases i with
    | zero => simp at e; subst e; exact ⟨_, rfl, h⟩
    | succ i => simpa using ih (by simpa using e)
theorem All2.take {α β : Type} {R : α → β → Prop} {l : List α} {k : List β} (h : All2 R l k) : ∀ n, All2 R (l.take n) (k.take n) := by
  induction h with
  | nil => intro n; simpa using All2.nil
  | cons h _ ih =>
    intro n
    cases n with
    | zero => exact .nil
    | succ n => exact .cons h (ih n)
theorem All2.drop {α β : Type} {R : α → β → Prop} {l : List α} {k : List β} (h : All2 R l k) : ∀ n, All2 R (l.drop n) (k.drop n) := by
  induction h with
  | nil => intro n; simpa using All2.nil
  | cons h t ih =>
    intro n
    cases n with
    | zero => exact .cons h t
    | succ n => simpa using ih n

theorem intsAre_append {vs ws : List Value} {ns ms : List Int} (h : IntsAre vs ns) (k : IntsAre ws ms) : IntsAre (vs ++ ws) (ns ++ ms) := by
  induction h with
  | nil => exact k
  | cons n t _ ih => exact .cons n t ih
theorem intsAre_snoc {vs : List Value} {ns : List Int} (h : IntsAre vs ns) (n : Int) (t : Tok) : IntsAre (vs ++ [.int n t]) (ns ++ [n]) := intsAre_append h (.cons n t .nil)

/-- a letter stands in g: its uid -/
def LetV (P : Params) (g : Heap) (v : Value) (u : Int) : Prop :=
  ∃ a dx k0 k1 k2 k3 k4 t oc fv ins md, v = .ref a ∧ g.get? a = some (instObj 132 dx) ∧ g.get? dx = some (dictOf (letEs P k0 k1 k2 k3 k4 (.int u t) oc fv ins md) 5) ∧
    handedIn oc = true ∧ handedIn fv = true ∧ handedIn ins = true ∧ handedIn md = true
theorem LetV.mono {P : Params} {g g' : Heap} {v : Value} {u : Int} (h : LetV P g v u) (st : Stay g g') : LetV P g' v u := by
  obtain ⟨a, dx, k0, k1, k2, k3, k4, t, oc, fv, ins, md, e, h1, h2, r⟩ := h
  exact ⟨a, dx, k0, k1, k2, k3, k4, t, oc, fv, ins, md, e, st _ _ h1, st _ _ h2, r⟩

theorem inst_base {g h : Heap} {L x C dx : Addr} {m : Str → Option Value} {od : Obj} (F : Fr g L h m) (h1 : g.get? x = some (instObj C dx)) (h2 : g.get? dx = some od) :
    InstAt h x (instObj C dx) C (some od) := ⟨F.keep _ _ h1, rfl, rfl, F.keep _ _ h2⟩

theorem all2_ints {vs : List Value} {ns : List Int} (h : IntsAre vs ns) : All2 (fun v n => ∃ t, v = .int n t) vs ns := by
  induction h with
  | nil => exact .nil
  | cons n t _ ih => exact .cons ⟨t, rfl⟩ ih
theorem ints_of_all2 {vs : List Value} {ns : List Int} (h : All2 (fun v n => ∃ t, v = .int n t) vs ns) : IntsAre vs ns := by
  induction h with
  | nil => exact .nil
  | cons h _ ih => obtain ⟨t, rfl⟩ := h; exact .cons _ t ih

/-- a comprehension that keeps the items which pass a test -/
theorem compT_filter {α : Type} {prog : Program} {w : World} {A : Around} {h₀ : Heap} {L : Addr} {m : Str → Option Value} {env : Env} {ct elt : Expr} {x : Str} {scope : Scope} {cl : List (Str × Addr)} {s₁ : Shared}
    {Fin : Shared → List Value → List (Addr × Obj) → Prop} {ax : Addr} {its : Array Value} {as : List α} {nw : List (Addr × Obj)} (Rel : Value → α → Prop) (p : α → Bool)
    (hh : A.handled = none) (F : Fr h₀ L s₁.heap m) (N : News h₀ L s₁.heap nw) (S : SrcAt h₀ ax its nw) (hr : All2 Rel its.toList as) (hsz : its.size ≤ 1000)
    (test : ∀ v a I oI C oC D ys m₂ h tk (E' : Value → Shared → Prop), Rel v a → NsObj oC m₂ → m₂ x = some v → Fr h₀ L h m → News h₀ L h ((I, oI) :: (C, oC) :: (D, lst ys) :: nw) →
      wpAny (model prog w) A (isTrue ct (compEnvC scope cl C env) (eval ct (compEnvC scope cl C env))) (fun ok s' => Stop (ok = p a ∧ ∃ h' tk', s' = { s₁ with heap := h', toks := tk' } ∧ Fr h₀ L h' m ∧ News h₀ L h' ((I, oI) :: (C, oC) :: (D, lst ys) :: nw))) E' { s₁ with heap := h, toks := tk })
    (el : ∀ v a I oI C oC D ys m₂ h tk (E' : Value → Shared → Prop), Rel v a → NsObj oC m₂ → m₂ x = some v → Fr h₀ L h m → News h₀ L h ((I, oI) :: (C, oC) :: (D, lst ys) :: nw) →
      wpAny (model prog w) A (eval elt (compEnvC scope cl C env)) (fun y s' => Stop (y = v ∧ ∃ h' tk', s' = { s₁ with heap := h', toks := tk' } ∧ Fr h₀ L h' m ∧ News h₀ L h' ((I, oI) :: (C, oC) :: (D, lst ys) :: nw))) E' { s₁ with heap := h, toks := tk })
    (fin : ∀ g ys, All2 Rel ys (as.filter p) → ys.length ≤ its.size → Fin { s₁ with heap := g } ys nw) :
    LCt.CompSrcT prog w A h₀ L m env ct elt x scope cl Fin (.ref ax) s₁ := by
  refine .inl ⟨ax, its, nw, rfl, hh, F, N, S, Nat.le_trans hsz (by rw [sizeLine_eq]; decide), ?_⟩
  rintro s₂ ⟨g, rfl⟩
  refine compRestT_inv (n := its.size) (fun i ys nw' => nw' = nw ∧ All2 Rel ys ((as.take i).filter p) ∧ ys.length ≤ i) ?_ ?_ _ 0 [] _ (by omega) ⟨rfl, by simpa using All2.nil, Nat.le_refl _⟩
  · rintro i ys nw' hi ⟨rfl, hy, hyl⟩ v I oI C oC D m₂ h tk E' hv hC hm F' N' off ne
    obtain ⟨a, ha, hRel⟩ := hr.get (i := i) (a := v) (by simpa using hv)
    have ht : (as.take (i + 1)).filter p = (as.take i).filter p ++ (if p a = true then [a] else []) := by
      rw [List.take_add_one, ha, List.filter_append]; congr 1; show List.filter p [a] = _; rw [List.filter_cons]; rfl
    refine wpAny_mono (test v a I oI C oC D ys m₂ h tk E' hRel hC hm F' N') (fun ok s' hq => ?_) fun _ _ e => e
    obtain ⟨rfl, h', tk', rfl, F2, N2⟩ := hq.out
    cases hp : p a with
    | true =>
      simp only [if_true]
      refine wpAny_mono (el v a I oI C oC D ys m₂ h' tk' E' hRel hC hm F2 N2) (fun y s' hq => ?_) fun _ _ e => e
      obtain ⟨rfl, h2, tk2, rfl, F3, N3⟩ := hq.out
      refine CompEnd.intro F3 N3 nw' (fun p hp => hp) off (S) ⟨rfl, ?_, by simp; omega⟩
      rw [ht, hp, if_pos rfl]
      exact hy.append (.cons hRel .nil)
    | false =>
      simp only [Bool.false_eq_true, if_false]
      refine CompEnd.intro F2 N2 nw' (fun p hp => hp) off (S) ⟨rfl, ?_, by omega⟩
      rw [ht, hp]
      simpa using hy
  · rintro ys nw' ⟨rfl, hy, hyl⟩
    rw [List.take_of_length_le (by have := hr.length; simp at this; omega)] at hy
    exact fin _ _ hy hyl

theorem off1_of {D : Addr} : ∀ {l : List (Addr × Obj)}, (∀ p ∈ l, p.1 ≠ D) → Off1 D l
  | [], _ => trivial
  | _ :: _, h => ⟨h _ List.mem_cons_self, off1_of fun p hp => h p (List.mem_cons_of_mem _ hp)⟩

theorem off3_app {I C D : Addr} : ∀ {l k : List (Addr × Obj)}, Off3 I C D l → Off3 I C D k → Off3 I C D (l ++ k)
  | [], _, _, h => h
  | _ :: _, _, h, k => ⟨h.1, off3_app h.2 k⟩

/-- a comprehension each of whose elements is one new object -/
theorem compU_new {α : Type} {prog : Program} {w : World} {A : Around} {h₀ : Heap} {L : Addr} {m : Str → Option Value} {env : Env} {elt : Expr} {x : Str} {scope : Scope} {cl : List (Str × Addr)} {s₁ : Shared}
    {Fin : Shared → List Value → List (Addr × Obj) → Prop} {ax : Addr} {its : Array Value} {as : List α} {nw : List (Addr × Obj)} (Rel : Value → α → Prop) (Res : Addr → Obj → Value → α → Prop)
    (hh : A.handled = none) (F : Fr h₀ L s₁.heap m) (N : News h₀ L s₁.heap nw) (S : SrcAt h₀ ax its nw) (hr : All2 Rel its.toList as) (hsz : its.size ≤ 1000)
    (el : ∀ v a I oI C oC D ys m₂ h tk pre (E' : Value → Shared → Prop), Rel v a → NsObj oC m₂ → m₂ x = some v → Fr h₀ L h m → News h₀ L h ((I, oI) :: (C, oC) :: (D, lst ys) :: (nw ++ pre)) →
      wpAny (model prog w) A (eval elt (compEnvC scope cl C env)) (fun y s' => Stop (∃ h' tk' t o, s' = { s₁ with heap := h', toks := tk' } ∧ Fr h₀ L h' m ∧ News h₀ L h' ((t, o) :: (I, oI) :: (C, oC) :: (D, lst ys) :: (nw ++ pre)) ∧
        (@Ne Nat t I ∧ @Ne Nat t C ∧ @Ne Nat t D) ∧ Res t o y a)) E' { s₁ with heap := h, toks := tk })
    (fin : ∀ g ys pre, All2 (fun y a => ∃ t o, (t, o) ∈ pre ∧ Res t o y a) ys as → (∀ p ∈ pre, ∃ y a, Res p.1 p.2 y a) → Fin { s₁ with heap := g } ys (nw ++ pre)) :
    CompSrc prog w A h₀ L m env elt x scope cl Fin (.ref ax) s₁ := by
  refine .inl ⟨ax, its, nw, rfl, hh, F, N, S, Nat.le_trans hsz (by rw [sizeLine_eq]; decide), ?_⟩
  rintro s₂ ⟨g, rfl⟩
  refine compRest_inv (n := its.size) (fun i ys nw' => ∃ pre, nw' = nw ++ pre ∧ All2 (fun y a => ∃ t o, (t, o) ∈ pre ∧ Res t o y a) ys (as.take i) ∧ ∀ p ∈ pre, ∃ y a, Res p.1 p.2 y a) ?_ ?_ _ 0 [] _ (by omega) ⟨[], by simp, by simpa using All2.nil, fun _ hp => nomatch hp⟩
  · rintro i ys nw' hi ⟨pre, rfl, hy, hpre⟩ v I oI C oC D m₂ h tk E' hv hC hm F' N' off ne
    obtain ⟨a, ha, hRel⟩ := hr.get (i := i) (a := v) (by simpa using hv)
    refine wpAny_mono (el v a I oI C oC D ys m₂ h tk pre E' hRel hC hm F' N') (fun y s' hq => ?_) fun _ _ e => e
    obtain ⟨h', tk', t, o, rfl, F2, N2, hne, hR⟩ := hq.out
    have hsub : ∀ p ∈ nw ++ (t, o) :: pre, p ∈ (t, o) :: (I, oI) :: (C, oC) :: (D, lst ys) :: (nw ++ pre) := by
      intro p hp
      rcases List.mem_append.mp hp with hp | hp
      · exact .tail _ (.tail _ (.tail _ (.tail _ (List.mem_append.mpr (.inl hp)))))
      · rcases List.mem_cons.mp hp with rfl | hp
        · exact .head _
        · exact .tail _ (.tail _ (.tail _ (.tail _ (List.mem_append.mpr (.inr hp)))))
    refine CompEnd.intro F2 N2 (nw ++ (t, o) :: pre) ?_ ?_ ?_ ⟨(t, o) :: pre, rfl, ?_, fun p hp => (List.mem_cons.mp hp).elim (fun e => by subst e; exact ⟨_, _, hR⟩) (hpre p)⟩
    · intro p hp
      rcases List.mem_cons.mp hp with rfl | hp
      · exact .tail _ (.head _)
      · rcases List.mem_cons.mp hp with rfl | hp
        · exact .tail _ (.tail _ (.head _))
        · rcases List.mem_cons.mp hp with rfl | hp
          · exact .tail _ (.tail _ (.tail _ (.head _)))
          · exact hsub p hp
    · refine Off3.of fun p hp => ?_
      rcases List.mem_append.mp hp with hp | hp
      · exact off.mem p (List.mem_append.mpr (.inl hp))
      · rcases List.mem_cons.mp hp with rfl | hp
        · exact hne
        · exact off.mem p (List.mem_append.mpr (.inr hp))
    · rcases S with S | ⟨o', hm', r⟩
      · exact .inl S
      · exact .inr ⟨o', List.mem_append.mpr (.inl hm'), r⟩
    · rw [List.take_add_one, ha]
      refine (hy.mono fun y a ⟨t', o', hm', hR'⟩ => ⟨t', o', List.mem_cons_of_mem _ hm', hR'⟩).append (.cons ⟨t, o, List.mem_cons_self .., hR⟩ .nil)
  · rintro ys nw' ⟨pre, rfl, hy, hpre⟩
    rw [List.take_of_length_le (by have := hr.length; simp at this; omega)] at hy
    exact fin _ _ _ hy hpre
end Mine
end PartMComp

section PartMHeap
open PySem PySem.W PyProof.Rows PySem.Calls PyProof.Rows.LCg
namespace Mine

theorem hide_keep {h : Heap} {led : List (Addr × Obj)} (H : ∀ p ∈ led, h.get? p.1 = some p.2) {a : Addr} {o : Obj} (e : h.get? a = some o) (hne : ∀ p ∈ led, p.2 ≠ o) : (hideAll h (led.map (·.1))).get? a = some o := by
  refine hideAll_get _ e fun hm => ?_
  obtain ⟨p, hp, rfl⟩ := List.mem_map.mp hm
  have := H p hp
  rw [e] at this
  exact hne p hp (Option.some.inj this).symm
theorem hide_keepA {h : Heap} {l : List Addr} {a : Addr} {o : Obj} (e : h.get? a = some o) (hne : a ∉ l) : (hideAll h l).get? a = some o := hideAll_get _ e hne

/-- all entries of g that the base has not -/
noncomputable def restOf (base g : Heap) : List (Addr × Obj) :=
  (List.range g.objs.size).filterMap fun a => match g.get? a with
    | some o => if (base.get? a).isNone then some (a, o) else none
    | none => none
theorem mem_restOf {base g : Heap} {a : Addr} {o : Obj} : (a, o) ∈ restOf base g ↔ g.get? a = some o ∧ base.get? a = none := by
  unfold restOf
  rw [List.mem_filterMap]
  constructor
  · rintro ⟨b, hb, e⟩
    cases hg : g.get? b with
    | none => rw [hg] at e; cases e
    | some ob =>
      rw [hg] at e
      dsimp only at e
      by_cases hn : (base.get? b).isNone = true
      · rw [if_pos hn] at e; cases e
        exact ⟨hg, by simpa using hn⟩
      · rw [if_neg hn] at e; cases e
  · rintro ⟨h1, h2⟩
    refine ⟨a, List.mem_range.mpr (Heap.lt_size h1), ?_⟩
    rw [h1]; dsimp only; rw [if_pos (by rw [h2]; rfl)]

theorem news_rest {base g h : Heap} {L : Addr} (st : Stay g h) (hL : g.get? L = none) : News base L h (restOf base g) := by
  rintro ⟨a, o⟩ hp
  obtain ⟨h1, h2⟩ := mem_restOf.mp hp
  refine ⟨st _ _ h1, ?_, h2⟩
  rintro rfl
  rw [hL] at h1; cases h1
theorem news_app {base h : Heap} {L : Addr} {l k : List (Addr × Obj)} (x : News base L h l) (y : News base L h k) : News base L h (l ++ k) := fun p hp => (List.mem_append.mp hp).elim (x p) (y p)
theorem news_cons {base h : Heap} {L a : Addr} {o : Obj} {k : List (Addr × Obj)} (h1 : h.get? a = some o) (h2 : a ≠ L) (h3 : base.get? a = none) (y : News base L h k) : News base L h ((a, o) :: k) := fun p hp => by
  rcases List.mem_cons.mp hp with rfl | hp
  · exact ⟨h1, h2, h3⟩
  · exact y p hp
theorem stay_of {base g h h0 : Heap} {L : Addr} {m : Str → Option Value} {news : List (Addr × Obj)} (F : Fr base L h m) (N : News base L h news) (hs : ∀ p ∈ restOf base g, p ∈ news) (s1 : Stay g h0) (s2 : Stay base h0) : Stay g h := by
  intro a o e
  cases hb : base.get? a with
  | none => exact (N _ (hs _ (mem_restOf.mpr ⟨e, hb⟩))).1
  | some ob =>
    have e1 := s1 _ _ e
    rw [s2 _ _ hb] at e1
    cases e1
    exact F.keep _ _ hb

section
variable {w : World} {A A₀ : Around} {base g h h' : Heap} {outer : List Env} {mean : ExcName → Option Value} {mg mb : Str → Option Value} {L : Addr} {m : Str → Option Value} {env : Env} {news led led' : List (Addr × Obj)}
theorem site (B : Below A₀ base outer g) (F : Fr g L h m) (N : News g L h news) (hA : A.frames = some (env :: outer)) (hf : env.frame = some L) (hke : env.scope.kind = .function) (X : (hd.heap_39 w.params).In g) (T : TopG mean mg mb g) (hh : A.handled = none)
    (hs : ∀ p ∈ led, p ∈ news) :
    Amb w A base (env :: outer) mean mg mb (hideAll h (led.map (·.1))) ∧ Own (hideAll h (led.map (·.1))) h led ∧ Stay (hideAll h (led.map (·.1))) h ∧ Stay g (hideAll h (led.map (·.1))) ∧ (hideAll h (led.map (·.1))).objs.size ≤ h.objs.size := by
  have N' : News g L h led := fun p hp => N p (hs p hp)
  obtain ⟨FG, BG, stG, _⟩ := groundX (s := { heap := h }) (R := fun _ _ => True) B F N' hA hf hke
  exact ⟨⟨BG, X.keeps stG, T.keeps stG, hh⟩, own_hide fun p hp => (N' p hp).1, stay_hide _ _, stG, Nat.le_of_eq (hideAll_size _ _)⟩

/-- behind a call: the frame and the ledger anew; what was not hidden stays -/
theorem site_back (F : Fr g L h m) (N : News g L h news) (hs : ∀ p ∈ led, p ∈ news) (st : Stay (hideAll h (led.map (·.1))) h') (O : Own (hideAll h (led.map (·.1))) h' led') :
    Fr g L h' m ∧ News g L h' led' ∧ (∀ p ∈ news, p.1 ∉ led.map (·.1) → h'.get? p.1 = some p.2 ∧ p.1 ≠ L ∧ g.get? p.1 = none) := by
  have nm : ∀ b o, g.get? b = some o → b ∉ led.map (·.1) := fun b o e q => by
    obtain ⟨p, hp, rfl⟩ := List.mem_map.mp q
    rw [(N p (hs p hp)).2.2] at e; cases e
  have stG : Stay g (hideAll h (led.map (·.1))) := fun b o e => hideAll_get _ (F.keep b o e) (nm b o e)
  have nL : L ∉ led.map (·.1) := fun q => by
    obtain ⟨p, hp, e⟩ := List.mem_map.mp q
    exact (N p (hs p hp)).2.1 e
  obtain ⟨oL, es, ep, hL, r⟩ := F.ns
  have hLg := hideAll_get (led.map (·.1)) hL nL
  refine ⟨⟨⟨oL, es, ep, st _ _ hLg, r⟩, fun b o e => st _ _ (stG b o e), F.above⟩, fun p hp => ⟨(O p hp).1, fun q => ?_, ?_⟩, fun p hp hn => ⟨st _ _ (hideAll_get _ (N p hp).1 hn), (N p hp).2⟩⟩
  · have := (O p hp).2; rw [q, hLg] at this; cases this
  · cases e : g.get? p.1 with
    | none => rfl
    | some o => have := (O p hp).2; rw [stG _ _ e] at this; cases this
end

/-- a dict of ints: its keys are just these -/
def WantD (prog : Program) (w : World) (o : Obj) (ws : List Int) : Prop := ∃ kvs, o.IsDictOf (intKind prog w) kvs ∧ (∀ x, (valueAt kvs x).isSome = decide (x ∈ ws)) ∧ kvs.length ≤ ws.length
theorem wantD_nil {prog : Program} {w : World} {o : Obj} (h : o.IsDictOf (intKind prog w) []) : WantD prog w o [] := ⟨[], h, fun x => by simp [valueAt], Nat.le_refl _⟩
theorem any_stored (kvs : List (Int × Value)) (k : Int) (v : Value) (x : Int) : (stored kvs k v).any (fun kv => kv.1 = x) = (kvs.any (fun kv => kv.1 = x) || decide (k = x)) := by
  unfold stored
  by_cases h : kvs.any (fun kv => kv.1 = k) = true
  · rw [if_pos h]
    rw [List.any_map]
    have e : ((fun kv : Int × Value => decide (kv.1 = x)) ∘ fun kv => if kv.1 = k then (kv.1, v) else kv) = fun kv => decide (kv.1 = x) := by
      funext kv; simp only [Function.comp]; split <;> rfl
    rw [e]
    by_cases hx : k = x
    · subst hx; rw [h]; simp
    · simp [hx]
  · rw [if_neg h]; simp [List.any_append]
theorem stored_length (kvs : List (Int × Value)) (k : Int) (v : Value) : (stored kvs k v).length ≤ kvs.length + 1 := by
  unfold stored; split <;> simp
section
variable {prog : Program} {w : World} {A : Around} {E : Value → Shared → Prop} {s : Shared} {h₀ : Heap} {L d : Addr} {m : Str → Option Value} {news : List (Addr × Obj)} {gg : Obj → List (Addr × Obj)} {o : Obj} {ws : List Int} {x : Int} {t : Tok} {v : Value}
theorem want_set {Q : Unit → Shared → Prop} (F : Fr h₀ L s.heap m) (N : News h₀ L s.heap news) (U : UpdF d o news gg) (hd : WantD prog w o ws) (hsz : ws.length ≤ sizeLine)
    (h : ∀ h' o', Fr h₀ L h' m → News h₀ L h' (gg o') → WantD prog w o' (ws ++ [x]) → Q () { s with heap := h', toks := s.toks + 1 }) : wpAny (model prog w) A (setItem (.ref d) (.int x t) v) Q E s := by
  obtain ⟨kvs, h1, h2, h3⟩ := hd
  refine kda_set (knd := intKind prog w) F N U h1 (intKind_is _ _ _ _) (Nat.le_trans h3 hsz) fun h' o' F' N' hd' => h h' o' F' N' ⟨_, hd', fun y => ?_, ?_⟩
  · rw [valueAt_isSome_eq_any, any_stored, ← valueAt_isSome_eq_any, h2]
    by_cases hy : y ∈ ws
    · simp [hy]
    · by_cases hxy : x = y
      · subst hxy; simp
      · simp [hy, hxy]; intro e; exact hxy e.symm
  · have := stored_length kvs x v
    simp only [List.length_append, List.length_singleton]; omega
theorem want_in {Q : Value → Shared → Prop} (N : News h₀ L s.heap news) (hp : (d, o) ∈ news) (hd : WantD prog w o ws) (lo : (d == sysModules) = false) (h : Q (.bool (decide (x ∈ ws))) { s with toks := s.toks + 1 }) :
    wpAny (model prog w) A (compareOp .In (.int x t) (.ref d)) Q E s := by
  obtain ⟨kvs, h1, h2, h3⟩ := hd
  exact kda_in (knd := intKind prog w) N hp h1 lo (intKind_is _ _ _ _) _ (h2 x) h
theorem want_notin {Q : Value → Shared → Prop} (N : News h₀ L s.heap news) (hp : (d, o) ∈ news) (hd : WantD prog w o ws) (lo : (d == sysModules) = false) (h : Q (.bool (!decide (x ∈ ws))) { s with toks := s.toks + 1 }) :
    wpAny (model prog w) A (compareOp .NotIn (.int x t) (.ref d)) Q E s := by
  obtain ⟨kvs, h1, h2, h3⟩ := hd
  exact kdg_notin (knd := intKind prog w) N hp h1 lo (intKind_is _ _ _ _) _ (h2 x) h
end

section
variable {prog : Program} {w : World} {A : Around} {E : Value → Shared → Prop} {s : Shared} {env : Env} {h₀ : Heap} {x : Str} {body : List Stmt} {Q : Flow → Shared → Prop}
/-- a loop over ints that stores each as a key -/
theorem want_loop {l dw : Addr} {vs : List Value} {ws : List Int} {m₀ : Str → Option Value} {o : Obj} {rest : List (Addr × Obj)}
    (hh : A.handled = none) (hl : h₀.IsList l vs.toArray) (hi : IntsAre vs ws) (F : Fr h₀ env.locals s.heap m₀) (N : News h₀ env.locals s.heap ((dw, o) :: rest)) (hW : WantD prog w o [])
    (turn : ∀ n t ws' o' (u : Str → Option Value) h tk own, OwnOff own (((dw, o') :: rest).map (·.1)) → WantD prog w o' ws' → ws'.length ≤ ws.length →
      Fr h₀ env.locals h (fun y => if y = x then some (.int n t) else if y = x then u y else m₀ y) → News h₀ env.locals h (((dw, o') :: rest) ++ own) →
      wpAny (model prog w) A (execs body env) (fun f s' => Stop (f = .next ∧ ∃ h' tk' o'', s' = { s with heap := h', toks := tk' } ∧ Fr h₀ env.locals h' (fun y => if y = x then some (.int n t) else if y = x then u y else m₀ y) ∧
        News h₀ env.locals h' (((dw, o'') :: rest) ++ own) ∧ WantD prog w o'' (ws' ++ [n]))) E { s with heap := h, toks := tk })
    (done : ∀ o' (u : Str → Option Value) h tk, WantD prog w o' ws → Fr h₀ env.locals h (fun y => if y = x then u y else m₀ y) → News h₀ env.locals h ((dw, o') :: rest) → Q .next { s with heap := h, toks := tk }) :
    wpAny (model prog w) A (pyIter (.ref l)) (fun it s₂ => LoopAtV prog w A h₀ env x body Q E it s₂) E s := by
  refine iter_invG (fun i m nw => ∃ (o' : Obj) (u : Str → Option Value), nw = (dw, o') :: rest ∧ WantD prog w o' (ws.take i) ∧ m = fun y => if y = x then u y else m₀ y) hh hl hi F N ⟨o, m₀, rfl, by simpa using hW, by funext y; split <;> rfl⟩ ?_ ?_
  · rintro i n t m₁ nw h tk own hn _ hoff ⟨o', u, rfl, hW', rfl⟩ F₁ N₁
    refine wpAny_mono (turn n t (ws.take i) o' u h tk own hoff hW' (by rw [List.length_take]; omega) F₁ N₁) (fun f s' hf => ?_) fun _ _ e => e
    obtain ⟨rfl, h', tk', o'', rfl, F', N', hW''⟩ := hf
    refine InvEndG.intro (nx := (dw, o'') :: rest) F' N' ⟨o'', fun y => if y = x then some (.int n t) else u y, rfl, by rw [List.take_add_one, hn]; exact hW'', ?_⟩ hoff (fun p hp => List.mem_append.mpr (.inl hp)) fun p hp => List.mem_append.mpr (.inr hp)
    funext y
    by_cases hy : y = x <;> simp [hy]
  · rintro m₁ nw h tk ⟨o', u, rfl, hW', rfl⟩ F₁ N₁
    rw [List.take_length] at hW'
    exact done o' u h tk hW' F₁ N₁
end

/-- a pair of ints stands in h -/
def PairV (h : Heap) (v : Value) (u m : Int) : Prop := ∃ a t1 t2, v = .ref a ∧ h.get? a = some (tupOf [.int u t1, .int m t2])
/-- the same, and g has it not -/
def PairN (g h : Heap) (v : Value) (u m : Int) : Prop := ∃ a t1 t2, v = .ref a ∧ h.get? a = some (tupOf [.int u t1, .int m t2]) ∧ g.get? a = none
theorem PairV.mono {h h' : Heap} {v : Value} {u m : Int} (x : PairV h v u m) (st : Stay h h') : PairV h' v u m := let ⟨a, t1, t2, e, k⟩ := x; ⟨a, t1, t2, e, st _ _ k⟩

section
variable {prog : Program} {w : World} {A : Around} {E : Value → Shared → Prop} {s : Shared} {value slice : Expr} {l : Addr} {its : Array Value} {k : Int} {u : Tok} {v v₁ v₂ : Value} {Q : Value → Shared → Prop}
theorem item_list (hl : s.heap.IsList l its) (h0 : 0 ≤ k) (hhi : k < 2 ^ 63) (hx : its[k.toNat]? = some v) (h : Q v s)
    (hs : subscripted slice false (.ref l) (.int k u) = operate [.ref l, .int k u] (getItem (.ref l) (.int k u)) := by with_unfolding_all rfl) :
    wpAny (model prog w) A (subscriptTail value slice (.ref l) (.int k u)) Q E s :=
  tail_any hl.typeIs slot_list_getitem.lookup (wpAny_getItem_list hl h0 hhi hx h) hs
theorem item_pair0 (hl : s.heap.get? l = some (tupOf [v₁, v₂])) (h : Q v₁ s)
    (hs : subscripted slice false (.ref l) (.int 0 u) = operate [.ref l, .int 0 u] (getItem (.ref l) (.int 0 u)) := by with_unfolding_all rfl) :
    wpAny (model prog w) A (subscriptTail value slice (.ref l) (.int 0 u)) Q E s :=
  item_tupleT (l := [v₁, v₂]) ⟨_, hl, rfl, _, rfl⟩ (by decide) (by decide) (j := 0) (by rfl) rfl h hs
theorem item_pair1 (hl : s.heap.get? l = some (tupOf [v₁, v₂])) (h : Q v₂ s)
    (hs : subscripted slice false (.ref l) (.int 1 u) = operate [.ref l, .int 1 u] (getItem (.ref l) (.int 1 u)) := by with_unfolding_all rfl) :
    wpAny (model prog w) A (subscriptTail value slice (.ref l) (.int 1 u)) Q E s :=
  item_tupleT (l := [v₁, v₂]) ⟨_, hl, rfl, _, rfl⟩ (by decide) (by decide) (j := 1) (by rfl) rfl h hs
end
end Mine
end PartMHeap

section PartMPair
open PySem PySem.W PyProof.Rows PySem.Calls PyProof.Rows.LCg
set_option maxHeartbeats 1600000
namespace Mine
section
variable {prog : Program} {w : World} {A : Around} {E : Value → Shared → Prop} {s₁ : Shared} {h₀ : Heap} {L : Addr} {m : Str → Option Value} {env : Env} {nw : List (Addr × Obj)}

/-- where a comprehension's block begins its turns: iterator, block's names, result -/
structure Blk (h₀ : Heap) (L I C D : Addr) (nw : List (Addr × Obj)) : Prop where
  IC : @Ne Nat I C
  ID : @Ne Nat I D
  CD : @Ne Nat C D
  IL : I ≠ L
  CL : C ≠ L
  DL : D ≠ L
  I0 : h₀.get? I = none
  C0 : h₀.get? C = none
  D0 : h₀.get? D = none
  off : Off3 I C D nw

theorem comp_shell {elt target iter : Expr} {ifs : List Expr} {rest : List Comprehension} {scope : Scope} {cl : List (Str × Addr)} {pos : Pos} {ax : Addr} {its : Array Value} {RR : Value → Addr → Result → Shared → Prop}
    (hl : s₁.heap.IsList ax its) (F : Fr h₀ L s₁.heap m) (N : News h₀ L s₁.heap nw) (hcell : ∀ y ∈ scope.names, y.2 ≠ .cell) (hkind : scope.kind = .function)
    (loop : ∀ I C D h tk mC, Blk h₀ L I C D nw → ax ≠ I → ax ≠ C → ax ≠ D → h.IsListIter I ax 0 → h.IsList ax its → h.get? D = some (lst []) → h.Ns C mC → Fr h₀ L h m → News h₀ L h nw → Stay s₁.heap h →
      codeAny (model prog w) A (.compLoop (.ListComp elt (⟨target, iter, ifs, 0⟩ :: rest) scope pos) 0 (.ref I) (.ref D) (compEnvC scope cl C env)) (RR (.ref D) C) { s₁ with heap := h, toks := tk }) :
    wpAny (model prog w) A (pyIter (.ref ax)) (fun it s₂ => wpAny (model prog w) A (newList []) (fun acc s₃ => wpAny (model prog w) A (newFunctionEnv scope env.globals cl [] env.qual none .none (some env)) (fun cenv s₄ =>
      codeAny (model prog w) A (.compStart (.ListComp elt (⟨target, iter, ifs, 0⟩ :: rest) scope pos) 0 it acc { cenv with scope := relabel scope env }) (RR acc cenv.locals) s₄) E s₃) E s₂) E s₁ := by
  have hax : ax < s₁.heap.objs.size := by obtain ⟨_, e, _⟩ := hl; exact Heap.lt_size e
  refine wpAny_pyIter_list hl ?_
  refine wpAny_newObj_type (wpAny_newFunctionEnv hcell (by intro y hy; simp at hy) (fun h₁ hns₁ hsb₁ => ?_) hkind)
  dsimp only at hns₁ hsb₁ ⊢
  generalize hH1 : s₁.heap.push { cls := .type "list_iterator", data := .fields #[.ref ax, .int 0 0] } = H1 at hns₁ hsb₁ ⊢
  have e1 : H1.objs.size = s₁.heap.objs.size + 1 := by rw [← hH1, Heap.size_push]
  generalize hH2 : H1.push { cls := .type "list", dict := none, data := .seq ([] : List Value).toArray } = H2 at hns₁ hsb₁ ⊢
  have e2 : H2.objs.size = s₁.heap.objs.size + 2 := by rw [← hH2, Heap.size_push, e1]
  have lt : ∀ b, b < s₁.heap.objs.size → b ≠ s₁.heap.objs.size ∧ b ≠ H2.objs.size ∧ b ≠ H1.objs.size := fun b (hb : @LT.lt Nat _ b s₁.heap.objs.size) =>
    ⟨Nat.ne_of_lt hb, by rw [e2]; exact Nat.ne_of_lt (Nat.lt_of_lt_of_le hb (Nat.le_add_right _ _)), by rw [e1]; exact Nat.ne_of_lt (Nat.lt_succ_of_lt hb)⟩
  have old : Stay s₁.heap h₁ := fun b o e => hsb₁.extBut b o (lt b (Heap.lt_size e)).2.1 (Heap.get?_push_of_some _ (hH2 ▸ Heap.get?_push_of_some _ (hH1 ▸ Heap.get?_push_of_some _ e)))
  have fresh : ∀ a, @LE.le Nat _ s₁.heap.objs.size a → h₀.get? a = none := fun a ha => by
    cases e : h₀.get? a with
    | none => rfl
    | some o => exact absurd (Heap.lt_size (F.keep a o e)) (Nat.not_lt.mpr ha)
  have hIC : s₁.heap.objs.size ≠ H2.objs.size := by rw [e2]; exact Nat.ne_of_lt (by omega)
  have hDC : H1.objs.size ≠ H2.objs.size := by rw [e1, e2]; exact Nat.ne_of_lt (by omega)
  have hIl : h₁.IsListIter s₁.heap.objs.size ax 0 :=
    ⟨_, hsb₁.extBut _ _ hIC (Heap.get?_push_of_some _ (hH2 ▸ Heap.get?_push_of_some _ (hH1 ▸ Heap.get?_push_size _ rfl))), rfl, rfl⟩
  have hDl : h₁.get? H1.objs.size = some (lst []) := hsb₁.extBut _ _ hDC (Heap.get?_push_of_some _ (hH2 ▸ Heap.get?_push_size _ rfl))
  have hL := F.ns.lt
  have blk : Blk h₀ L s₁.heap.objs.size H2.objs.size H1.objs.size nw :=
    ⟨hIC, by rw [e1]; exact Nat.ne_of_lt (by omega), hDC.symm, (lt L hL).1.symm, (lt L hL).2.1.symm, (lt L hL).2.2.symm, fresh _ (Nat.le_refl _), fresh _ (by rw [e2]; omega), fresh _ (by rw [e1]; omega),
      Off3.of fun p hp => let x := lt p.1 (Heap.lt_size (N p hp).1); ⟨x.1, x.2.1, x.2.2⟩⟩
  have go : ∀ tk, codeAny (model prog w) A (.compLoop (.ListComp elt (⟨target, iter, ifs, 0⟩ :: rest) scope pos) 0 (.ref s₁.heap.objs.size) (.ref H1.objs.size) (compEnvC scope cl H2.objs.size env))
      (RR (.ref H1.objs.size) H2.objs.size) { s₁ with heap := h₁, toks := tk } := fun tk =>
    loop _ _ _ h₁ tk _ blk (lt ax hax).1 (lt ax hax).2.1 (lt ax hax).2.2 hIl (hl.at fun o e => old _ o e) hDl hns₁ (F.keeps old) (N.grown old) old
  exact codeAny_compStart_list (go _) (wpAny_pyIter_listiter hIl (go _))

/-- one item is taken, unpacked into two names of the block -/
theorem take_pair {x x₂ : Str} {px px₂ tp : Pos} {kk : Nat} {scope : Scope} {cl : List (Str × Addr)} {I C D ax : Addr} {its : Array Value} {i : Nat} {h : Heap} {tk : Nat} {mC : Str → Option Value} {ys : List Value} {nw' : List (Addr × Obj)} {v₁ v₂ : Value} {t : Addr}
    {Q : Unit → Shared → Prop} {E' : Value → Shared → Prop}
    (hh : A.handled = none) (hkind : scope.kind = .function) (hx : scope.names.lookup x = some .local) (hx₂ : scope.names.lookup x₂ = some .local) (hxx : x ≠ x₂)
    (bl : Blk h₀ L I C D nw') (hit : h.IsListIter I ax i) (hl : h.IsList ax its) (hF : Fr h₀ L h m) (hN : News h₀ L h ((D, lst ys) :: nw')) (hC : h.Ns C mC) (haC : ax ≠ C)
    (ht : IsTup h t #[v₁, v₂])
    (k : ∀ oI oC h' tk' m₂, NsObj oC m₂ → m₂ x = some v₁ → m₂ x₂ = some v₂ → h'.IsListIter I ax i → h'.IsList ax its → Fr h₀ L h' m → News h₀ L h' ((I, oI) :: (C, oC) :: (D, lst ys) :: nw') → Q () { s₁ with heap := h', toks := tk' }) :
    wpAny (model prog w) A (letOwnedTupleGo (.Tuple [.Name x px, .Name x₂ px₂] kk tp) (.ref I) (.ref t)) (fun _ s₀ => wpAny (model prog w) A (assign (.Tuple [.Name x px, .Name x₂ px₂] kk tp) (compEnvC scope cl C env) (.ref t)) Q E' s₀) E' { s₁ with heap := h, toks := tk } := by
  refine wpAny_letOwnedTupleGo_listiter hit ?_
  refine assign_Tuple_tuple hh ht rfl rfl fun h₂ he => ?_
  have he' : Stay h h₂ := fun b o e => he b o (Nat.ne_of_lt (Heap.lt_size e)) e
  have hp : ((compEnvC scope cl C env).scope.kind == .class || ((compEnvC scope cl C env).scope.kind == .module && (compEnvC scope cl C env).locals != (compEnvC scope cl C env).globals)) = false := by simp [compEnvC, relabel, hkind]
  refine assignInOrder_cons (wpAny_assign_Name (wpAny_storeName_local (lookup_relabel_local hx) (hC.at' fun o e => he' _ o e) (fun h₃ hn₃ hs₃ => ?_) hp))
  refine assignInOrder_cons (wpAny_assign_Name (wpAny_storeName_local (lookup_relabel_local hx₂) hn₃ (fun h₄ hn₄ hs₄ => ?_) hp))
  refine assignInOrder_nil ?_
  have up : ∀ b o, b ≠ C → h.get? b = some o → h₄.get? b = some o := fun b o hb e => hs₄.extBut b o hb (hs₃.extBut b o hb (he' b o e))
  obtain ⟨oI, heI, rI⟩ := id hit
  obtain ⟨oC, heC, hoC⟩ := ns_obj hn₄
  have F₄ : Fr h₀ L h₄ m := ((hF.keeps he').change hs₃ bl.CL bl.C0).change hs₄ bl.CL bl.C0
  refine k oI oC h₄ _ _ hoC (by simp [hxx]) (by simp) ⟨oI, up _ _ bl.IC heI, rI⟩ (hl.at fun o e => up _ _ haC e) F₄ ?_
  have off := bl.off.mem
  intro p hp
  rcases List.mem_cons.mp hp with rfl | hp
  · exact ⟨up _ _ bl.IC heI, bl.IL, bl.I0⟩
  · rcases List.mem_cons.mp hp with rfl | hp
    · exact ⟨heC, bl.CL, bl.C0⟩
    · refine ⟨up _ _ ?_ (hN p hp).1, (hN p hp).2⟩
      rcases List.mem_cons.mp hp with rfl | hp
      · exact bl.CD.symm
      · exact (off p hp).2.1

theorem Blk.more {I C D : Addr} {pre : List (Addr × Obj)} (b : Blk h₀ L I C D nw) (h : Off3 I C D (nw ++ pre)) : Blk h₀ L I C D (nw ++ pre) := ⟨b.IC, b.ID, b.CD, b.IL, b.CL, b.DL, b.I0, b.C0, b.D0, h⟩

/-- pairs, one test, one new object each -/
theorem pt_block {α : Type} {ct elt iter : Expr} {x x₂ : Str} {px px₂ tp : Pos} {kk : Nat} {scope : Scope} {cl : List (Str × Addr)} {pos : Pos} {ax : Addr} {its : Array Value} {as : List α} {RR : Value → Addr → Result → Shared → Prop}
    (Rel : Value → α → Prop) (RelP : α → Value → Value → Prop) (p : α → Bool) (Res : Addr → Obj → Value → α → Prop)
    (hh : A.handled = none) (S : SrcAt h₀ ax its nw) (F : Fr h₀ L s₁.heap m) (N : News h₀ L s₁.heap nw) (hcell : ∀ y ∈ scope.names, y.2 ≠ .cell) (hkind : scope.kind = .function)
    (hx : scope.names.lookup x = some .local) (hx₂ : scope.names.lookup x₂ = some .local) (hxx : x ≠ x₂) (hr : All2 Rel its.toList as) (hsz : its.size ≤ 1000)
    (src : ∀ v a h, Rel v a → Fr h₀ L h m → News h₀ L h nw → ∃ t v₁ v₂, v = .ref t ∧ IsTup h t #[v₁, v₂] ∧ RelP a v₁ v₂)
    (test : ∀ a v₁ v₂ I oI C oC D ys m₂ h tk pre (E' : Value → Shared → Prop), RelP a v₁ v₂ → NsObj oC m₂ → m₂ x = some v₁ → m₂ x₂ = some v₂ → Fr h₀ L h m → News h₀ L h ((I, oI) :: (C, oC) :: (D, lst ys) :: (nw ++ pre)) →
      wpAny (model prog w) A (isTrue ct (compEnvC scope cl C env) (eval ct (compEnvC scope cl C env))) (fun ok s' => Stop (ok = p a ∧ ∃ h' tk', s' = { s₁ with heap := h', toks := tk' } ∧ Fr h₀ L h' m ∧ News h₀ L h' ((I, oI) :: (C, oC) :: (D, lst ys) :: (nw ++ pre)))) E' { s₁ with heap := h, toks := tk })
    (el : ∀ a v₁ v₂ I oI C oC D ys m₂ h tk pre (E' : Value → Shared → Prop), RelP a v₁ v₂ → NsObj oC m₂ → m₂ x = some v₁ → m₂ x₂ = some v₂ → Fr h₀ L h m → News h₀ L h ((I, oI) :: (C, oC) :: (D, lst ys) :: (nw ++ pre)) →
      wpAny (model prog w) A (eval elt (compEnvC scope cl C env)) (fun y s' => Stop (∃ h' tk' t o, s' = { s₁ with heap := h', toks := tk' } ∧ Fr h₀ L h' m ∧ News h₀ L h' ((t, o) :: (I, oI) :: (C, oC) :: (D, lst ys) :: (nw ++ pre)) ∧
        (@Ne Nat t I ∧ @Ne Nat t C ∧ @Ne Nat t D) ∧ Res t o y a)) E' { s₁ with heap := h, toks := tk })
    (hRR : ∀ D C h tk m' ys pre, Fr h₀ L h m → News h₀ L h ((D, lst ys) :: (nw ++ pre)) → Off1 D (nw ++ pre) → h.Ns C m' → h₀.get? C = none → C ≠ L → C ≠ D → (∀ p ∈ nw ++ pre, p.1 ≠ C) →
      All2 (fun y a => ∃ t o, (t, o) ∈ pre ∧ Res t o y a) ys (as.filter p) → (∀ p ∈ pre, ∃ y a, Res p.1 p.2 y a) → RR (.ref D) C (.ok .next) { s₁ with heap := h, toks := tk }) :
    wpAny (model prog w) A (pyIter (.ref ax)) (fun it s₂ => wpAny (model prog w) A (newList []) (fun acc s₃ => wpAny (model prog w) A (newFunctionEnv scope env.globals cl [] env.qual none .none (some env)) (fun cenv s₄ =>
      codeAny (model prog w) A (.compStart (.ListComp elt [⟨.Tuple [.Name x px, .Name x₂ px₂] kk tp, iter, [ct], 0⟩] scope pos) 0 it acc { cenv with scope := relabel scope env }) (RR acc cenv.locals) s₄) E s₃) E s₂) E s₁ := by
  refine comp_shell (S.list F.keep N) F N hcell hkind fun I C D h tk mC bl haI haC haD hit hl' hD hC F' N' _ => ?_
  have W := Walks.list (prog := prog) (w := w) hh I ax haI its
  refine kct_loop (fun k s' => ∃ h' tk' i ys mC' pre, s' = { s₁ with heap := h', toks := tk' } ∧ i ≤ its.size ∧ k = its.size + 1 - i ∧ h'.IsListIter I ax i ∧ h'.IsList ax its ∧ Fr h₀ L h' m ∧ h'.Ns C mC' ∧
      News h₀ L h' ((D, lst ys) :: (nw ++ pre)) ∧ Off3 I C D (nw ++ pre) ∧ ys.length ≤ i ∧ All2 (fun y a => ∃ t o, (t, o) ∈ pre ∧ Res t o y a) ys ((as.take i).filter p) ∧ ∀ p ∈ pre, ∃ y a, Res p.1 p.2 y a) ?_ (its.size + 1)
    ⟨h, tk, 0, [], mC, [], rfl, Nat.zero_le _, rfl, hit, hl', F', hC, by simpa using news_cons hD bl.DL bl.D0 N', by simpa using bl.off, Nat.le_refl _, by simpa using All2.nil, fun _ hp => nomatch hp⟩
  rintro k s' ⟨h', tk', i, ys, mC', pre, rfl, hi, rfl, hit', hl'', F'', hC', N'', off, hyl, hy, hpre⟩
  have bl' := bl.more off
  have offm := off.mem
  by_cases hlt : i < its.size
  · refine W.item i _ _ _ hlt ⟨hit', hl''⟩ fun v h₂ tk₂ hPv hst₂ hk₂ => ?_
    obtain ⟨a, ha, hRel⟩ := hr.get (i := i) (a := v) (by simpa using hPv)
    have hkN : News h₀ L h₂ ((D, lst ys) :: (nw ++ pre)) := news_but N'' hk₂ fun q hq => by
      rcases List.mem_cons.mp hq with rfl | hq
      · exact bl.ID.symm
      · exact (offm q hq).1
    have hkF : Fr h₀ L h₂ m := fr_but F'' hk₂ bl.IL.symm bl.I0
    have hkC : h₂.Ns C mC' := hC'.at' fun o e => hk₂ _ o (by simpa using bl.IC.symm) e
    obtain ⟨t, v₁, v₂, rfl, htup, hRP⟩ := src v a h₂ hRel hkF (fun q hq => hkN q (List.mem_cons_of_mem _ (List.mem_append.mpr (.inl hq))))
    have hf : (as.take (i + 1)).filter p = (as.take i).filter p ++ (if p a = true then [a] else []) := by
      rw [List.take_add_one, ha, List.filter_append]; congr 1; show List.filter p [a] = _; rw [List.filter_cons]; rfl
    refine take_pair (s₁ := s₁) hh hkind hx hx₂ hxx bl' hst₂.1 hst₂.2 hkF hkN hkC haC htup fun oI oC h₃ tk₃ m₂ hoC hm1 hm2 hit₃ hl₃ F₃ N₃ => ?_
    refine wpAny_mono (test a v₁ v₂ I oI C oC D ys m₂ h₃ tk₃ pre _ hRP hoC hm1 hm2 F₃ N₃) (fun ok s' hq => ?_) fun _ _ e => e
    obtain ⟨rfl, h₄, tk₄, rfl, F₄, N₄⟩ := hq.out
    have hit₄ : ∀ {hx : Heap}, hx.get? I = some oI → hx.IsListIter I ax (i + 1) := fun e => by
      obtain ⟨o, ho, r⟩ := hit₃
      rw [(N₃ (I, oI) (List.mem_cons_self ..)).1] at ho; cases ho
      exact ⟨oI, e, r⟩
    have sub₄ : ∀ {hx : Heap} {q : List (Addr × Obj)}, News h₀ L hx ((I, oI) :: (C, oC) :: (D, lst ys) :: (nw ++ pre)) → News h₀ L hx nw := fun n q hq => n q (.tail _ (.tail _ (.tail _ (List.mem_append.mpr (.inl hq)))))
    cases hp : p a with
    | false =>
      simp only [Bool.false_eq_true, if_false]
      refine ⟨its.size + 1 - (i + 1), by omega, h₄, tk₄, i + 1, ys, m₂, pre, rfl, hlt, rfl, hit₄ (N₄ (I, oI) (.head _)).1, S.list F₄.keep (fun q hq => N₄ q (.tail _ (.tail _ (.tail _ (List.mem_append.mpr (.inl hq)))))), F₄, hoC.ns (N₄ (C, oC) (.tail _ (.head _))).1,
        fun q hq => N₄ q (.tail _ (.tail _ hq)), off, by omega, ?_, hpre⟩
      rw [hf, hp]
      simpa using hy
    | true =>
      simp only [if_true]
      refine wpAny_mono (el a v₁ v₂ I oI C oC D ys m₂ h₄ tk₄ pre _ hRP hoC hm1 hm2 F₄ N₄) (fun y s' hq => ?_) fun _ _ e => e
      obtain ⟨h₅, tk₅, t', o', rfl, F₅, N₅, hne, hR⟩ := hq.out
      have zD := (N₅ (D, lst ys) (.tail _ (.tail _ (.tail _ (.head _))))).1
      have zC := (N₅ (C, oC) (.tail _ (.tail _ (.head _)))).1
      have zI := (N₅ (I, oI) (.tail _ (.head _))).1
      have zN : News h₀ L h₅ (nw ++ (t', o') :: pre) := by
        intro q hq
        rcases List.mem_append.mp hq with hq | hq
        · exact N₅ q (.tail _ (.tail _ (.tail _ (.tail _ (List.mem_append.mpr (.inl hq))))))
        · rcases List.mem_cons.mp hq with rfl | hq
          · exact N₅ _ (.head _)
          · exact N₅ q (.tail _ (.tail _ (.tail _ (.tail _ (List.mem_append.mpr (.inr hq))))))
      have off' : Off3 I C D (nw ++ (t', o') :: pre) := Off3.of fun q hq => by
        rcases List.mem_append.mp hq with hq | hq
        · exact offm q (List.mem_append.mpr (.inl hq))
        · rcases List.mem_cons.mp hq with rfl | hq
          · exact hne
          · exact offm q (List.mem_append.mpr (.inr hq))
      refine append_at (hsz := by show ys.toArray.size ≤ sizeLine; rw [List.size_toArray, sizeLine_eq]; omega) zD fun h₆ hs₆ hD₆ => ?_
      have up : ∀ b o, b ≠ D → h₅.get? b = some o → h₆.get? b = some o := fun b o hb e => hs₆.extBut b o hb e
      have zN₆ : News h₀ L h₆ (nw ++ (t', o') :: pre) := fun q hq => ⟨up _ _ (off'.mem q hq).2.2 (zN q hq).1, (zN q hq).2⟩
      have F₆ : Fr h₀ L h₆ m := F₅.change hs₆ bl.DL bl.D0
      refine ⟨its.size + 1 - (i + 1), by omega, h₆, tk₅, i + 1, ys ++ [y], m₂, (t', o') :: pre, rfl, hlt, rfl, hit₄ (up _ _ bl.ID zI), S.list F₆.keep (fun q hq => zN₆ q (List.mem_append.mpr (.inl hq))), F₆, hoC.ns (up _ _ bl.CD zC),
        news_cons (by rw [← lst_snoc]; exact hD₆) bl.DL bl.D0 zN₆, off', by simp; omega, ?_, fun q hq => (List.mem_cons.mp hq).elim (fun e => by subst e; exact ⟨_, _, hR⟩) (hpre q)⟩
      rw [hf, hp, if_pos rfl]
      exact (hy.mono fun y a ⟨t, o, hm, hr⟩ => ⟨t, o, List.mem_cons_of_mem _ hm, hr⟩).append (.cons ⟨t', o', List.mem_cons_self .., hR⟩ .nil)
  · obtain rfl : i = its.size := Nat.le_antisymm hi (Nat.not_lt.mp hlt)
    refine W.done _ _ _ ⟨hit', hl''⟩ fun h₂ tk₂ hk₂ => ?_
    rw [List.take_of_length_le (by have := hr.length; simp at this; omega)] at hy
    refine hRR D C h₂ tk₂ mC' ys pre (fr_but F'' hk₂ bl.IL.symm bl.I0) (news_but N'' hk₂ fun q hq => ?_) (off1_of fun q hq => (offm q hq).2.2) (hC'.at' fun o e => hk₂ _ o (by simpa using bl.IC.symm) e) bl.C0 bl.CL bl.CD (fun q hq => (offm q hq).2.1) hy hpre
    rcases List.mem_cons.mp hq with rfl | hq
    · exact bl.ID.symm
    · exact (offm q hq).1

section
variable {s : Shared} {elt target iter : Expr} {ifs : List Expr} {rest : List Comprehension} {scope : Scope} {cl : List (Str × Addr)} {pos : Pos}
theorem eval_shell {Q : Value → Shared → Prop} (hclos : closureFor scope env = pure cl) (hkind : scope.kind = .function) (hnames : ∀ z ∈ scope.names, z.2 = .local → scope.names.lookup z.1 = some .local)
    (h : wpAny (model prog w) A (eval iter env) (fun xv s₁ => Stop (wpAny (model prog w) A (pyIter xv) (fun it s₂ => wpAny (model prog w) A (newList []) (fun acc s₃ => wpAny (model prog w) A (newFunctionEnv scope env.globals cl [] env.qual none .none (some env)) (fun cenv s₄ =>
      codeAny (model prog w) A (.compStart (.ListComp elt (⟨target, iter, ifs, 0⟩ :: rest) scope pos) 0 it acc { cenv with scope := relabel scope env }) (compPost (model prog w) A E none Q acc cenv.locals) s₄) E s₃) E s₂) E s₁)) E s)
    (hs : ∀ x, foldedSetIterable iter env x = pure x := by intro _; rfl) :
    wpAny (model prog w) A (eval (.ListComp elt (⟨target, iter, ifs, 0⟩ :: rest) scope pos) env) Q E s := by
  rw [eval_ListComp]
  exact wpAny_comprehension_free (use := none) rfl hs hclos hkind hnames (wpAny_mono h (fun _ _ h₁ => h₁) fun _ _ e => e)
theorem Assign_shell {Q : Flow → Shared → Prop} {y : Str} {py spos : Pos} (hsw : swapsWith (.ListComp elt (⟨target, iter, ifs, 0⟩ :: rest) scope pos) (some (.Name y py)) spos.line env = pure true)
    (hclos : closureFor scope env = pure cl) (hkind : scope.kind = .function) (hnames : ∀ z ∈ scope.names, z.2 = .local → scope.names.lookup z.1 = some .local)
    (h : wpAny (model prog w) A (eval iter env) (fun xv s₁ => Stop (wpAny (model prog w) A (pyIter xv) (fun it s₂ => wpAny (model prog w) A (newList []) (fun acc s₃ => wpAny (model prog w) A (newFunctionEnv scope env.globals cl [] env.qual none .none (some env)) (fun cenv s₄ =>
      codeAny (model prog w) A (.compStart (.ListComp elt (⟨target, iter, ifs, 0⟩ :: rest) scope pos) 0 it acc { cenv with scope := relabel scope env }) (compPost (model prog w) A E (some (assign (.Name y py) env)) (fun _ s' => Q .next s') acc cenv.locals) s₄) E s₃) E s₂) E s₁)) E s)
    (hs : ∀ x, foldedSetIterable iter env x = pure x := by intro _; rfl) :
    wpAny (model prog w) A (exec (.Assign [.Name y py] (.ListComp elt (⟨target, iter, ifs, 0⟩ :: rest) scope pos) spos) env) Q E s := by
  rw [exec_Assign_Name_used _ _ _ _ hsw]
  refine wpAny_bind (wpAny_standAt (wpAny_bind ?_))
  show wpAny _ A (do let _ ← comprehension (.ListComp elt (⟨target, iter, ifs, 0⟩ :: rest) scope pos) scope env _ (newList []) false (eval iter env) (some (assign (.Name y py) env))) _ _ s
  exact wpAny_bind (wpAny_mono (wpAny_comprehension_free (use := some (assign (.Name y py) env)) (Q := fun _ s' => Q .next s') rfl hs hclos hkind hnames
    (wpAny_mono h (fun _ _ h₁ => h₁) fun _ _ e => e)) (fun _ s' hq => wpAny_pure (wpAny_pure hq)) fun _ _ e => e)

variable {D C : Addr} {h : Heap} {tk : Nat} {m' : Str → Option Value} {ys : List Value} {nw' : List (Addr × Obj)}
theorem news_but_C {h' : Heap} (N : News h₀ L h ((D, lst ys) :: nw')) (hs : Heap.SameBut C h h') (CD : @Ne Nat C D) (offC : ∀ p ∈ nw', p.1 ≠ C) : News h₀ L h' ((D, lst ys) :: nw') := by
  intro p hp
  refine ⟨hs.extBut _ _ ?_ (N p hp).1, (N p hp).2⟩
  rcases List.mem_cons.mp hp with rfl | hp
  · exact CD.symm
  · exact offC p hp
theorem post_eval {Q : Value → Shared → Prop} (F : Fr h₀ L h m) (N : News h₀ L h ((D, lst ys) :: nw')) (hC : h.Ns C m') (C0 : h₀.get? C = none) (CL : C ≠ L) (CD : @Ne Nat C D) (offC : ∀ p ∈ nw', p.1 ≠ C)
    (fin : ∀ h' tk', Fr h₀ L h' m → News h₀ L h' ((D, lst ys) :: nw') → Q (.ref D) { s with heap := h', toks := tk' }) :
    compPost (model prog w) A E none Q (.ref D) C (.ok .next) { s with heap := h, toks := tk } :=
  ⟨m', hC, fun h'' hs => fin h'' tk (F.change hs CL C0) (news_but_C N hs CD offC)⟩
theorem post_assign {Q : Shared → Prop} {y : Str} {py : Pos} (hLe : env.locals = L) (hy : env.kindOf y = some .local) (hp : (env.scope.kind == .class || (env.scope.kind == .module && env.locals != env.globals)) = false)
    (F : Fr h₀ L h m) (N : News h₀ L h ((D, lst ys) :: nw')) (hC : h.Ns C m') (C0 : h₀.get? C = none) (CL : C ≠ L) (CD : @Ne Nat C D) (offC : ∀ p ∈ nw', p.1 ≠ C)
    (fin : ∀ h' tk', Fr h₀ L h' (fun z => if z = y then some (.ref D) else m z) → News h₀ L h' ((D, lst ys) :: nw') → Q { s with heap := h', toks := tk' }) :
    compPost (model prog w) A E (some (assign (.Name y py) env)) (fun _ s' => Q s') (.ref D) C (.ok .next) { s with heap := h, toks := tk } := by
  subst hLe
  show wpAny _ A (assign (.Name y py) env (.ref D)) _ _ _
  refine wpAny_assign_Name (wpAny_storeName_local hy F.ns (fun h₂ hn₂ hs₂ => ?_) hp)
  have F₂ : Fr h₀ env.locals h₂ (fun z => if z = y then some (.ref D) else m z) := F.set hn₂ hs₂
  exact ⟨m', hC.sameBut hs₂ CL, fun h'' hs => fin h'' _ (F₂.change hs CL C0) (news_but_C (N.set hs₂) hs CD offC)⟩
end
end
end Mine
end PartMPair

section PartMPure
namespace Mine

def flatR (rs : List (Int × List Int)) : List (Int × Int) := rs.flatMap fun r => r.2.map fun u => (u, r.1)

structure Nums (nu tp fl : Int) (us : List Int) (ps : List (Int × Int)) (rs : List (Int × List Int)) : Prop where
  up : us.Pairwise (· < ·)
  lt : ∀ u ∈ us, u < nu
  eq : ps = flatR rs
  tops : rs.Pairwise (fun a b => a.1 < b.1)
  top : ∀ r ∈ rs, fl < r.1 ∧ r.1 ≤ tp
  ne : ∀ r ∈ rs, r.2 ≠ [] ∧ r.2.length ≤ 4
  ft : fl ≤ tp

theorem filter_sub {W us : List Int} (h : W.Sublist us) (hu : us.Pairwise (· < ·)) : us.filter (fun n => decide (n ∈ W)) = W := by
  induction h with
  | slnil => rfl
  | @cons l₁ l₂ a h ih =>
    have hp := List.pairwise_cons.mp hu
    have ha : a ∉ l₁ := fun hm => by have := hp.1 a (h.subset hm); omega
    rw [List.filter_cons, if_neg (by simpa using ha)]
    exact ih hp.2
  | @cons_cons l₁ l₂ a h ih =>
    have hp := List.pairwise_cons.mp hu
    rw [List.filter_cons, if_pos (by simp)]
    congr 1
    refine Eq.trans (List.filter_congr fun x hx => ?_) (ih hp.2)
    have := hp.1 x hx
    have hne : x ≠ a := by omega
    simp [hne]

theorem sorted_perm : ∀ {l k : List Int}, l.Perm k → l.Pairwise (· ≤ ·) → k.Pairwise (· < ·) → l = k
  | [], k, h, _, _ => by simpa using h.symm
  | a :: l, k, h, hl, hk => by
    cases k with
    | nil => simpa using h
    | cons b k =>
      have hl' := List.pairwise_cons.mp hl
      have hk' := List.pairwise_cons.mp hk
      have hab : a = b := by
        have h1 : a ∈ b :: k := h.subset (List.mem_cons_self ..)
        have h2 : b ∈ a :: l := h.symm.subset (List.mem_cons_self ..)
        rcases List.mem_cons.mp h1 with h1 | h1
        · exact h1
        · rcases List.mem_cons.mp h2 with h2 | h2
          · exact h2.symm
          · have e1 := hk'.1 a h1
            have e2 := hl'.1 b h2
            omega
      subst hab
      rw [sorted_perm ((List.perm_cons a).mp h) hl'.2 hk'.2]

theorem Nums.add {nu tp fl : Int} {us : List Int} {ps : List (Int × Int)} {rs : List (Int × List Int)} (N : Nums nu tp fl us ps rs) (n : Nat) :
    Nums (nu + n) (tp + n) fl (us ++ (List.range n).map fun i : Nat => nu + (i : Int)) ps rs where
  up := by
    refine List.pairwise_append.mpr ⟨N.up, ?_, ?_⟩
    · rw [List.pairwise_map]
      exact List.pairwise_lt_range.imp fun h => by omega
    · intro a ha b hb
      obtain ⟨i, hi, rfl⟩ := List.mem_map.mp hb
      have := N.lt a ha
      omega
  lt := fun u hu => by
    rcases List.mem_append.mp hu with hu | hu
    · have := N.lt u hu; omega
    · obtain ⟨i, hi, rfl⟩ := List.mem_map.mp hu
      have := List.mem_range.mp hi
      omega
  eq := N.eq
  tops := N.tops
  top := fun r hr => by have := N.top r hr; omega
  ne := N.ne
  ft := by have := N.ft; omega

theorem flatR_append (a b : List (Int × List Int)) : flatR (a ++ b) = flatR a ++ flatR b := by simp [flatR]
theorem Nums.round {nu tp fl : Int} {us W : List Int} {ps : List (Int × Int)} {rs : List (Int × List Int)} (N : Nums nu tp fl us ps rs) (h0 : W ≠ []) (h4 : W.length ≤ 4) :
    Nums nu (tp + 1) fl (us.filter fun n => !decide (n ∈ W)) (ps ++ W.map fun u => (u, tp + 1)) (rs ++ [(tp + 1, W)]) where
  up := N.up.filter _
  lt := fun u hu => N.lt u (List.mem_filter.mp hu).1
  eq := by rw [flatR_append, N.eq]; simp [flatR]
  tops := by
    refine List.pairwise_append.mpr ⟨N.tops, by simp, fun a ha b hb => ?_⟩
    rw [List.mem_singleton.mp hb]
    have := N.top a ha
    show a.1 < tp + 1
    omega
  top := fun r hr => by
    rcases List.mem_append.mp hr with hr | hr
    · have := N.top r hr; omega
    · rw [List.mem_singleton.mp hr]
      have := N.ft
      constructor
      · show fl < tp + 1; omega
      · exact Int.le_refl _
  ne := fun r hr => by
    rcases List.mem_append.mp hr with hr | hr
    · exact N.ne r hr
    · rw [List.mem_singleton.mp hr]; exact ⟨h0, h4⟩
  ft := by have := N.ft; omega
theorem Nums.len {nu tp fl : Int} {us : List Int} {ps : List (Int × Int)} {rs : List (Int × List Int)} (N : Nums nu tp fl us ps rs) : ps.length ≤ 4 * rs.length := by
  rw [N.eq]
  have h := N.ne
  clear N
  induction rs with
  | nil => simp [flatR]
  | cons r rs ih =>
    have h1 := (h r (List.mem_cons_self ..)).2
    have h2 := ih fun x hx => h x (List.mem_cons_of_mem _ hx)
    have : flatR (r :: rs) = (r.2.map fun u => (u, r.1)) ++ flatR rs := by simp [flatR]
    rw [this, List.length_append, List.length_map, List.length_cons]
    omega
end Mine
end PartMPure

section PartM2C
open PySem PySem.W PyProof.Rows PySem.Calls PyProof.Rows.LCg
set_option maxHeartbeats 1600000
namespace Mine
section
variable {prog : Program} {w : World} {A : Around} {E : Value → Shared → Prop} {s : Shared} {R : Result → Shared → Prop}
theorem compTurn_in (elt t1 i1 t2 i2 : Expr) (scope : Scope) (pos : Pos) (it acc : Value) (env : Env) :
    compTurn (.ListComp elt [⟨t1, i1, [], 0⟩, ⟨t2, i2, [], 0⟩] scope pos) 1 it acc env = (standAt i2.pos >>= fun _ => pyNext it >>= fun r => match r with
      | none => pure (.done .next)
      | some v => letOwnedTupleGo t2 it v >>= fun _ => assign t2 env v >>= fun _ =>
        (eval elt env >>= fun x => call (.builtin "list.append") [acc, x] >>= fun _ => pure ()) >>= fun _ =>
          again (.compLoop (.ListComp elt [⟨t1, i1, [], 0⟩, ⟨t2, i2, [], 0⟩] scope pos) 1 it acc env)) := by rfl
theorem compTurn_out (elt t1 i1 t2 i2 : Expr) (scope : Scope) (pos : Pos) (it acc : Value) (env : Env) :
    compTurn (.ListComp elt [⟨t1, i1, [], 0⟩, ⟨t2, i2, [], 0⟩] scope pos) 0 it acc env = (standAt i1.pos >>= fun _ => pyNext it >>= fun r => match r with
      | none => pure (.done .next)
      | some v => letOwnedTupleGo t1 it v >>= fun _ => assign t1 env v >>= fun _ =>
        (eval i2 env >>= fun x => standAt i2.pos >>= fun _ => foldedSetIterable i2 env x >>= fun x => holding [x] (pyIter x) >>= fun it2 =>
          runOwn (.compStart (.ListComp elt [⟨t1, i1, [], 0⟩, ⟨t2, i2, [], 0⟩] scope pos) 1 it2 acc env) env >>= fun _ => 
          again (.compLoop (.ListComp elt [⟨t1, i1, [], 0⟩, ⟨t2, i2, [], 0⟩] scope pos) 0 it acc env))) := by rfl

abbrev nby (prog : Program) (w : World) (A : Around) (env : Env) (R : Result → Shared → Prop) : Value → Shared → Prop := notedBy (model prog w) A env fun e s' => R (.error e) s'

theorem in_loop {elt t1 i1 t2 i2 : Expr} {scope : Scope} {pos : Pos} {it acc : Value} {env : Env} (I : Nat → Shared → Prop)
    (turn : ∀ n s, I n s → wpAny (model prog w) A (pyNext it) (fun r s₁ => match r with
      | none => R (.ok .next) s₁
      | some v => wpAny (model prog w) A (assign t2 env v) (fun _ s₂ => wpAny (model prog w) A (eval elt env) (fun x s₃ =>
          wpAny (model prog w) A (call (.builtin "list.append") [acc, x]) (fun _ s₄ => ∃ m, m < n ∧ I m s₄) (nby prog w A env R) s₃) (nby prog w A env R) s₂) (nby prog w A env R) s₁) (nby prog w A env R) s)
    (n : Nat) (h : I n s) (ht : ∀ v, letOwnedTupleGo t2 it v = pure () := by intro _; rfl) :
    codeAny (model prog w) A (.compLoop (.ListComp elt [⟨t1, i1, [], 0⟩, ⟨t2, i2, [], 0⟩] scope pos) 1 it acc env) R s := by
  refine codeAny_loop rfl I (fun n s hI => ?_) n h
  show wpAny _ _ ((compTurn (.ListComp elt [⟨t1, i1, [], 0⟩, ⟨t2, i2, [], 0⟩] scope pos) 1 it acc env).onRaise (fun x => do noteFrame x env; theTreesLotGoes x)) _ _ s
  refine wpAny_noted ?_
  rw [compTurn_in]
  refine wpAny_bind (wpAny_standAt (wpAny_bind (wpAny_mono (turn n s hI) (fun r s₁ h₁ => ?_) fun _ _ h' => h')))
  cases r with
  | none => exact wpAny_pure h₁
  | some v =>
    refine wpAny_bind (wpAny_of_eq (ht v) ?_)
    exact wpAny_bind (wpAny_mono h₁ (fun _ s₂ h₂ => wpAny_bind (wpAny_bind (wpAny_mono h₂ (fun x s₃ h₃ => wpAny_bind (wpAny_mono h₃
      (fun _ s₄ h₄ => wpAny_pure (wpAny_pure ⟨rfl, h₄⟩)) fun _ _ h' => h')) fun _ _ h' => h'))) fun _ _ h' => h')

theorem out_loop {elt t1 i1 t2 i2 : Expr} {scope : Scope} {pos : Pos} {it acc : Value} {env : Env} (I : Nat → Shared → Prop)
    (turn : ∀ n s, I n s → wpAny (model prog w) A (pyNext it) (fun r s₁ => match r with
      | none => R (.ok .next) s₁
      | some v => wpAny (model prog w) A (letOwnedTupleGo t1 it v) (fun _ s₀ => wpAny (model prog w) A (assign t1 env v) (fun _ s₂ => wpAny (model prog w) A (eval i2 env) (fun x s₃ =>
          wpAny (model prog w) A (pyIter x) (fun it2 s₄ => codeAny (model prog w) A (.compStart (.ListComp elt [⟨t1, i1, [], 0⟩, ⟨t2, i2, [], 0⟩] scope pos) 1 it2 acc env) (fun r s₅ => match r with
            | .ok _ => ∃ m, m < n ∧ I m s₅
            | .error e => cameBackBy (model prog w) A env (nby prog w A env R) e s₅) s₄) (nby prog w A env R) s₃) (nby prog w A env R) s₂) (nby prog w A env R) s₀) (nby prog w A env R) s₁) (nby prog w A env R) s)
    (n : Nat) (h : I n s) (hs : ∀ x, foldedSetIterable i2 env x = pure x := by intro _; rfl) :
    codeAny (model prog w) A (.compLoop (.ListComp elt [⟨t1, i1, [], 0⟩, ⟨t2, i2, [], 0⟩] scope pos) 0 it acc env) R s := by
  refine codeAny_loop rfl I (fun n s hI => ?_) n h
  show wpAny _ _ ((compTurn (.ListComp elt [⟨t1, i1, [], 0⟩, ⟨t2, i2, [], 0⟩] scope pos) 0 it acc env).onRaise (fun x => do noteFrame x env; theTreesLotGoes x)) _ _ s
  refine wpAny_noted ?_
  rw [compTurn_out]
  refine wpAny_bind (wpAny_standAt (wpAny_bind (wpAny_mono (turn n s hI) (fun r s₁ h₁ => ?_) fun _ _ h' => h')))
  cases r with
  | none => exact wpAny_pure h₁
  | some v =>
    refine wpAny_bind (wpAny_mono h₁ (fun _ s₀ h₀ => ?_) fun _ _ h' => h')
    refine wpAny_bind (wpAny_mono h₀ (fun _ s₂ h₂ => ?_) fun _ _ h' => h')
    refine wpAny_bind (wpAny_mono h₂ (fun x s₃ h₃ => ?_) fun _ _ h' => h')
    refine wpAny_bind (wpAny_standAt (wpAny_bind (wpAny_of_eq (hs x) ?_)))
    refine wpAny_bind (wpAny_holding (wpAny_mono h₃ (fun it2 s₄ h₄ => ?_) fun _ _ h' => h'))
    refine wpAny_bind (wpAny_runOwn ?_)
    refine codeAny_mono h₄ fun r s₅ h₅ => ?_
    cases r with
    | ok f => exact wpAny_pure ⟨rfl, h₅⟩
    | error e => exact h₅

theorem start_in {elt t1 i1 t2 i2 : Expr} {scope : Scope} {pos : Pos} {it acc : Value} {env : Env}
    (h0 : codeAny (model prog w) A (.compLoop (.ListComp elt [⟨t1, i1, [], 0⟩, ⟨t2, i2, [], 0⟩] scope pos) 1 it acc env) R s)
    (h : wpAny (model prog w) A (pyIter it) (fun it' s' => codeAny (model prog w) A (.compLoop (.ListComp elt [⟨t1, i1, [], 0⟩, ⟨t2, i2, [], 0⟩] scope pos) 1 it' acc env) R s')
      (notedBy (model prog w) A env fun x s' => R (.error x) s') s) :
    codeAny (model prog w) A (.compStart (.ListComp elt [⟨t1, i1, [], 0⟩, ⟨t2, i2, [], 0⟩] scope pos) 1 it acc env) R s := by
  refine codeAny_of_tree ?_
  show wpAny _ _ ((compStart (.ListComp elt [⟨t1, i1, [], 0⟩, ⟨t2, i2, [], 0⟩] scope pos) 1 it acc env).onRaise (fun x => do noteFrame x env; standAt theWindowsPlace)) _ _ s
  refine wpAny_notedAt ?_
  unfold compStart
  show wpAny _ _ (ask >>= _) _ _ s
  refine wpAny_bind (wpAny_askSetting (wpAny_ite ?_))
  split
  · first
      | exact wpAny_bind (wpAny_pure (wpAny_pure (And.intro rfl h0)))
      | exact wpAny_pure (And.intro rfl h0)
  · first
      | exact wpAny_bind (wpAny_rule (wpAny_bind (wpAny_standAt (wpAny_bind (wpAny_mono h (fun it' s' h' => wpAny_pure (And.intro rfl h')) fun _ _ x => x)))))
      | (refine wpAny_bind (wpAny_rule ?_); show wpAny _ _ (standAt i2.pos >>= _) _ _ s; exact wpAny_bind (wpAny_standAt (wpAny_bind (wpAny_mono h (fun it' s' h' => wpAny_pure (And.intro rfl h')) fun _ _ x => x))))
end

theorem ints_get {vs : List Value} {ns : List Int} (h : IntsAre vs ns) : ∀ {j : Nat} {v : Value}, vs[j]? = some v → ∃ n t, ns[j]? = some n ∧ v = .int n t := by
  induction h with
  | nil => intro j v e; simp at e
  | cons n t _ ih =>
    intro j v e
    cases j with
    | zero => simp at e; exact ⟨n, t, rfl, e.symm⟩
    | succ j => simpa using ih (by simpa using e)

section
variable {prog : Program} {w : World} {A : Around} {E : Value → Shared → Prop} {s₁ : Shared} {h₀ : Heap} {L : Addr} {m : Str → Option Value} {env : Env} {nw : List (Addr × Obj)}
/-- pairs (a number, a list of ints), then each int of it: one new object each -/
theorem uu_block {elt iter : Expr} {x x₂ y : Str} {px px₂ py tp pi : Pos} {kk : Nat} {scope : Scope} {cl : List (Str × Addr)} {pos : Pos} {ax : Addr} {its : Array Value} {rs : List (Int × List Int)} {RR : Value → Addr → Result → Shared → Prop}
    (Rel : Value → (Int × List Int) → Prop) (Res : Addr → Obj → Value → Int → Int → Prop)
    (hh : A.handled = none) (S : SrcAt h₀ ax its nw) (F : Fr h₀ L s₁.heap m) (N : News h₀ L s₁.heap nw) (hcell : ∀ y ∈ scope.names, y.2 ≠ .cell) (hkind : scope.kind = .function)
    (hx : scope.names.lookup x = some .local) (hx₂ : scope.names.lookup x₂ = some .local) (hy : scope.names.lookup y = some .local) (hxx : x ≠ x₂) (hyx : x ≠ y) (hyx₂ : x₂ ≠ y) (hr : All2 Rel its.toList rs) (hsz : its.size ≤ 8) (hlen : ∀ r ∈ rs, r.2.length ≤ 4)
    (src : ∀ v r h, Rel v r → Fr h₀ L h m → News h₀ L h nw → ∃ t t₁ ul uvs, v = .ref t ∧ IsTup h t #[.int r.1 t₁, .ref ul] ∧ SrcAt h₀ ul (List.toArray uvs) nw ∧ IntsAre uvs r.2)
    (src2 : ∀ (r : Int × List Int) t₁ ul I oI C oC D ys m₂ h tk pre (E' : Value → Shared → Prop), NsObj oC m₂ → m₂ x = some (.int r.1 t₁) → m₂ x₂ = some (.ref ul) → Fr h₀ L h m → News h₀ L h ((I, oI) :: (C, oC) :: (D, lst ys) :: (nw ++ pre)) →
      wpAny (model prog w) A (eval (.Name x₂ pi) (compEnvC scope cl C env)) (fun z s' => Stop (z = .ref ul ∧ ∃ h' tk', s' = { s₁ with heap := h', toks := tk' } ∧ Fr h₀ L h' m ∧ News h₀ L h' ((I, oI) :: (C, oC) :: (D, lst ys) :: (nw ++ pre)))) E' { s₁ with heap := h, toks := tk })
    (el : ∀ (r : Int × List Int) u tu t₁ I2 oI2 I oI C oC D ys m₂ h tk pre (E' : Value → Shared → Prop), NsObj oC m₂ → m₂ x = some (.int r.1 t₁) → m₂ y = some (.int u tu) → Fr h₀ L h m → News h₀ L h ((I2, oI2) :: (I, oI) :: (C, oC) :: (D, lst ys) :: (nw ++ pre)) →
      wpAny (model prog w) A (eval elt (compEnvC scope cl C env)) (fun z s' => Stop (∃ h' tk' t o, s' = { s₁ with heap := h', toks := tk' } ∧ Fr h₀ L h' m ∧ News h₀ L h' ((t, o) :: (I2, oI2) :: (I, oI) :: (C, oC) :: (D, lst ys) :: (nw ++ pre)) ∧
        (@Ne Nat t I2 ∧ @Ne Nat t I ∧ @Ne Nat t C ∧ @Ne Nat t D) ∧ Res t o z u r.1)) E' { s₁ with heap := h, toks := tk })
    (hRR : ∀ D C h tk m' ys pre, Fr h₀ L h m → News h₀ L h ((D, lst ys) :: (nw ++ pre)) → Off1 D (nw ++ pre) → h.Ns C m' → h₀.get? C = none → C ≠ L → C ≠ D → (∀ p ∈ nw ++ pre, p.1 ≠ C) →
      All2 (fun z (q : Int × Int) => ∃ t o, (t, o) ∈ pre ∧ Res t o z q.1 q.2) ys (flatR rs) → (∀ p ∈ pre, ∃ z u q, Res p.1 p.2 z u q) → RR (.ref D) C (.ok .next) { s₁ with heap := h, toks := tk }) :
    wpAny (model prog w) A (pyIter (.ref ax)) (fun it s₂ => wpAny (model prog w) A (newList []) (fun acc s₃ => wpAny (model prog w) A (newFunctionEnv scope env.globals cl [] env.qual none .none (some env)) (fun cenv s₄ =>
      codeAny (model prog w) A (.compStart (.ListComp elt [⟨.Tuple [.Name x px, .Name x₂ px₂] kk tp, iter, [], 0⟩, ⟨.Name y py, .Name x₂ pi, [], 0⟩] scope pos) 0 it acc { cenv with scope := relabel scope env }) (RR acc cenv.locals) s₄) E s₃) E s₂) E s₁ := by
  refine comp_shell (S.list F.keep N) F N hcell hkind fun I C D h tk mC bl haI haC haD hit hl' hD hC F' N' _ => ?_
  have W := Walks.list (prog := prog) (w := w) hh I ax haI its
  refine out_loop (fun k s' => ∃ h' tk' i ys mC' pre, s' = { s₁ with heap := h', toks := tk' } ∧ i ≤ its.size ∧ k = its.size + 1 - i ∧ h'.IsListIter I ax i ∧ h'.IsList ax its ∧ Fr h₀ L h' m ∧ h'.Ns C mC' ∧
      News h₀ L h' ((D, lst ys) :: (nw ++ pre)) ∧ Off3 I C D (nw ++ pre) ∧ ys.length ≤ 4 * i ∧ All2 (fun z (q : Int × Int) => ∃ t o, (t, o) ∈ pre ∧ Res t o z q.1 q.2) ys (flatR (rs.take i)) ∧ ∀ p ∈ pre, ∃ z u q, Res p.1 p.2 z u q) ?_ (its.size + 1)
    ⟨h, tk, 0, [], mC, [], rfl, Nat.zero_le _, rfl, hit, hl', F', hC, by simpa using news_cons hD bl.DL bl.D0 N', by simpa using bl.off, Nat.le_refl _, by simpa [flatR] using All2.nil, fun _ hp => nomatch hp⟩
  rintro k s' ⟨h', tk', i, ys, mC', pre, rfl, hi, rfl, hit', hl'', F'', hC', N'', off, hyl, hys, hpre⟩
  have bl' := bl.more off
  have offm := off.mem
  by_cases hlt : i < its.size
  · refine W.item i _ _ _ hlt ⟨hit', hl''⟩ fun v h₂ tk₂ hPv hst₂ hk₂ => ?_
    obtain ⟨r, ha, hRel⟩ := hr.get (i := i) (a := v) (by simpa using hPv)
    have hr4 := hlen r (List.mem_of_getElem? ha)
    have hkN : News h₀ L h₂ ((D, lst ys) :: (nw ++ pre)) := news_but N'' hk₂ fun q hq => by
      rcases List.mem_cons.mp hq with rfl | hq
      · exact bl.ID.symm
      · exact (offm q hq).1
    have hkF : Fr h₀ L h₂ m := fr_but F'' hk₂ bl.IL.symm bl.I0
    have hkC : h₂.Ns C mC' := hC'.at' fun o e => hk₂ _ o (by simpa using bl.IC.symm) e
    obtain ⟨t, t₁, ul, uvs, rfl, htup, hul, hiu⟩ := src v r h₂ hRel hkF (fun q hq => hkN q (List.mem_cons_of_mem _ (List.mem_append.mpr (.inl hq))))
    have hf : flatR (rs.take (i + 1)) = flatR (rs.take i) ++ r.2.map fun u => (u, r.1) := by
      rw [List.take_add_one, ha, flatR_append]; simp [flatR]
    have huvl := hiu.length
    refine take_pair (s₁ := s₁) hh hkind hx hx₂ hxx bl' hst₂.1 hst₂.2 hkF hkN hkC haC htup fun oI oC h₃ tk₃ m₂ hoC hm1 hm2 hit₃ hl₃ F₃ N₃ => ?_
    refine wpAny_mono (src2 r t₁ ul I oI C oC D ys m₂ h₃ tk₃ pre _ hoC hm1 hm2 F₃ N₃) (fun z s' hq => ?_) fun _ _ e => e
    obtain ⟨rfl, h₄, tk₄, rfl, F₄, N₄⟩ := hq.out
    have hit₄ : ∀ {hx : Heap}, hx.get? I = some oI → hx.IsListIter I ax (i + 1) := fun e => by
      obtain ⟨o, ho, r⟩ := hit₃
      rw [(N₃ (I, oI) (List.mem_cons_self ..)).1] at ho; cases ho
      exact ⟨oI, e, r⟩
    have hul₄ := hul.list F₄.keep (fun q hq => N₄ q (.tail _ (.tail _ (.tail _ (List.mem_append.mpr (.inl hq))))))
    refine wpAny_pyIter_list hul₄ ?_
    dsimp only
    generalize hI2 : h₄.objs.size = I2
    have ltI2 : ∀ b o, h₄.get? b = some o → @Ne Nat b I2 := fun b o e => hI2 ▸ Nat.ne_of_lt (Heap.lt_size e)
    have n0 : h₀.get? I2 = none := hI2 ▸ next_is_new F₄
    have hulI2 : ul ≠ I2 := by obtain ⟨o, e, _⟩ := hul₄; exact ltI2 _ _ e
    have nL : I2 ≠ L := fun e => by obtain ⟨o, es, ep, e', _⟩ := F₄.ns; exact ltI2 _ _ e' e.symm
    have st5 : Stay h₄ (h₄.push { cls := .type "list_iterator", data := .fields #[.ref ul, .int 0 0] }) := fun _ _ e => Heap.get?_push_of_some _ e
    have hg5 : (h₄.push { cls := .type "list_iterator", data := .fields #[.ref ul, .int 0 0] }).IsListIter I2 ul 0 := ⟨_, hI2 ▸ Heap.get?_push_size _ rfl, rfl, rfl⟩
    have W2 := Walks.list (prog := prog) (w := w) hh I2 ul hulI2 uvs.toArray
    have goG : ∀ tk5, codeAny (model prog w) A (.compLoop (.ListComp elt [⟨.Tuple [.Name x px, .Name x₂ px₂] kk tp, iter, [], 0⟩, ⟨.Name y py, .Name x₂ pi, [], 0⟩] scope pos) 1 (.ref I2) (.ref D) (compEnvC scope cl C env))
        (fun rr s₅ => match rr with
          | .ok _ => ∃ mm, mm < its.size + 1 - i ∧ (∃ h' tk' i ys mC' pre, s₅ = { s₁ with heap := h', toks := tk' } ∧ i ≤ its.size ∧ mm = its.size + 1 - i ∧ h'.IsListIter I ax i ∧ h'.IsList ax its ∧ Fr h₀ L h' m ∧ h'.Ns C mC' ∧
            News h₀ L h' ((D, lst ys) :: (nw ++ pre)) ∧ Off3 I C D (nw ++ pre) ∧ ys.length ≤ 4 * i ∧ All2 (fun z (q : Int × Int) => ∃ t o, (t, o) ∈ pre ∧ Res t o z q.1 q.2) ys (flatR (rs.take i)) ∧ ∀ p ∈ pre, ∃ z u q, Res p.1 p.2 z u q)
          | .error e => cameBackBy (model prog w) A (compEnvC scope cl C env) (nby prog w A (compEnvC scope cl C env) (RR (.ref D) C)) e s₅)
        { s₁ with heap := h₄.push { cls := .type "list_iterator", data := .fields #[.ref ul, .int 0 0] }, toks := tk5 } := by
      intro tk5
      refine in_loop (fun k s' => ∃ h' tk' j ys' oC' m' pre', s' = { s₁ with heap := h', toks := tk' } ∧ j ≤ uvs.toArray.size ∧ k = uvs.toArray.size + 1 - j ∧ h'.IsListIter I2 ul j ∧ h'.IsList ul uvs.toArray ∧ Fr h₀ L h' m ∧ NsObj oC' m' ∧ m' x = some (.int r.1 t₁) ∧
          News h₀ L h' ((I, oI) :: (C, oC') :: (D, lst ys') :: (nw ++ pre')) ∧ Off3 I C D (nw ++ pre') ∧ (∀ p ∈ (I, oI) :: (C, oC') :: (D, lst ys') :: (nw ++ pre'), p.1 ≠ I2) ∧ ys'.length ≤ 4 * i + j ∧
          All2 (fun z (q : Int × Int) => ∃ t o, (t, o) ∈ pre' ∧ Res t o z q.1 q.2) ys' (flatR (rs.take i) ++ (r.2.take j).map fun u => (u, r.1)) ∧ ∀ p ∈ pre', ∃ z u q, Res p.1 p.2 z u q) ?_ (uvs.toArray.size + 1)
        ⟨_, tk5, 0, ys, oC, m₂, pre, rfl, Nat.zero_le _, rfl, hg5, hul₄.at fun o e => st5 _ _ e, F₄.keeps st5, hoC, hm1, N₄.grown st5, off, fun p hp => ltI2 _ _ (N₄ p hp).1, hyl, by simpa using hys, hpre⟩
      rintro k s' ⟨h', tk', j, ys', oC', m', pre', rfl, hj, rfl, hit2, hl2, F2, hoC', hmx, N2, off2, ofI2, hyl2, hys2, hpre2⟩
      have offm2 := off2.mem
      by_cases hlt2 : j < uvs.toArray.size
      · refine W2.item j _ _ _ hlt2 ⟨hit2, hl2⟩ fun v h5 tk5 hPv hst5 hk5 => ?_
        obtain ⟨u, tu, hu, rfl⟩ := ints_get hiu (j := j) (v := v) (by simpa using hPv)
        have hN5 : News h₀ L h5 ((I, oI) :: (C, oC') :: (D, lst ys') :: (nw ++ pre')) := news_but N2 hk5 ofI2
        have hF5 : Fr h₀ L h5 m := fr_but F2 hk5 nL.symm n0
        have hC5 : h5.Ns C m' := hoC'.ns (hN5 (C, oC') (.tail _ (.head _))).1
        have hp : ((compEnvC scope cl C env).scope.kind == .class || ((compEnvC scope cl C env).scope.kind == .module && (compEnvC scope cl C env).locals != (compEnvC scope cl C env).globals)) = false := by simp [compEnvC, relabel, hkind]
        refine wpAny_assign_Name (wpAny_storeName_local (lookup_relabel_local hy) hC5 (fun h6 hn6 hs6 => ?_) hp)
        obtain ⟨oC6, heC6, hoC6⟩ := ns_obj hn6
        have up6 : ∀ b o, b ≠ C → h5.get? b = some o → h6.get? b = some o := fun b o hb e => hs6.extBut b o hb e
        have F6 : Fr h₀ L h6 m := hF5.change hs6 bl.CL bl.C0
        have hI2C : @Ne Nat I2 C := fun e => ofI2 (C, oC') (.tail _ (.head _)) e.symm
        obtain ⟨oI2, heI2, rI2⟩ := id hst5.1
        have hoI2 : ∀ {hx : Heap}, hx.get? I2 = some oI2 → hx.IsListIter I2 ul (j + 1) := fun e => ⟨oI2, e, rI2⟩
        have N6 : News h₀ L h6 ((I2, oI2) :: (I, oI) :: (C, oC6) :: (D, lst ys') :: (nw ++ pre')) := by
          intro p hp
          rcases List.mem_cons.mp hp with rfl | hp
          · exact ⟨up6 _ _ hI2C heI2, nL, n0⟩
          rcases List.mem_cons.mp hp with rfl | hp
          · exact ⟨up6 _ _ bl.IC (hN5 _ (.head _)).1, (hN5 _ (.head _)).2⟩
          rcases List.mem_cons.mp hp with rfl | hp
          · exact ⟨heC6, bl.CL, bl.C0⟩
          rcases List.mem_cons.mp hp with rfl | hp
          · exact ⟨up6 _ _ bl.CD.symm (hN5 _ (.tail _ (.tail _ (.head _)))).1, (hN5 _ (.tail _ (.tail _ (.head _)))).2⟩
          · exact ⟨up6 _ _ (offm2 p hp).2.1 (hN5 _ (.tail _ (.tail _ (.tail _ hp)))).1, (hN5 _ (.tail _ (.tail _ (.tail _ hp)))).2⟩
        refine wpAny_mono (el r u tu t₁ I2 oI2 I oI C oC6 D ys' _ h6 _ pre' _ hoC6 (by simp [hyx, hmx]) (by simp) F6 N6) (fun z s' hq => ?_) fun _ _ e => e
        obtain ⟨h7, tk7, t', o', rfl, F7, N7, hne, hR⟩ := hq.out
        have zD := (N7 (D, lst ys') (.tail _ (.tail _ (.tail _ (.tail _ (.head _)))))).1
        have zC := (N7 (C, oC6) (.tail _ (.tail _ (.tail _ (.head _))))).1
        have zI := (N7 (I, oI) (.tail _ (.tail _ (.head _))))
        have zI2 := (N7 (I2, oI2) (.tail _ (.head _))).1
        have zN : News h₀ L h7 (nw ++ (t', o') :: pre') := by
          intro q hq
          rcases List.mem_append.mp hq with hq | hq
          · exact N7 q (.tail _ (.tail _ (.tail _ (.tail _ (.tail _ (List.mem_append.mpr (.inl hq)))))))
          · rcases List.mem_cons.mp hq with rfl | hq
            · exact N7 _ (.head _)
            · exact N7 q (.tail _ (.tail _ (.tail _ (.tail _ (.tail _ (List.mem_append.mpr (.inr hq)))))))
        have off' : Off3 I C D (nw ++ (t', o') :: pre') := Off3.of fun q hq => by
          rcases List.mem_append.mp hq with hq | hq
          · exact offm2 q (List.mem_append.mpr (.inl hq))
          · rcases List.mem_cons.mp hq with rfl | hq
            · exact ⟨hne.2.1, hne.2.2.1, hne.2.2.2⟩
            · exact offm2 q (List.mem_append.mpr (.inr hq))
        have hi8 : i ≤ 8 := by omega
        have hj4 : j ≤ 4 := by simp only [List.size_toArray] at hlt2; omega
        refine append_at (hsz := by show ys'.toArray.size ≤ sizeLine; rw [List.size_toArray, sizeLine_eq]; omega) zD fun h8 hs8 hD8 => ?_
        have up : ∀ b o, b ≠ D → h7.get? b = some o → h8.get? b = some o := fun b o hb e => hs8.extBut b o hb e
        have zN8 : News h₀ L h8 (nw ++ (t', o') :: pre') := fun q hq => ⟨up _ _ (off'.mem q hq).2.2 (zN q hq).1, (zN q hq).2⟩
        have F8 : Fr h₀ L h8 m := F7.change hs8 bl.DL bl.D0
        have hI2D : @Ne Nat I2 D := fun e => ofI2 (D, lst ys') (.tail _ (.tail _ (.head _))) e.symm
        have zD8 : News h₀ L h8 ((D, lst (ys' ++ [z])) :: (nw ++ (t', o') :: pre')) := news_cons (by rw [← lst_snoc]; exact hD8) bl.DL bl.D0 zN8
        have zC8 : News h₀ L h8 ((C, oC6) :: (D, lst (ys' ++ [z])) :: (nw ++ (t', o') :: pre')) := news_cons (up _ _ bl.CD zC) bl.CL bl.C0 zD8
        have zI8 : News h₀ L h8 ((I, oI) :: (C, oC6) :: (D, lst (ys' ++ [z])) :: (nw ++ (t', o') :: pre')) := news_cons (up _ _ bl.ID zI.1) bl.IL bl.I0 zC8
        have hj1 : r.2.take (j + 1) = r.2.take j ++ [u] := by rw [List.take_add_one, hu]; rfl
        refine ⟨uvs.toArray.size + 1 - (j + 1), by omega, h8, tk7, j + 1, ys' ++ [z], oC6, _, (t', o') :: pre', rfl, hlt2, rfl, hoI2 (up _ _ hI2D zI2), hul.list F8.keep (fun q hq => zN8 q (List.mem_append.mpr (.inl hq))), F8, hoC6, by simp [hyx, hmx], zI8, off', ?_, by simp; omega, ?_,
          fun q hq => (List.mem_cons.mp hq).elim (fun e => by subst e; exact ⟨_, _, _, hR⟩) (hpre2 q)⟩
        · intro q hq
          rcases List.mem_cons.mp hq with rfl | hq
          · exact ofI2 (I, oI) (.head _)
          rcases List.mem_cons.mp hq with rfl | hq
          · exact hI2C.symm
          rcases List.mem_cons.mp hq with rfl | hq
          · exact hI2D.symm
          rcases List.mem_append.mp hq with hq | hq
          · exact ofI2 q (.tail _ (.tail _ (.tail _ (List.mem_append.mpr (.inl hq)))))
          · rcases List.mem_cons.mp hq with rfl | hq
            · exact hne.1
            · exact ofI2 q (.tail _ (.tail _ (.tail _ (List.mem_append.mpr (.inr hq)))))
        · rw [hj1, List.map_append, ← List.append_assoc]
          exact (hys2.mono fun z q ⟨t, o, hm, hr⟩ => ⟨t, o, List.mem_cons_of_mem _ hm, hr⟩).append (.cons ⟨t', o', List.mem_cons_self .., hR⟩ .nil)
      · obtain rfl : j = uvs.toArray.size := Nat.le_antisymm hj (Nat.not_lt.mp hlt2)
        refine W2.done _ _ _ ⟨hit2, hl2⟩ fun h5 tk5 hk5 => ?_
        have hN5 : News h₀ L h5 ((I, oI) :: (C, oC') :: (D, lst ys') :: (nw ++ pre')) := news_but N2 hk5 ofI2
        have hF5 : Fr h₀ L h5 m := fr_but F2 hk5 nL.symm n0
        have e5 : r.2.take uvs.toArray.size = r.2 := List.take_of_length_le (by rw [List.size_toArray]; omega)
        rw [e5, ← hf] at hys2
        have e6 : uvs.toArray.size = uvs.length := List.size_toArray ..
        exact ⟨its.size + 1 - (i + 1), by omega, h5, tk5, i + 1, ys', m', pre', rfl, hlt, rfl, hit₄ (hN5 _ (.head _)).1, S.list hF5.keep (fun q hq => hN5 q (.tail _ (.tail _ (.tail _ (List.mem_append.mpr (.inl hq)))))), hF5, hoC'.ns (hN5 (C, oC') (.tail _ (.head _))).1,
          fun q hq => hN5 q (.tail _ (.tail _ hq)), off2, by omega, hys2, hpre2⟩
    exact start_in (goG _) (wpAny_pyIter_listiter hg5 (goG _))
  · obtain rfl : i = its.size := Nat.le_antisymm hi (Nat.not_lt.mp hlt)
    refine W.done _ _ _ ⟨hit', hl''⟩ fun h₂ tk₂ hk₂ => ?_
    rw [List.take_of_length_le (by have := hr.length; simp at this; omega)] at hys
    refine hRR D C h₂ tk₂ mC' ys pre (fr_but F'' hk₂ bl.IL.symm bl.I0) (news_but N'' hk₂ fun q hq => ?_) (off1_of fun q hq => (offm q hq).2.2) (hC'.at' fun o e => hk₂ _ o (by simpa using bl.IC.symm) e) bl.C0 bl.CL bl.CD (fun q hq => (offm q hq).2.1) hys hpre
    rcases List.mem_cons.mp hq with rfl | hq
    · exact bl.ID.symm
    · exact (offm q hq).1
end
end Mine
end PartM2C

section PartMLoop
open PySem PySem.W PyProof.Rows PySem.Calls PyProof.Rows.LCg
set_option maxHeartbeats 1600000
namespace Mine

/-- g: a part of what stands in h and is neither the base's nor the frame's -/
structure Sub (base : Heap) (L : Addr) (g h : Heap) : Prop where
  st : Stay g h
  hL : g.get? L = none
  nb : ∀ a o, g.get? a = some o → base.get? a = none

theorem Sub.news {base g h : Heap} {L : Addr} (S : Sub base L g h) : News base L h (restOf base g) := news_rest S.st S.hL
theorem Sub.mem {base g h : Heap} {L a : Addr} {o : Obj} (S : Sub base L g h) (e : g.get? a = some o) : (a, o) ∈ restOf base g := mem_restOf.mpr ⟨e, S.nb _ _ e⟩
theorem Sub.ofNews {base g h h' : Heap} {L : Addr} (S : Sub base L g h) (N : News base L h' (restOf base g)) : Sub base L g h' := ⟨fun _ _ e => (N _ (S.mem e)).1, S.hL, S.nb⟩

/-- all that stands in h but the base's, the frame's, and some addresses -/
noncomputable def newPart (base : Heap) (L : Addr) (h : Heap) (no : List Addr) : Heap := hideAll h (L :: no ++ (List.range base.objs.size).filter fun a => (base.get? a).isSome)
theorem newPart_get {base h : Heap} {L a : Addr} {no : List Addr} {o : Obj} (e : h.get? a = some o) (hL : a ≠ L) (hb : base.get? a = none) (hn : a ∉ no) : (newPart base L h no).get? a = some o := by
  refine hideAll_get _ e fun hm => ?_
  rcases List.mem_append.mp hm with hm | hm
  · rcases List.mem_cons.mp hm with hm | hm
    · exact hL hm
    · exact hn hm
  · have := (List.mem_filter.mp hm).2
    rw [hb] at this; cases this
theorem newPart_sub {base h : Heap} {L : Addr} {no : List Addr} : Sub base L (newPart base L h no) h where
  st := stay_hide _ _
  hL := hideAll_none _ (List.mem_append.mpr (.inl (List.mem_cons_self ..)))
  nb := fun a o e => by
    cases hb : base.get? a with
    | none => rfl
    | some ob =>
      have : (newPart base L h no).get? a = none := hideAll_none _ (List.mem_append.mpr (.inr (List.mem_filter.mpr ⟨List.mem_range.mpr (Heap.lt_size hb), by rw [hb]; rfl⟩)))
      rw [this] at e; cases e
theorem newPart_no {base h : Heap} {L a : Addr} {no : List Addr} (hn : a ∈ no) : (newPart base L h no).get? a = none := hideAll_none _ (List.mem_append.mpr (.inl (List.mem_cons_of_mem _ hn)))
theorem newPart_own {base h : Heap} {L : Addr} {own : List (Addr × Obj)} : ∀ p ∈ own, (newPart base L h (own.map (·.1))).get? p.1 = none := fun _ hp => newPart_no (List.mem_map_of_mem hp)
/-- what was in a part stays in the new part -/
theorem newPart_stay {base g h h' : Heap} {L : Addr} {own : List (Addr × Obj)} (S : Sub base L g h) (st : Stay g h') (ho : ∀ p ∈ own, g.get? p.1 = none) : Stay g (newPart base L h' (own.map (·.1))) := fun a o e =>
  newPart_get (st _ _ e) (fun q => by rw [q, S.hL] at e; cases e) (S.nb _ _ e) fun hm => by
    obtain ⟨p, hp, rfl⟩ := List.mem_map.mp hm
    rw [ho p hp] at e; cases e

section
variable {prog : Program} {w : World} {A : Around} {E : Value → Shared → Prop} {s₂ : Shared} {base : Heap} {env : Env} {x : Str} {body : List Stmt} {Q : Flow → Shared → Prop}

/-- a loop by what holds of a part of the heap -/
theorem loopAt_heap {I : Addr} {fp : List Addr} {n : Nat} {Pv : Nat → Value → Prop} {St : Nat → Heap → Prop} {m₀ : Str → Option Value} {keep : List (Addr × Obj)} {g₀ : Heap} (PI : Nat → (Str → Option Value) → Heap → Prop)
    (W : Walks prog w A I fp [I] n Pv St) (hLf : env.locals ∉ fp) (hI : base.get? I = none) (hst : St 0 s₂.heap) (F : Fr base env.locals s₂.heap m₀) (K : News base env.locals s₂.heap keep) (hkI : ∀ p ∈ keep, p.1 ≠ I)
    (S0 : Sub base env.locals g₀ s₂.heap) (hg0 : ∀ b ∈ fp, g₀.get? b = none) (hkg : ∀ p ∈ keep, g₀.get? p.1 = none) (p0 : PI 0 m₀ g₀) (hIf : I ∈ fp) (hlive : ∀ i h, St i h → ∀ b ∈ fp, ∃ o, h.get? b = some o)
    (turn : ∀ i v m₁ g h tk own, i < n → Pv i v → PI i m₁ g → Sub base env.locals g h → (∀ p ∈ own, g.get? p.1 = none) → News base env.locals h own → Fr base env.locals h (fun y => if y = x then some v else m₁ y) →
      wpAny (model prog w) A (execs body env) (fun f s' => Stop (f = .next ∧ ∃ h' tk' m' g', s' = { s₂ with heap := h', toks := tk' } ∧ Fr base env.locals h' m' ∧ Sub base env.locals g' h' ∧ (∀ p ∈ own, g'.get? p.1 = none) ∧
        News base env.locals h' own ∧ PI (i + 1) m' g')) E { s₂ with heap := h, toks := tk })
    (done : ∀ h tk m g, PI n m g → Sub base env.locals g h → (∀ p ∈ keep, g.get? p.1 = none) → News base env.locals h keep → Fr base env.locals h m → Q .next { s₂ with heap := h, toks := tk }) :
    LoopAtV prog w A base env x body Q E (.ref I) s₂ := by
  refine ⟨I, fp, [I], n, Pv, St, m₀, keep ++ restOf base g₀,
    fun i m nw => ∃ g, nw = keep ++ restOf base g ∧ (∀ a o, g.get? a = some o → base.get? a = none) ∧ g.get? env.locals = none ∧ (∀ b ∈ fp, g.get? b = none) ∧ (∀ p ∈ keep, g.get? p.1 = none) ∧ PI i m g,
    rfl, W, hLf, fun b hb => by rw [List.mem_singleton.mp hb]; exact hI, fun p hp hm => ?_, hst, F, news_app K S0.news, ⟨g₀, rfl, S0.nb, S0.hL, hg0, hkg, p0⟩, ?_, ?_⟩
  · have e := List.mem_singleton.mp hm
    rcases List.mem_append.mp hp with hp | hp
    · exact hkI p hp e
    · have := (mem_restOf.mp (show (p.1, p.2) ∈ _ from hp)).1
      rw [e, hg0 I hIf] at this; cases this
  · rintro i v m₁ nw s₁ own ⟨h, tk, rfl⟩ hi hv ⟨g, rfl, hnb, hgL, hgf, hgk, hP⟩ hnw hof hat hall hst₁ F₁ N₁
    have K₁ : News base env.locals h keep := fun p hp => N₁ p (List.mem_append.mpr (.inr (List.mem_append.mpr (.inl hp))))
    have R₁ : News base env.locals h (restOf base g) := fun p hp => N₁ p (List.mem_append.mpr (.inr (List.mem_append.mpr (.inr hp))))
    have O₁ : News base env.locals h own := fun p hp => N₁ p (List.mem_append.mpr (.inl hp))
    have S₁ : Sub base env.locals g h := ⟨fun a o e => (R₁ (a, o) (mem_restOf.mpr ⟨e, hnb _ _ e⟩)).1, hgL, hnb⟩
    refine wpAny_mono (turn i v m₁ g h tk (own ++ keep) hi hv hP S₁ (fun p hp => (List.mem_append.mp hp).elim (fun q => hgf _ (hof p q)) (hgk p)) (news_app O₁ K₁) F₁) (fun f s' hq => ?_) fun _ _ e => e
    obtain ⟨rfl, h', tk', m', g', rfl, F', S', ho', N', hP'⟩ := hq.out
    have hnone : ∀ b ∈ fp, g'.get? b = none := fun b hb => by
      cases hg : g'.get? b with
      | none => rfl
      | some o' =>
        obtain ⟨o, ho⟩ := hlive (i + 1) h hst₁ b hb
        have := ho' (b, o) (List.mem_append.mpr (.inl (hall b hb (S'.nb _ _ hg) o ho)))
        rw [hg] at this; cases this
    refine .next ⟨rfl, h', tk', m', keep ++ restOf base g', rfl, F', news_app (fun p hp => N' p (List.mem_append.mpr (.inl hp))) (news_app (fun p hp => N' p (List.mem_append.mpr (.inr hp))) S'.news), fun p hp hm => ?_, g', rfl, S'.nb, S'.hL, ?_, fun p hp => ho' p (List.mem_append.mpr (.inr hp)), hP'⟩
    · have e := List.mem_singleton.mp hm
      rcases List.mem_append.mp hp with hp | hp
      · exact hkI p hp e
      · have := (mem_restOf.mp (show (p.1, p.2) ∈ _ from hp)).1
        rw [e, hnone I hIf] at this; cases this
    · exact hnone
  · rintro h' tk m' nw F' N' hnw ⟨g, rfl, hnb, hgL, hgf, hgk, hP⟩
    exact done h' tk m' g hP ⟨fun a o e => (N' (a, o) (List.mem_append.mpr (.inr (mem_restOf.mpr ⟨e, hnb _ _ e⟩)))).1, hgL, hnb⟩ hgk (fun p hp => N' p (List.mem_append.mpr (.inl hp))) F'
end
end Mine
end PartMLoop

namespace Mine

section RulesOne
open PySem PySem.W PyProof.Rows PySem.Calls PyProof.Rows.LCg
local macro_rules | `(tactic| ktr_units) => `(tactic| ((have kf : (PySem.Challenge.rw_or0040_01 = PySem.Challenge.rw_or0040_01 ∧ hd.heap_39 = hd.heap_39) := by (k_fill; exact ⟨rfl, rfl⟩)); clear kf))
local macro_rules | `(tactic| ktr_unf) => `(tactic| w_strict (repeat' (first | (k_unfold; (try dsimp only)) | walk1 | (dsimp only; walk1) | (leave1; walk_say "STEP leave1"; try dsimp only))))
local macro_rules | `(tactic| ktr_rel) => `(tactic| ( k_dflt (refine' enter_plain ?k1 ?k2 ?k3 ?k4 ?k6 ?k7 ?k8 ?k9 ?kB ?_ ?c2 ?c3 ?c4 ?c5; (case k1 => assumption); (case k2 => assumption); (case k3 => assumption); (case k4 => assumption); (case k6 => k_is); (case k7 => k_is); (case k8 => first | assumption | k_room); (case k9 => first | exact BindsTo.of_eq rfl | exact binds_K (by k_in) rfl (by k_is) rfl rfl rfl); (case c5 => decide); (case kB => exact locs rfl); (case c2 => exact rfl); (case c3 => exact rfl); (case c4 => exact rfl))))
local macro_rules | `(tactic| tb_start) => `(tactic| ( k_dflt (refine' enter_cells ?k1 ?k2 ?k3 ?k4 ?k6 ?k7 ?k8 ?k9 ?kB ?kD ?_ ?c2 ?c3 ?c4; (case k1 => assumption); (case k2 => assumption); (case k3 => assumption); (case k4 => assumption); (case k6 => k_is); (case k7 => k_is); (case k8 => first | assumption | k_room); (case k9 => first | exact BindsTo.of_eq rfl | exact binds_K (by k_in) rfl (by k_is) rfl rfl rfl); (case kB => exact rfl); (case kD => decide +kernel); (case c2 => exact rfl); (case c3 => exact rfl); (case c4 => exact rfl))))
local macro_rules | `(tactic| k_ne) => `(tactic| (refine neN ?_; (try dsimp only); first | omega | (refine' ne_of_objs ?N ?h1 ?h2 ?hc; (case N => k_asm); (case h1 => k_mem); (case h2 => k_mem); (case hc => (dsimp only [dictOf, PySem.W.listOf, instObj]; decide))) | fail "k_ne"))
local macro_rules | `(tactic| k_inst) => `(tactic| (refine' inst_base ?F ?h1 ?h2; (case F => k_asm); (case h1 => assumption); (case h2 => assumption)))
local macro_rules | `(tactic| walk_at "eval ListComp") => `(tactic| (k_here; k_dflt (first | (lcp_look; (refine LCp.ListComp_P (F₀ := by k_asm) (by with_unfolding_all rfl) (by decide) (by rfl) (by decide) (by rfl) (by rfl) (by decide) ?_)) | (lct_look; (refine LCt.ListComp_T (F₀ := by k_asm) (by with_unfolding_all rfl) (by decide) (by rfl) (by decide) (by rfl) ?_)) | (lcg_look; (refine LCg.ListComp_U (F₀ := by k_asm) (by with_unfolding_all rfl) (by decide) (by rfl) (by decide) (by rfl) ?_)) | (lcf_look; (refine LCg.ListComp_U (F₀ := by k_asm) (by with_unfolding_all rfl) (by decide) (by rfl) (by decide) (by rfl) ?_)))))

section PartMC2
theorem offMC2 : True := by
  w_top off
  trivial
open PySem PySem.W PyProof.Rows PySem.Calls
-- ktr_unf: walk on; ktr_rel: enter a plain def by its contract; ktr_units: fill the kept part; tb_start: enter a def with cells
-- end of header
set_option maxRecDepth 100000 in
set_option maxHeartbeats 8000000 in
theorem add_ct {prog : Program} {w : World} {env₀ : Env} {s : Shared} {base g : Heap} {mean : ExcName → Option Value} {mg mb : Str → Option Value} {R : Result → Shared → Prop} {b d l e : Addr} {k : Nat → Tok} {nm vl fl gn : Value} {nu tp ins : Int} {oc : Value} {tn tt ti : Tok} {its : Array Value} {n ne : Nat}
    (Am : Amb w (callerA.deeper env₀) base [env₀] mean mg mb g) (st : Stay g s.heap) (hsz : g.objs.size ≤ s.heap.objs.size)
    (N : Own g s.heap [(b, instObj 170 d), (d, dictOf (boxEs w.params k nm vl (.int nu tn) (.int tp tt) fl (.ref l) gn) 7), (l, listOf its n), (e, listOf #[] ne)])
    (hbd : @Ne Nat d b) (hlb : @Ne Nat l b) (hld : @Ne Nat l d) (heb : @Ne Nat e b) (hed : @Ne Nat e d) (hel : @Ne Nat e l) (hit : its.size ≤ 1000) (ho : handedIn oc = true)
    (h : ∀ h' tk x dx D j1 j2 o1 o2 vs k0 k1 k2 k3 k4 t1 t2 t3, Stay g h' →
      Own g h' [(x, instObj 132 dx), (dx, dictOf (letEs w.params k0 k1 k2 k3 k4 (.int nu tn) oc (.ref D) (.int ins ti) (.int (tp + 1) t1)) 5), (D, tupOf vs), (j1, o1), (j2, o2),
        (b, instObj 170 d), (d, dictOf (boxEs w.params k nm vl (.int (nu + 1) t2) (.int (tp + 1) t3) fl (.ref l) gn) 7), (l, listOf (its.push (.ref x)) (n + 1)), (e, listOf #[] ne)] →
      R (.ok (.ret (.ref x))) { s with heap := h', toks := tk }) :
    codeAny (model prog w) (callerA.deeper env₀) (.call (.ref 195) ⟨[.ref b, oc, .ref e, .int ins ti], []⟩) R s := by
  ktr_units
  have B := Am.B
  have X := Am.X
  have T := Am.T
  ktr_rel
  intro L' h₁ F N' hlt
  try dsimp only
  clear N hsz
  k_fold
  ktr_unf
  all_goals (try dsimp only)
  k_unfold
  rename Fr _ _ _ _ => F9
  rename News _ _ _ _ => N9
  exact h _ _ _ _ _ _ _ _ _ _ _ _ _ _ _ _ _ _ F9.keep (own_of N9)
end PartMC2

section PartMC3
theorem offMC3 : True := by
  w_top off
  trivial
open PySem PySem.W PyProof.Rows PySem.Calls PyProof.Rows.LCg
-- ktr_unf: walk on; ktr_rel: enter a plain def by its contract; ktr_units: fill the kept part; tb_start: enter a def with cells
-- end of header
set_option maxRecDepth 100000 in
set_option maxHeartbeats 8000000 in
theorem uids_ct {prog : Program} {w : World} {A : Around} {outer : List Env} {s : Shared} {base g : Heap} {mean : ExcName → Option Value} {mg mb : Str → Option Value} {R : Result → Shared → Prop} {b d l : Addr} {k : Nat → Tok} {nm vl nu tp fl gn : Value} {its : Array Value} {us : List Int}
    (Am : Amb w A base outer mean mg mb g) (hroom : A.depth < recursionLimit) (st : Stay g s.heap) (hsz : g.objs.size ≤ s.heap.objs.size)
    (N : Own g s.heap [(b, instObj 170 d), (d, dictOf (boxEs w.params k nm vl nu tp fl (.ref l) gn) 7)])
    (hL : g.IsList l its) (hl : All2 (LetV w.params g) its.toList us) (hit : its.size ≤ 1000)
    (h : ∀ h' tk r vs c, Stay g h' → IntsAre vs us →
      Own g h' [(r, listOf vs.toArray c), (b, instObj 170 d), (d, dictOf (boxEs w.params k nm vl nu tp fl (.ref l) gn) 7)] →
      R (.ok (.ret (.ref r))) { s with heap := h', toks := tk }) :
    codeAny (model prog w) A (.call (.ref 162) ⟨[.ref b], []⟩) R s := by
  ktr_units
  have B := Am.B
  have X := Am.X
  have T := Am.T
  ktr_rel
  intro L' h₁ F N' hlt
  try dsimp only
  clear N hsz
  k_fold
  ktr_unf
  all_goals (try dsimp only)
  rename Fr _ _ _ _ => F9
  rename News _ _ _ _ => N9
  refine CompSrc.base Am.hh F9 N9 hL (by rw [sizeLine_eq]; omega) ?_
  intro g'
  refine compRest_inv (n := its.size) (fun i ys nw => nw = [(b, instObj 170 d), (d, dictOf (boxEs w.params k nm vl nu tp fl (.ref l) gn) 7)] ∧ IntsAre ys (us.take i)) ?turn ?fin its.size 0 [] _ (by omega) ⟨rfl, by simpa using IntsAre.nil⟩
  case fin =>
    rintro ys nw ⟨rfl, hy⟩
    intro D h' tk' F8 N8 o1
    have e : us.take its.size = us := List.take_of_length_le (by have := hl.length; simp at this; omega)
    rw [e] at hy
    exact h _ _ _ _ _ F8.keep hy (own_of N8)
  case turn =>
    rintro i ys nw hi ⟨rfl, hy⟩ v I oI C oC D m₂ h₂ tk₂ E' hv hC hm F8 N8 off ne
    clear F9 N9
    obtain ⟨u, hu, a, dx, k0, k1, k2, k3, k4, t, oc, fv, ins, md, rfl, ha, hdx, ho, hf, hins, hmd⟩ := hl.get (by simpa using hv)
    k_fold
    ktr_unf
    all_goals (try dsimp only)
    refine CompEnd.intro F8 N8 _ (fun p hp => hp) off (.inl hL) ⟨rfl, ?_⟩
    rw [List.take_add_one, hu]
    exact intsAre_snoc hy _ _

/-- the same, as a step of a walk -/
theorem uids_K {prog : Program} {w : World} {A A₀ : Around} {E : Value → Shared → Prop} {outer : List Env} {env : Env} {s : Shared} {base g : Heap} {mean : ExcName → Option Value} {mg mb : Str → Option Value} {Q : Value → Shared → Prop} {L b d l : Addr} {m : Str → Option Value} {news : List (Addr × Obj)} {k : Nat → Tok} {nm vl nu tp fl gn : Value} {its : Array Value} {us : List Int}
    (B : Below A₀ base outer g) (F : Fr g L s.heap m) (N : News g L s.heap news) (hA : A.frames = some (env :: outer)) (hf : env.frame = some L) (hke : env.scope.kind = .function) (X : (hd.heap_39 w.params).In g) (T : TopG mean mg mb g) (hh : A.handled = none) (hroom : A.depth < recursionLimit)
    (h1 : (b, instObj 170 d) ∈ news) (h2 : (d, dictOf (boxEs w.params k nm vl nu tp fl (.ref l) gn) 7) ∈ news) (hL : s.heap.IsList l its) (hl : All2 (LetV w.params s.heap) its.toList us) (hit : its.size ≤ 1000)
    (h : ∀ h' tk r vs c, Fr g L h' m → News g L h' ((r, listOf vs.toArray c) :: news) → Stay s.heap h' → s.heap.get? r = none → Off1 r news → IntsAre vs us → Q (.ref r) { s with heap := h', toks := tk }) :
    wpAny (model prog w) A (call (.ref 162) [.ref b]) Q E s := by
  have hs : ∀ p ∈ [(b, instObj 170 d), (d, dictOf (boxEs w.params k nm vl nu tp fl (.ref l) gn) 7)], p ∈ news := by
    intro p hp
    rcases List.mem_cons.mp hp with rfl | hp
    · exact h1
    · rw [List.mem_singleton.mp hp]; exact h2
  have H : ∀ p ∈ [(b, instObj 170 d), (d, dictOf (boxEs w.params k nm vl nu tp fl (.ref l) gn) 7)], s.heap.get? p.1 = some p.2 := fun p hp => (N p (hs p hp)).1
  obtain ⟨Am, O, st, sg, hz⟩ := site B F N hA hf hke X T hh hs
  have hL' : (hideAll s.heap ([(b, instObj 170 d), (d, dictOf (boxEs w.params k nm vl nu tp fl (.ref l) gn) 7)].map (·.1))).IsList l its := by
    obtain ⟨o, ho, hc, n, hd'⟩ := hL
    refine ⟨o, hide_keep H ho ?_, hc, n, hd'⟩
    intro p hp e
    rcases List.mem_cons.mp hp with rfl | hp
    · rw [← e] at hc; cases hc
    · rw [List.mem_singleton.mp hp] at e; rw [← e] at hc; exact absurd hc (by simp)
  have hl' : All2 (LetV w.params (hideAll s.heap ([(b, instObj 170 d), (d, dictOf (boxEs w.params k nm vl nu tp fl (.ref l) gn) 7)].map (·.1)))) its.toList us := by
    refine hl.mono ?_
    rintro v u ⟨a, dx, k0, k1, k2, k3, k4, t, oc, fv, ins, md, e, ha, hdx, r⟩
    refine ⟨a, dx, k0, k1, k2, k3, k4, t, oc, fv, ins, md, e, hide_keep H ha ?_, hide_keep H hdx ?_, r⟩
    · intro p hp e
      rcases List.mem_cons.mp hp with rfl | hp
      · exact absurd (congrArg Obj.cls e) (by simp)
      · rw [List.mem_singleton.mp hp] at e; exact absurd (congrArg Obj.cls e) (by simp)
    · intro p hp e
      rcases List.mem_cons.mp hp with rfl | hp
      · exact absurd (congrArg Obj.cls e) (by simp)
      · rw [List.mem_singleton.mp hp] at e
        have e2 := congrArg Obj.data e
        simp only [dictOf, Data.dict.injEq] at e2
        exact absurd e2.2 (by decide)
  refine wpAny_call (uids_ct Am hroom st hz O hL' hl' hit fun h' tk r vs c st' hv O' => ?_)
  obtain ⟨F', N', K⟩ := site_back F N hs st' O'
  have hb : Stay s.heap h' := by
    intro a o e
    by_cases hm : a ∈ [(b, instObj 170 d), (d, dictOf (boxEs w.params k nm vl nu tp fl (.ref l) gn) 7)].map (·.1)
    · obtain ⟨p, hp, rfl⟩ := List.mem_map.mp hm
      rw [H p hp] at e
      cases e
      exact (N' p (List.mem_cons_of_mem _ hp)).1
    · exact st' _ _ (hideAll_get _ e hm)
  have hnone : s.heap.get? r = none := by
    cases e : s.heap.get? r with
    | none => rfl
    | some o =>
      have e1 := hb _ _ e
      rw [(N' _ (List.mem_cons_self ..)).1] at e1
      cases e1
      have e2 := (O' _ (List.mem_cons_self ..)).2
      dsimp only at e2
      rw [hide_keep H e ?_] at e2
      · cases e2
      · intro p hp e
        rcases List.mem_cons.mp hp with rfl | hp
        · exact absurd (congrArg Obj.cls e) (by simp)
        · rw [List.mem_singleton.mp hp] at e; exact absurd (congrArg Obj.cls e) (by simp)
  refine h h' tk r vs c F' ?_ hb hnone (off1_of fun p hp e => ?_) hv
  · intro p hp
    rcases List.mem_cons.mp hp with rfl | hp
    · exact N' _ (List.mem_cons_self ..)
    · exact ⟨hb _ _ (N p hp).1, (N p hp).2⟩
  · have := (N p hp).1
    rw [e, hnone] at this; cases this
end PartMC3

section PartMC4
theorem offMC4 : True := by
  w_top off
  trivial
open PySem PySem.W PyProof.Rows PySem.Calls PyProof.Rows.LCg
theorem All2.both {α β : Type} {R S : α → β → Prop} {l : List α} {k : List β} (h : All2 R l k) : All2 S l k → All2 (fun a b => R a b ∧ S a b) l k := by
  induction h with
  | nil => intro _; exact .nil
  | cons h _ ih => intro h2; cases h2 with | cons h2 t2 => exact .cons ⟨h, h2⟩ (ih t2)
-- ktr_unf: walk on; ktr_rel: enter a plain def by its contract; ktr_units: fill the kept part; tb_start: enter a def with cells
-- end of header
-- header two
local macro_rules | `(tactic| walk_at "compareOp In int ref") => `(tactic| (k_here; k_dflt (refine want_in (by k_asm) (by k_mem) (by assumption) (by assumption) ?_)))
local macro_rules | `(tactic| walk_at "compareOp NotIn int ref") => `(tactic| (k_here; k_dflt (refine want_notin (by k_asm) (by k_mem) (by assumption) (by assumption) ?_)))
local macro_rules | `(tactic| walk_at "setItem ref int") => `(tactic| (k_here; k_dflt (refine' want_set ?F ?N ?U ?d ?z ?_; (case F => k_asm); (case N => k_asm); (case U => k_updF); (case d => assumption); (case z => (rw [sizeLine_eq]; omega))); intro h' o' F' N' hd'; (try dsimp only at N')))
local macro_rules | `(tactic| walk_at "call ref") => `(tactic| (k_here; (with_reducible show wpAny _ _ (call (Value.ref 162) _) _ _ _); k_dflt (refine' uids_K ?k1 ?k2 ?k3 ?kA ?kF ?kK ?k4 ?k5 ?k6 ?k7 ?k8 ?k9 ?k10 ?k11 ?k12 ?_; (case kA => exact rfl); (case kF => exact rfl); (case kK => exact rfl); (case k1 => k_asm); (case k2 => k_asm); (case k3 => k_asm); (case k4 => k_asm); (case k5 => k_asm); (case k6 => exact rfl); (case k7 => k_room); (case k8 => k_mem); (case k9 => k_mem); (case k10 => exact stays_list (Fr.keep (by k_asm)) (by assumption)); (case k11 => exact All2.mono (by assumption) (fun _ _ z => LetV.mono z (Fr.keep (by k_asm)))); (case k12 => omega)); intro h' tk' r' vs' c' F' N' st' nn' of' hv'; (try simp only [LCg.Off1, and_true] at of'); (try k_sweep)))
local macro_rules | `(tactic| walk_at "exec For") => `(tactic| (k_here; (rename Fr _ _ _ _ => lF'); (with_unfolding_all refine' For_invVF lF' ?k1 ?k2 ?_; (case k1 => exact rfl); (case k2 => exact rfl); k_whole)))
local macro_rules | `(tactic| walk_at "exec Assign cons ListComp") => `(tactic| (k_here; k_dflt (first | (lcp_look; (refine LCp.Assign_ListComp_P (F₀ := by k_asm) (by rfl) (by with_unfolding_all rfl) (by with_unfolding_all rfl) (by decide) (by rfl) (by decide) (by rfl) (by rfl) (by decide) (by rfl) (by rfl) ?_)) | (lct_look; (refine LCt.Assign_ListComp_T (F₀ := by k_asm) (by rfl) (by with_unfolding_all rfl) (by with_unfolding_all rfl) (by decide) (by rfl) (by decide) (by rfl) (by rfl) (by rfl) ?_)) | (lcg_look; (refine LCg.Assign_ListComp_U (F₀ := by k_asm) (by rfl) (by with_unfolding_all rfl) (by with_unfolding_all rfl) (by decide) (by rfl) (by decide) (by rfl) (by rfl) (by rfl) ?_)) | (lcf_look; (refine LCg.Assign_ListComp_U (F₀ := by k_asm) (by rfl) (by with_unfolding_all rfl) (by with_unfolding_all rfl) (by decide) (by rfl) (by decide) (by rfl) (by rfl) (by rfl) ?_)))))
local macro_rules | `(tactic| k_all) => `(tactic| assumption)
set_option maxRecDepth 100000 in
set_option maxHeartbeats 4000000 in
theorem expunge_ct {prog : Program} {w : World} {env₀ : Env} {s : Shared} {base g : Heap} {mean : ExcName → Option Value} {mg mb : Str → Option Value} {R : Result → Shared → Prop} {b d l gl ul : Addr} {k : Nat → Tok} {nm vl nu fl : Value} {tp : Int} {tt : Tok} {its gits : Array Value} {us ws : List Int} {uvs : List Value} {Rl : Value → Int → Prop}
    (Am : Amb w (callerA.deeper env₀) base [env₀] mean mg mb g) (st : Stay g s.heap) (hsz : g.objs.size ≤ s.heap.objs.size)
    (N : Own g s.heap [(b, instObj 170 d), (d, dictOf (boxEs w.params k nm vl nu (.int tp tt) fl (.ref l) (.ref gl)) 7)]) (hbd : @Ne Nat d b)
    (hL : g.IsList l its) (hG : g.IsList gl gits) (hU : g.IsList ul uvs.toArray)
    (hR : All2 Rl its.toList us) (hl : All2 (LetV w.params g) its.toList us) (hw : IntsAre uvs ws) (hit : its.size ≤ 1000) (hgit : gits.size ≤ 1000) (huv : ws.length ≤ 1000)
    (h0 : us.filter (fun n => decide (n ∈ ws)) = [] → ∀ h' tk r, Stay g h' →
      Own g h' [(r, listOf #[] 0), (b, instObj 170 d), (d, dictOf (boxEs w.params k nm vl nu (.int tp tt) fl (.ref l) (.ref gl)) 7)] → R (.ok (.ret (.ref r))) { s with heap := h', toks := tk })
    (h1 : us.filter (fun n => decide (n ∈ ws)) ≠ [] → ∀ h' tk r rvs rc l' lvs lc g' gvs gc t1 tv, Stay g h' → IntsAre rvs (us.filter (fun n => decide (n ∈ ws))) → All2 Rl lvs (us.filter (fun n => !decide (n ∈ ws))) →
      gvs.toList = gits.toList ++ tv → All2 (fun v u => PairN g h' v u (tp + 1)) tv (us.filter (fun n => decide (n ∈ ws))) →
      Own g h' [(r, listOf rvs.toArray rc), (b, instObj 170 d), (d, dictOf (boxEs w.params k nm vl nu (.int (tp + 1) t1) fl (.ref l') (.ref g')) 7), (l', listOf lvs.toArray lc), (g', listOf gvs gc)] → @Ne Nat l' g' →
      R (.ok (.ret (.ref r))) { s with heap := h', toks := tk }) :
    codeAny (model prog w) (callerA.deeper env₀) (.call (.ref 200) ⟨[.ref b, .ref ul], []⟩) R s := by
  ktr_units
  have B := Am.B
  have X := Am.X
  have T := Am.T
  tb_start
  intro L' h₁ tk₁ cells F N' Y hlt
  k_lt hlt
  k_cells Y
  try simp only [List.cons_append, List.nil_append] at N'
  try dsimp only
  clear N hsz
  try k_unmd
  k_fold
  ktr_unf
  -- for uid in uids
  rename Obj.IsDictOf (intKind _ _) _ _ => hW
  rename Fr _ _ _ _ => F1
  rename News _ _ _ _ => N1
  refine want_loop rfl hU hw F1 N1 (wantD_nil hW) ?turn ?done
  case turn =>
    intro n t ws' o' u h2 tk2 own hoff hW' hlen F' N'
    clear F1 N1
    simp only [List.cons_append, List.nil_append, List.map_cons, List.map_nil] at hoff N'
    k_fold
    ktr_unf
    try k_unfold
    rename WantD _ _ _ _ => hD
    rename Fr _ _ _ _ => F9
    rename News _ _ _ _ => N9
    exact ⟨rfl, _, _, _, rfl, F9, N9, hD⟩
  case done =>
    intro o' u h2 tk2 hW' F' N'
    clear F1 N1
    try dsimp only
    try k_unmd
    try k_fold
    ktr_unf
    -- there = [uid for uid in box.uids() if uid in wanted]
    rename Fr _ _ _ _ => F2
    rename News _ _ _ _ => N2
    rename IntsAre _ us => hv2
    refine compT_filter (fun v n => ∃ t, v = .int n t) (fun n => decide (n ∈ ws)) rfl F2 N2 (.inr ⟨_, by k_mem, rfl, _, rfl⟩) (by simpa using all2_ints hv2) (by have := hv2.length; have := hl.length; simp at *; omega) ?test ?el ?fin
    case test =>
      rintro v n I oI C oC D ys m₂ h3 tk3 E' ⟨t3, rfl⟩ hC hm F3 N3
      clear F2 N2 F'
      k_fold
      ktr_unf
      exact ⟨rfl, _, _, rfl, F3, N3⟩
    case el =>
      rintro v n I oI C oC D ys m₂ h3 tk3 E' ⟨t3, rfl⟩ hC hm F3 N3
      clear F2 N2 F'
      k_fold
      ktr_unf
      exact ⟨rfl, _, _, rfl, F3, N3⟩
    case fin =>
      intro g3 ys hys hyl D h3 tk3 F3 N3 o3
      clear F2 N2 F' N'
      have hI3 := ints_of_all2 hys
      simp only [LCg.Off1, and_true] at o3
      try dsimp only
      try k_unmd
      try k_fold
      ktr_unf
      · try k_unfold
        rename Fr _ _ _ _ => F9
        rename News _ _ _ _ => N9
        rename decide _ = true => hd9
        exact h0 (of_decide_eq_true hd9) _ _ _ F9.keep (own_sub (own_of N9) (by k_allIn))
      -- box.letters = [letter for letter in box.letters if letter.uid not in wanted]
      rename Fr _ _ _ _ => F4
      rename News _ _ _ _ => N4
      refine compT_filter (fun v u => LetV w.params g v u ∧ Rl v u) (fun n => !decide (n ∈ ws)) rfl F4 N4 (.inl hL) (hl.both hR) hit ?test ?el ?fin
      case test =>
        rintro v n I oI C oC D2 ys2 m₂ h5 tk5 E' ⟨⟨a, dx, k0, k1, k2, k3, k4, t5, oc, fv, ins, md, rfl, ha, hdx, ho, hf, hins, hmd⟩, -⟩ hC hm F5 N5
        clear F4 N4
        k_fold
        ktr_unf
        exact ⟨rfl, _, _, rfl, F5, N5⟩
      case el =>
        rintro v n I oI C oC D2 ys2 m₂ h5 tk5 E' hv hC hm F5 N5
        clear F4 N4
        k_fold
        ktr_unf
        exact ⟨rfl, _, _, rfl, F5, N5⟩
      case fin =>
        intro g5 ys5 hys5 hyl5 D5 h5 tk5 F5 N5 o5
        clear F4 N4
        simp only [LCg.Off1, and_true] at o5
        try dsimp only
        try k_unmd
        try k_fold
        ktr_unf
        -- box.gone = box.gone + [(uid, modseq) for uid in there]
        rename Fr _ _ _ _ => F6
        rename News _ _ _ _ => N6
        refine compU_new (fun v n => ∃ t, v = .int n t) (fun t o y n => y = .ref t ∧ ∃ t1 t2, o = tupOf [.int n t1, .int (tp + 1) t2]) rfl F6 N6 (.inr ⟨_, by k_mem, rfl, _, rfl⟩) (by simpa using hys) (by simp at hyl ⊢; have := hv2.length; have := hl.length; simp at *; omega) ?el ?fin
        case el =>
          rintro v n I oI C oC D2 ys2 m₂ h7 tk7 pre E' ⟨t7, rfl⟩ hC hm F7 N7
          clear F6 N6
          simp only [List.cons_append, List.nil_append] at N7
          k_fold
          ktr_unf
          try k_unfold
          rename Fr _ _ _ _ => F8
          rename News _ _ _ _ => N8
          exact ⟨_, _, _, _, rfl, F8, N8, ⟨by omega, by omega, by omega⟩, rfl, _, _, rfl⟩
        case fin =>
          intro g7 ys7 pre7 hys7 hpre7 D7 h7 tk7 F7 N7 o7
          clear F6 N6
          simp only [List.cons_append, List.nil_append] at N7
          have hpd : ∀ p ∈ pre7, p.1 ≠ d := by
            rintro ⟨t, o⟩ hp e
            obtain ⟨y, a, hy, t1, t2, ho⟩ := hpre7 _ hp
            dsimp only at ho e
            subst ho
            exact ne_of_objs N7 (by repeat (first | exact hp | refine List.Mem.tail _ ?_)) (by k_mem) (by simp) e
          try dsimp only
          try k_unmd
          try k_fold
          ktr_unf
          have hlt5 : @LT.lt Nat _ D5 h7.objs.size := Heap.lt_size (N7 (D5, _) (by k_mem)).1
          refine add_arrays F7 N7 (stays_list F7.keep hG) ⟨_, (N7 _ (by k_mem)).1, rfl, _, rfl⟩ ?_ ?_
          · intro h8 F8 N8
            clear F7 N7
            try dsimp only
            ktr_unf
            try dsimp only
            try k_unfold
            rename Fr _ _ _ _ => F9
            rename News _ _ _ _ => N9
            rename decide _ = false => hd9
            refine' h1 (of_decide_eq_false hd9) _ _ _ _ _ _ _ _ _ _ _ _ _ F9.keep hI3 (hys5.mono fun _ _ z => z.2) ?eq (hys7.mono ?pairs) (own_sub (own_of N9) ?sub) ?nelg
            case sub => k_allIn
            case nelg => omega
            case eq => simp
            case pairs =>
              rintro y a ⟨t, o, hto, rfl, t1, t2, rfl⟩
              have h9 := N9 (t, tupOf [.int a t1, .int (tp + 1) t2]) (by repeat (first | exact hto | refine List.Mem.tail _ ?_))
              exact ⟨t, t1, t2, rfl, h9.1, h9.2.2⟩
          · have e7 := hys7.length
            have e8 := List.length_filter_le (fun n => decide (n ∈ ws)) us
            have e9 := hl.length
            rw [sizeLine_eq]
            simp at *
            omega
end PartMC4

section PartMC5
theorem offMC5 : True := by
  w_top off
  trivial
open PySem PySem.W PyProof.Rows PySem.Calls PyProof.Rows.LCg
-- ktr_unf: walk on; ktr_rel: enter a plain def by its contract; ktr_units: fill the kept part; tb_start: enter a def with cells
local macro_rules | `(tactic| k_all) => `(tactic| assumption)
-- end of header
local macro_rules | `(tactic| walk_at "exec Assign cons ListComp") => `(tactic| (k_here; k_dflt (refine Assign_shell (by with_unfolding_all rfl) (by with_unfolding_all rfl) (by rfl) (by decide) ?_)))
set_option maxRecDepth 100000 in
set_option maxHeartbeats 4000000 in
theorem forget_ct {prog : Program} {w : World} {env₀ : Env} {s : Shared} {base g : Heap} {mean : ExcName → Option Value} {mg mb : Str → Option Value} {R : Result → Shared → Prop} {b d gl : Addr} {k : Nat → Tok} {nm vl nu lt : Value} {tp fl most : Int} {tt tf tm : Tok} {gits : Array Value} {ps : List (Int × Int)}
    (Am : Amb w (callerA.deeper env₀) base [env₀] mean mg mb g) (st : Stay g s.heap) (hsz : g.objs.size ≤ s.heap.objs.size)
    (N : Own g s.heap [(b, instObj 170 d), (d, dictOf (boxEs w.params k nm vl nu (.int tp tt) (.int fl tf) lt (.ref gl)) 7)]) (hbd : @Ne Nat d b)
    (hG : g.IsList gl gits) (hps : All2 (fun v p => PairV g v p.1 p.2) gits.toList ps) (hgit : gits.size ≤ 1000) (hm0 : 0 ≤ most) (hord : ∀ p ∈ ps, fl < p.2 ∧ p.2 ≤ tp)
    (h0 : (ps.length : Int) ≤ most → ∀ h' tk t, Stay g h' →
      Own g h' [(b, instObj 170 d), (d, dictOf (boxEs w.params k nm vl nu (.int tp tt) (.int fl tf) lt (.ref gl)) 7)] → R (.ok (.ret (.int 0 t))) { s with heap := h', toks := tk })
    (h1 : ∀ u mq, most < (ps.length : Int) → ps[((ps.length : Int) - most - 1).toNat]? = some (u, mq) → ∀ h' tk t t' g' gvs gc, Stay g h' → All2 (fun v q => PairN g h' v q.1 q.2) gvs (ps.filter (fun q => decide (mq < q.2))) →
      Own g h' [(b, instObj 170 d), (d, dictOf (boxEs w.params k nm vl nu (.int tp tt) (.int mq t') lt (.ref g')) 7), (g', listOf gvs.toArray gc)] →
      R (.ok (.ret (.int ((ps.length : Int) - ((ps.filter (fun q => decide (mq < q.2))).length : Int)) t))) { s with heap := h', toks := tk }) :
    codeAny (model prog w) (callerA.deeper env₀) (.call (.ref 33) ⟨[.ref b, .int most tm], []⟩) R s := by
  ktr_units
  have B := Am.B
  have X := Am.X
  have T := Am.T
  ktr_rel
  intro L' h₁ F N' hlt
  k_lt hlt
  try dsimp only
  clear N hsz
  try k_unmd
  k_fold
  ktr_unf
  · try dsimp only
    try k_unfold
    rename Fr _ _ _ _ => F9
    rename News _ _ _ _ => N9
    exact h0 (by have := hps.length; simp at this; omega) _ _ _ F9.keep (own_of N9)
  rename ¬ _ => hlen
  have hpl := hps.length
  simp only [Array.length_toList] at hpl
  have hidx : ((gits.size : Int) - most - 1).toNat < gits.size := by omega
  obtain ⟨⟨pu, pm⟩, hp, t, t1, t2, hv, ht⟩ := hps.get (i := ((gits.size : Int) - most - 1).toNat) (a := gits[((gits.size : Int) - most - 1).toNat]) (by simp [hidx])
  rename Fr _ _ _ _ => F1
  refine item_list (stays_list F1.keep hG) (by omega) (by omega) (by rw [Array.getElem?_eq_getElem hidx, hv]) ?_
  try dsimp only
  ktr_unf
  have hpm := hord _ (List.mem_of_getElem? hp)
  obtain ⟨hpm1, hpm2⟩ := hpm
  dsimp only at hpm1 hpm2 ht
  refine item_pair1 (F1.keep _ _ ht) ?_
  try dsimp only
  ktr_unf
  rename Fr g _ _ _ => FG
  rename Fr _ _ _ _ => F2
  rename News _ _ _ _ => N2
  rename (_ : Data) = Data.cell _ => hcell
  rw [if_neg (by omega), if_neg (by omega)] at hcell
  refine pt_block (fun v (q : Int × Int) => PairV g v q.1 q.2) (fun q v1 v2 => ∃ t1 t2, v1 = .int q.1 t1 ∧ v2 = .int q.2 t2) (fun q => decide (pm < q.2)) (fun t o y q => y = .ref t ∧ ∃ t1 t2, o = tupOf [.int q.1 t1, .int q.2 t2])
    rfl (.inl (stays_list FG.keep hG)) F2 N2 (by decide) rfl rfl rfl (by decide) hps hgit ?src ?test ?el ?fin
  case src =>
    rintro v q h3 ⟨t3, t4, t5, rfl, e⟩ F3 N3
    exact ⟨t3, _, _, rfl, ⟨_, F3.keep _ _ (FG.keep _ _ e), rfl, _, rfl⟩, _, _, rfl, rfl⟩
  case test =>
    rintro q v1 v2 I oI C oC D ys m₂ h3 tk3 pre E' ⟨t3, t4, rfl, rfl⟩ hC hm1 hm2 F3 N3
    clear F2 N2
    simp only [List.cons_append, List.nil_append] at N3
    k_fold
    ktr_unf
    exact ⟨rfl, _, _, rfl, F3, N3⟩
  case el =>
    rintro q v1 v2 I oI C oC D ys m₂ h3 tk3 pre E' ⟨t3, t4, rfl, rfl⟩ hC hm1 hm2 F3 N3
    clear F2 N2
    simp only [List.cons_append, List.nil_append] at N3
    k_fold
    ktr_unf
    try k_unfold
    rename Fr _ _ _ _ => F4
    rename News _ _ _ _ => N4
    exact ⟨_, _, _, _, rfl, F4, N4, ⟨by omega, by omega, by omega⟩, rfl, _, _, rfl⟩
  case fin =>
    intro D C h3 tk3 m' ys pre F3 N3 o3 hC C0 CL CD offC hys hpre
    clear F2 N2
    refine post_assign ?e1 ?e2 ?e3 F3 N3 hC C0 CL CD offC (fun h4 tk4 F4 N4 => ?fin2)
    case e1 => rfl
    case e2 => rfl
    case e3 => rfl
    clear F3 N3
    have hpd : ∀ p ∈ pre, p.1 ≠ d := by
      rintro ⟨t, o⟩ hp e
      obtain ⟨y, a, hy, t1, t2, ho⟩ := hpre _ hp
      dsimp only at ho e
      subst ho
      exact ne_of_objs N4 (.tail _ (List.mem_append.mpr (.inr hp))) (by simp only [List.cons_append]; k_mem) (by simp) e
    simp only [List.cons_append, List.nil_append] at N4
    have hG' := stays_list FG.keep hG
    try dsimp only
    try k_unmd
    try k_fold
    ktr_unf
    have hL9 := hys.length
    have hL8 := List.length_filter_le (fun q : Int × Int => decide (pm < q.2)) ps
    refine len_list (items := ys.toArray) ⟨_, (N4 _ (.head _)).1, rfl, _, rfl⟩ (by simp only [List.size_toArray]; omega) ?_
    try dsimp only
    ktr_unf
    try dsimp only
    try k_unfold
    try dsimp only
    try k_unfold
    rename Fr _ _ _ _ => F9
    rename News _ _ _ _ => N9
    have ev : ((gits.size : Int) - (ys.toArray.size : Int)) = (ps.length : Int) - ((ps.filter (fun q => decide (pm < q.2))).length : Int) := by rw [show ys.toArray.size = ys.length from List.size_toArray .., hL9, hpl]
    rw [ev]
    refine' h1 pu pm (by omega) (by rw [← hpl]; exact hp) _ _ _ _ _ _ _ F9.keep (hys.mono ?pairs) (own_sub (own_of N9) ?sub)
    case sub => k_allIn
    case pairs =>
      rintro y a ⟨t, o, hto, rfl, t1, t2, rfl⟩
      have h9 := N9 (t, tupOf [.int a.1 t1, .int a.2 t2]) (by repeat (first | exact hto | refine List.Mem.tail _ ?_))
      exact ⟨t, t1, t2, rfl, h9.1, h9.2.2⟩
end PartMC5

section RulesTwo
open PySem PySem.W PyProof.Rows PySem.Calls PyProof.Rows.LCg
local macro_rules | `(tactic| k_handed) => `(tactic| assumption)

section PartMC6
theorem offMC6 : True := by
  w_top off
  trivial
open PySem PySem.W PyProof.Rows PySem.Calls PyProof.Rows.LCg
-- ktr_unf: walk on; ktr_rel: enter a plain def by its contract; ktr_units: fill the kept part; tb_start: enter a def with cells
-- end of header
set_option maxRecDepth 100000 in
set_option maxHeartbeats 4000000 in
theorem told_ct {prog : Program} {w : World} {A : Around} {outer : List Env} {s : Shared} {base g : Heap} {mean : ExcName → Option Value} {mg mb : Str → Option Value} {R : Result → Shared → Prop} {a dx : Addr} {k0 k1 k2 k3 k4 : Tok} {uv oc fv ins md : Value}
    (Am : Amb w A base outer mean mg mb g) (hroom : A.depth < recursionLimit) (st : Stay g s.heap) (hsz : g.objs.size ≤ s.heap.objs.size)
    (ha : g.get? a = some (instObj 132 dx)) (hdx : g.get? dx = some (dictOf (letEs w.params k0 k1 k2 k3 k4 uv oc fv ins md) 5)) (huv : handedIn uv = true) (hoc : handedIn oc = true) (hfv : handedIn fv = true) (hins : handedIn ins = true) (hmd : handedIn md = true)
    (h : ∀ h' tk r, Stay g h' → Own g h' [(r, tupOf [uv, oc, fv, ins, md])] → R (.ok (.ret (.ref r))) { s with heap := h', toks := tk }) :
    codeAny (model prog w) A (.call (.ref 129) ⟨[.ref a], []⟩) R s := by
  ktr_units
  have B := Am.B
  have X := Am.X
  have T := Am.T
  have N : Own g s.heap [] := fun _ hp => nomatch hp
  ktr_rel
  intro L' h₁ F N' hlt
  clear N hsz
  try dsimp only
  try k_unmd
  k_fold
  ktr_unf
  try dsimp only

  try k_unfold
  rename Fr _ _ _ _ => F9
  rename News _ _ _ _ => N9
  exact h _ _ _ F9.keep (own_of N9)

/-- the same, as a step of a walk -/
theorem told_K {prog : Program} {w : World} {A A₀ : Around} {E : Value → Shared → Prop} {outer : List Env} {env : Env} {s : Shared} {base g : Heap} {mean : ExcName → Option Value} {mg mb : Str → Option Value} {Q : Value → Shared → Prop} {L a dx : Addr} {m : Str → Option Value} {news : List (Addr × Obj)} {k0 k1 k2 k3 k4 : Tok} {uv oc fv ins md : Value}
    (B : Below A₀ base outer g) (F : Fr g L s.heap m) (N : News g L s.heap news) (hA : A.frames = some (env :: outer)) (hf : env.frame = some L) (hke : env.scope.kind = .function) (X : (hd.heap_39 w.params).In g) (T : TopG mean mg mb g) (hh : A.handled = none) (hroom : A.depth < recursionLimit)
    (ha : s.heap.get? a = some (instObj 132 dx)) (hdx : s.heap.get? dx = some (dictOf (letEs w.params k0 k1 k2 k3 k4 uv oc fv ins md) 5)) (huv : handedIn uv = true) (hoc : handedIn oc = true) (hfv : handedIn fv = true) (hins : handedIn ins = true) (hmd : handedIn md = true)
    (h : ∀ h' tk r, Fr g L h' m → News g L h' ((r, tupOf [uv, oc, fv, ins, md]) :: news) → Stay s.heap h' → s.heap.get? r = none → Q (.ref r) { s with heap := h', toks := tk }) :
    wpAny (model prog w) A (call (.ref 129) [.ref a]) Q E s := by
  obtain ⟨Am, O, st, sg, hz⟩ := site (led := []) B F N hA hf hke X T hh (fun _ hp => nomatch hp)
  refine wpAny_call (told_ct Am hroom st hz ha hdx huv hoc hfv hins hmd fun h' tk r st' O' => ?_)
  obtain ⟨F', N', K⟩ := site_back F N (led := []) (fun _ hp => nomatch hp) st' O'
  refine h h' tk r F' ?_ st' (O' _ (List.mem_cons_self ..)).2
  intro p hp
  rcases List.mem_cons.mp hp with rfl | hp
  · exact N' _ (List.mem_cons_self ..)
  · exact ⟨st' _ _ (N p hp).1, (N p hp).2⟩
end PartMC6

section PartMLaw
theorem offMLaw : True := by
  w_top off
  trivial
open PySem PySem.W PyProof.Rows PySem.Calls PyProof.Rows.LCg
def lawBody : List Stmt := match PySem.Challenge.pw_or0040_01.main.body.getLast? with
  | some (.FunctionDef _ _ b _ _ _ _ _ _ _) => b
  | _ => []
def lawScope : Scope := match PySem.Challenge.pw_or0040_01.main.body.getLast? with
  | some (.FunctionDef _ _ _ _ _ _ s _ _ _) => s
  | _ => default
def forBody : Option Stmt → List Stmt
  | some (.For _ _ b _ _) => b
  | _ => []
def body1 : List Stmt := forBody lawBody[3]?
def body2 : List Stmt := forBody lawBody[4]?
def bodyT : List Stmt := forBody body1[0]?
noncomputable abbrev lawEnv (L fa : Addr) (cd : Value) : Env := envOf (Str.ofString "law") lawScope L fa cd
theorem news_tail {base h' : Heap} {L : Addr} {led' led'' tl news : List (Addr × Obj)} {as : List Addr} (N' : News base L h' led') (hs : ∀ p ∈ led'', p ∈ led') (K : ∀ p ∈ news, p.1 ∉ as → h'.get? p.1 = some p.2 ∧ p.1 ≠ L ∧ base.get? p.1 = none)
    (ht : ∀ p ∈ tl, p ∈ news ∧ p.1 ∉ as) : News base L h' (led'' ++ tl) := fun p hp => (List.mem_append.mp hp).elim (fun q => N' p (hs p q)) fun q => K p (ht p q).1 (ht p q).2

section
variable {prog : Program} {w : World} {A₀ : Around} {E : Value → Shared → Prop} {env : Env} {s : Shared} {base : Heap} {mean : ExcName → Option Value} {mg mb : Str → Option Value} {Q : Value → Shared → Prop} {L b d l e gl : Addr} {m : Str → Option Value} {tl : List (Addr × Obj)}
  {k : Nat → Tok} {nm vl : Value} {its : Array Value}
theorem add_K {nu tp ti : Int} {fl gn oc : Value} {tn tt tv : Tok} {n ne : Nat}
    (B : Below A₀ base [] base) (F : Fr base L s.heap m) (N : News base L s.heap ((e, listOf #[] ne) :: (b, instObj 170 d) :: (d, dictOf (boxEs w.params k nm vl (.int nu tn) (.int tp tt) fl (.ref l) gn) 7) :: (l, listOf its n) :: tl))
    (hA : (callerA.deeper env).frames = some [env]) (hf : env.frame = some L) (hke : env.scope.kind = .function) (X : (hd.heap_39 w.params).In base) (T : TopG mean mg mb base) (hh : (callerA.deeper env).handled = none)
    (hbd : @Ne Nat d b) (hlb : @Ne Nat l b) (hld : @Ne Nat l d) (heb : @Ne Nat e b) (hed : @Ne Nat e d) (hel : @Ne Nat e l) (hit : its.size ≤ 1000) (ho : handedIn oc = true)
    (hoff : ∀ p ∈ tl, p.1 ≠ e ∧ p.1 ≠ b ∧ p.1 ≠ d ∧ p.1 ≠ l)
    (h : ∀ h' tk x dx D vs k0 k1 k2 k3 k4 t1 t2 t3, Fr base L h' m → News base L h' ((x, instObj 132 dx) :: (dx, dictOf (letEs w.params k0 k1 k2 k3 k4 (.int nu tn) oc (.ref D) (.int ti tv) (.int (tp + 1) t1)) 5) :: (D, tupOf vs) ::
        (b, instObj 170 d) :: (d, dictOf (boxEs w.params k nm vl (.int (nu + 1) t2) (.int (tp + 1) t3) fl (.ref l) gn) 7) :: (l, listOf (its.push (.ref x)) (n + 1)) :: tl) → (∀ p ∈ tl, p.1 ≠ x ∧ p.1 ≠ dx) →
      Q (.ref x) { s with heap := h', toks := tk }) :
    wpAny (model prog w) (callerA.deeper env) (call (.ref 195) [.ref b, oc, .ref e, .int ti tv]) Q E s := by
  obtain ⟨Am, O, st, sg, hz⟩ := site (led := [(b, instObj 170 d), (d, dictOf (boxEs w.params k nm vl (.int nu tn) (.int tp tt) fl (.ref l) gn) 7), (l, listOf its n), (e, listOf #[] ne)]) B F N hA hf hke X T hh (by k_allIn)
  refine wpAny_call (add_ct Am st hz O hbd hlb hld heb hed hel hit ho fun h' tk x dx D j1 j2 o1 o2 vs k0 k1 k2 k3 k4 t1 t2 t3 st' O' => ?_)
  obtain ⟨F', N', K⟩ := site_back F N (led := [(b, instObj 170 d), (d, dictOf (boxEs w.params k nm vl (.int nu tn) (.int tp tt) fl (.ref l) gn) 7), (l, listOf its n), (e, listOf #[] ne)]) (by k_allIn) st' O'
  exact h h' tk x dx D vs k0 k1 k2 k3 k4 t1 t2 t3 F' (news_tail (led'' := [(x, instObj 132 dx), (dx, dictOf (letEs w.params k0 k1 k2 k3 k4 (.int nu tn) oc (.ref D) (.int ti tv) (.int (tp + 1) t1)) 5), (D, tupOf vs), (b, instObj 170 d), (d, dictOf (boxEs w.params k nm vl (.int (nu + 1) t2) (.int (tp + 1) t3) fl (.ref l) gn) 7), (l, listOf (its.push (.ref x)) (n + 1))])
    N' (by k_allIn) K fun p hp => ⟨by repeat (first | exact hp | refine List.Mem.tail _ ?_), fun hm => by
      have ho := hoff p hp
      simp only [List.map_cons, List.map_nil, List.mem_cons, List.not_mem_nil, or_false] at hm
      rcases hm with q | q | q | q
      · exact ho.2.1 q
      · exact ho.2.2.1 q
      · exact ho.2.2.2 q
      · exact ho.1 q⟩) fun p hp => by
    have ho := hoff p hp
    have hn : p.1 ∉ ([(b, instObj 170 d), (d, dictOf (boxEs w.params k nm vl (.int nu tn) (.int tp tt) fl (.ref l) gn) 7), (l, listOf its n), (e, listOf #[] ne)] : List (Addr × Obj)).map (·.1) := fun hm => by
      simp only [List.map_cons, List.map_nil, List.mem_cons, List.not_mem_nil, or_false] at hm
      rcases hm with q | q | q | q
      · exact ho.2.1 q
      · exact ho.2.2.1 q
      · exact ho.2.2.2 q
      · exact ho.1 q
    have hg := hideAll_get _ (N p (by repeat (first | exact hp | refine List.Mem.tail _ ?_))).1 hn
    constructor
    · intro q
      have := (O' _ (.head _)).2
      dsimp only at this
      rw [← q, hg] at this; cases this
    · intro q
      have := (O' _ (.tail _ (.head _))).2
      dsimp only at this
      rw [← q, hg] at this; cases this
end
end PartMLaw

section RulesThree
open PySem PySem.W PyProof.Rows PySem.Calls PyProof.Rows.LCg
local macro_rules | `(tactic| walk_at "compareOp In int ref") => `(tactic| (k_here; k_dflt (refine want_in (by k_asm) (by k_mem) (by assumption) (by assumption) ?_)))
local macro_rules | `(tactic| walk_at "compareOp NotIn int ref") => `(tactic| (k_here; k_dflt (refine want_notin (by k_asm) (by k_mem) (by assumption) (by assumption) ?_)))
local macro_rules | `(tactic| walk_at "setItem ref int") => `(tactic| (k_here; k_dflt (refine' want_set ?F ?N ?U ?d ?z ?_; (case F => k_asm); (case N => k_asm); (case U => k_updF); (case d => assumption); (case z => (rw [sizeLine_eq]; omega))); intro h' o' F' N' hd'; (try dsimp only at N')))
local macro_rules | `(tactic| walk_at "call ref") => `(tactic| (k_here; (with_reducible show wpAny _ _ (call (Value.ref 162) _) _ _ _); k_dflt (refine' uids_K ?k1 ?k2 ?k3 ?kA ?kF ?kK ?k4 ?k5 ?k6 ?k7 ?k8 ?k9 ?k10 ?k11 ?k12 ?_; (case kA => exact rfl); (case kF => exact rfl); (case kK => exact rfl); (case k1 => k_asm); (case k2 => k_asm); (case k3 => k_asm); (case k4 => k_asm); (case k5 => k_asm); (case k6 => exact rfl); (case k7 => k_room); (case k8 => k_mem); (case k9 => k_mem); (case k10 => exact stays_list (Fr.keep (by k_asm)) (by assumption)); (case k11 => exact All2.mono (by assumption) (fun _ _ z => LetV.mono z (Fr.keep (by k_asm)))); (case k12 => omega)); intro h' tk' r' vs' c' F' N' st' nn' of' hv'; (try simp only [LCg.Off1, and_true] at of'); (try k_sweep)))
local macro_rules | `(tactic| walk_at "exec For") => `(tactic| (k_here; (rename Fr _ _ _ _ => lF'); (with_unfolding_all refine' For_invVF lF' ?k1 ?k2 ?_; (case k1 => exact rfl); (case k2 => exact rfl); k_whole)))
local macro_rules | `(tactic| walk_at "exec Assign cons ListComp") => `(tactic| (k_here; k_dflt (first | (lcp_look; (refine LCp.Assign_ListComp_P (F₀ := by k_asm) (by rfl) (by with_unfolding_all rfl) (by with_unfolding_all rfl) (by decide) (by rfl) (by decide) (by rfl) (by rfl) (by decide) (by rfl) (by rfl) ?_)) | (lct_look; (refine LCt.Assign_ListComp_T (F₀ := by k_asm) (by rfl) (by with_unfolding_all rfl) (by with_unfolding_all rfl) (by decide) (by rfl) (by decide) (by rfl) (by rfl) (by rfl) ?_)) | (lcg_look; (refine LCg.Assign_ListComp_U (F₀ := by k_asm) (by rfl) (by with_unfolding_all rfl) (by with_unfolding_all rfl) (by decide) (by rfl) (by decide) (by rfl) (by rfl) (by rfl) ?_)) | (lcf_look; (refine LCg.Assign_ListComp_U (F₀ := by k_asm) (by rfl) (by with_unfolding_all rfl) (by with_unfolding_all rfl) (by decide) (by rfl) (by decide) (by rfl) (by rfl) (by rfl) ?_)))))
local macro_rules | `(tactic| k_all) => `(tactic| assumption)

section PartML1
theorem offML1 : True := by
  w_top off
  trivial
open PySem PySem.W PyProof.Rows PySem.Calls PyProof.Rows.LCg
-- ktr_unf: walk on; ktr_rel: enter a plain def by its contract; ktr_units: fill the kept part; tb_start: enter a def with cells
-- end of header
-- header two
local macro_rules | `(tactic| walk_at "call ref") => `(tactic| (k_here; (first | (with_reducible show wpAny _ _ (call (Value.ref 195) _) _ _ _) | (with_reducible show wpAny _ _ (call (Value.ref 200) _) _ _ _) | (with_reducible show wpAny _ _ (call (Value.ref 33) _) _ _ _)); refine Stop.out ?_))
set_option maxRecDepth 100000 in
set_option maxHeartbeats 4000000 in
theorem inner_turn {prog : Program} {w : World} {s : Shared} {base : Heap} {mean : ExcName → Option Value} {mg mb : Str → Option Value} {L fa b d l : Addr} {cd : Value} {k : Nat → Tok} {nm vl fl gn : Value} {nu tp ti : Int} {tn tt tk₀ : Tok} {its : Array Value} {n : Nat}
    {m : Str → Option Value} {tl : List (Addr × Obj)} {Q : Flow → Shared → Prop} {E : Value → Shared → Prop}
    (B : Below callerA base [] base) (X : (hd.heap_39 w.params).In base) (T : TopG mean mg mb base)
    (hm : m = fun y => if y = Str.ofString "turn" then some (.int ti tk₀) else if y = Str.ofString "box" then some (.ref b) else m y)
    (F : Fr base L s.heap m) (N : News base L s.heap ((b, instObj 170 d) :: (d, dictOf (boxEs w.params k nm vl (.int nu tn) (.int tp tt) fl (.ref l) gn) 7) :: (l, listOf its n) :: tl))
    (hbd : @Ne Nat d b) (hlb : @Ne Nat l b) (hld : @Ne Nat l d) (hit : its.size ≤ 1000)
    (hoff : ∀ p ∈ tl, p.1 ≠ b ∧ p.1 ≠ d ∧ p.1 ≠ l)
    (h : ∀ h' tk x dx D vs k0 k1 k2 k3 k4 t0 t1 t2 t3, Fr base L h' m → News base L h' ((x, instObj 132 dx) :: (dx, dictOf (letEs w.params k0 k1 k2 k3 k4 (.int nu tn) (.bytes #[102] t0) (.ref D) (.int ti tk₀) (.int (tp + 1) t1)) 5) :: (D, tupOf vs) ::
        (b, instObj 170 d) :: (d, dictOf (boxEs w.params k nm vl (.int (nu + 1) t2) (.int (tp + 1) t3) fl (.ref l) gn) 7) :: (l, listOf (its.push (.ref x)) (n + 1)) :: tl) → (∀ p ∈ tl, p.1 ≠ x ∧ p.1 ≠ dx) →
      Q .next { s with heap := h', toks := tk }) :
    wpAny (model prog w) (callerA.deeper (lawEnv L fa cd)) (execs bodyT (lawEnv L fa cd)) Q E s := by
  ktr_units
  dsimp only [bodyT, body1, lawEnv, lawScope, lawBody, forBody, PySem.Challenge.pw_or0040_01, List.getLast?, List.getLast, List.getElem?_cons_succ, List.getElem?_cons_zero, List.length_cons, List.length_nil]
  rw [hm] at F
  ktr_unf
  rename _ ∧ _ => hlt
  rename Fr _ _ _ _ => F1
  rename News _ _ _ _ => N1
  obtain ⟨q1, q2, q3, q4⟩ := hlt
  refine Stop.mk ?_
  refine add_K B F1 N1 rfl rfl rfl X T rfl hbd hlb hld (Nat.ne_of_gt q1) (Nat.ne_of_gt q2) (Nat.ne_of_gt q3) hit rfl (fun p hp => ⟨Nat.ne_of_lt (tb_ltOf q4 p hp), hoff p hp⟩) ?_
  intro h2 tk2 x dx D vs k0 k1 k2 k3 k4 t1 t2 t3 F2 N2 hx
  clear F1 N1
  ktr_unf
  rw [← hm] at F2
  exact h _ _ _ _ _ _ _ _ _ _ _ _ _ _ _ F2 N2 hx
end PartML1

section PartMLed
theorem offMLed : True := by
  w_top off
  trivial
open PySem PySem.W PyProof.Rows PySem.Calls PyProof.Rows.LCg

/-- the ledger of a frame in parts: what may change, what is another's, and the ground gr -/
structure Led (base : Heap) (L : Addr) (h : Heap) (mu own : List (Addr × Obj)) (gr : Heap) : Prop where
  S : Sub base L gr h
  N : News base L h (mu ++ own)
  mg : ∀ p ∈ mu, gr.get? p.1 = none
  mo : ∀ p ∈ mu, ∀ q ∈ own, q.1 ≠ p.1
  og : ∀ q ∈ own, gr.get? q.1 = none

section
variable {base h h' gr g : Heap} {L : Addr} {mu own : List (Addr × Obj)}
theorem Led.news (D : Led base L h mu own gr) : News base L h (mu ++ (own ++ restOf base gr)) := fun p hp => by
  rcases List.mem_append.mp hp with hp | hp
  · exact D.N p (List.mem_append.mpr (.inl hp))
  · rcases List.mem_append.mp hp with hp | hp
    · exact D.N p (List.mem_append.mpr (.inr hp))
    · exact D.S.news p hp
theorem Led.off (D : Led base L h mu own gr) : ∀ q ∈ own ++ restOf base gr, ∀ p ∈ mu, q.1 ≠ p.1 := fun q hq p hp e => by
  rcases List.mem_append.mp hq with hq | hq
  · exact D.mo p hp q hq e
  · have := (mem_restOf.mp (show (q.1, q.2) ∈ _ from hq)).1
    rw [e, D.mg p hp] at this; cases this
theorem Led.stay (D : Led base L h mu own gr) (st : Stay h h') : Led base L h' mu own gr :=
  ⟨⟨D.S.st.trans st, D.S.hL, D.S.nb⟩, fun p hp => ⟨st _ _ (D.N p hp).1, (D.N p hp).2⟩, D.mg, D.mo, D.og⟩
theorem Led.next {mu' : List (Addr × Obj)} (D : Led base L h mu own gr) (N' : News base L h' (mu' ++ (own ++ restOf base gr))) (hm : ∀ p ∈ mu', gr.get? p.1 = none ∧ ∀ q ∈ own, q.1 ≠ p.1) :
    Led base L h' mu' own (newPart base L h' ((mu' ++ own).map (·.1))) ∧ Stay gr (newPart base L h' ((mu' ++ own).map (·.1))) ∧
      (∀ a o, h'.get? a = some o → a ≠ L → base.get? a = none → (∀ q ∈ own, q.1 ≠ a) → (∀ p ∈ mu', p.1 ≠ a) → (newPart base L h' ((mu' ++ own).map (·.1))).get? a = some o) := by
  have hr : News base L h' (restOf base gr) := fun p hp => N' p (List.mem_append.mpr (.inr (List.mem_append.mpr (.inr hp))))
  refine ⟨⟨newPart_sub, fun p hp => N' p ?_, fun p hp => newPart_own p (List.mem_append.mpr (.inl hp)), fun p hp => (hm p hp).2, fun q hq => newPart_own q (List.mem_append.mpr (.inr hq))⟩, ?_, ?_⟩
  · exact (List.mem_append.mp hp).elim (fun q => List.mem_append.mpr (.inl q)) fun q => List.mem_append.mpr (.inr (List.mem_append.mpr (.inl q)))
  · refine newPart_stay (own := mu' ++ own) (D.S.ofNews hr) (fun a o e => (hr (a, o) (mem_restOf.mpr ⟨e, D.S.nb _ _ e⟩)).1) fun p hp => ?_
    exact (List.mem_append.mp hp).elim (fun q => (hm p q).1) (D.og p)
  · intro a o e hL hb h1 h2
    refine newPart_get e hL hb fun hm => ?_
    obtain ⟨p, hp, rfl⟩ := List.mem_map.mp hm
    exact (List.mem_append.mp hp).elim (fun q => h2 p q rfl) fun q => h1 p q rfl

/-- g has the ground gr and the things that may change -/
def Part (mu : List (Addr × Obj)) (gr g : Heap) : Prop := Stay gr g ∧ ∀ p ∈ mu, g.get? p.1 = some p.2 ∧ gr.get? p.1 = none
theorem Part.led (P : Part mu gr g) (S : Sub base L g h) (ho : ∀ p ∈ own, g.get? p.1 = none) (N : News base L h own) : Led base L h mu own gr where
  S := ⟨P.1.trans S.st, (by
    cases e : gr.get? L with
    | none => rfl
    | some o => have := P.1 _ _ e; rw [S.hL] at this; cases this), fun a o e => S.nb _ _ (P.1 _ _ e)⟩
  N := fun p hp => by
    rcases List.mem_append.mp hp with hp | hp
    · exact S.news p (S.mem (P.2 p hp).1)
    · exact N p hp
  mg := fun p hp => (P.2 p hp).2
  mo := fun p hp q hq e => by
    have h1 := (P.2 p hp).1
    rw [← e, ho q hq] at h1; cases h1
  og := fun q hq => by
    cases e : gr.get? q.1 with
    | none => rfl
    | some o => have := P.1 _ _ e; rw [ho q hq] at this; cases this
theorem Led.part (D : Led base L h mu own gr) : Sub base L (newPart base L h (own.map (·.1))) h ∧ (∀ p ∈ own, (newPart base L h (own.map (·.1))).get? p.1 = none) ∧ Part mu gr (newPart base L h (own.map (·.1))) := by
  refine ⟨newPart_sub, newPart_own, newPart_stay D.S D.S.st D.og, fun p hp => ⟨?_, D.mg p hp⟩⟩
  have hn := D.N p (List.mem_append.mpr (.inl hp))
  refine newPart_get hn.1 hn.2.1 hn.2.2 fun hm => ?_
  obtain ⟨q, hq, e⟩ := List.mem_map.mp hm
  exact D.mo p hp q hq e
theorem Led.own_news (D : Led base L h mu own gr) : News base L h own := fun p hp => D.N p (List.mem_append.mpr (.inr hp))
theorem Led.mem (D : Led base L h mu own gr) {p : Addr × Obj} (hp : p ∈ mu) : h.get? p.1 = some p.2 := (D.N p (List.mem_append.mpr (.inl hp))).1
theorem Led.offs (D : Led base L h mu own gr) {a : Addr} (ha : a ∈ mu.map (·.1)) : gr.get? a = none ∧ ∀ q ∈ own, q.1 ≠ a := by
  obtain ⟨p, hp, rfl⟩ := List.mem_map.mp ha
  exact ⟨D.mg p hp, D.mo p hp⟩
theorem Led.split {m2 : List (Addr × Obj)} (D : Led base L h (mu ++ m2) own gr) (hd : ∀ p ∈ mu, ∀ q ∈ m2, q.1 ≠ p.1) : Led base L h mu (m2 ++ own) gr where
  S := D.S
  N := fun p hp => D.N p (by rw [List.append_assoc]; exact hp)
  mg := fun p hp => D.mg p (List.mem_append.mpr (.inl hp))
  mo := fun p hp q hq => (List.mem_append.mp hq).elim (hd p hp q) (D.mo p (List.mem_append.mpr (.inl hp)) q)
  og := fun q hq => (List.mem_append.mp hq).elim (fun z => D.mg q (List.mem_append.mpr (.inr z))) (D.og q)
theorem Led.unsplit {m2 : List (Addr × Obj)} (D : Led base L h mu (m2 ++ own) gr) (hd : ∀ p ∈ m2, ∀ q ∈ own, q.1 ≠ p.1) : Led base L h (mu ++ m2) own gr where
  S := D.S
  N := fun p hp => D.N p (by rw [← List.append_assoc]; exact hp)
  mg := fun p hp => (List.mem_append.mp hp).elim (D.mg p) fun z => D.og p (List.mem_append.mpr (.inl z))
  mo := fun p hp q hq => (List.mem_append.mp hp).elim (fun z => D.mo p z q (List.mem_append.mpr (.inr hq))) fun z => hd p z q hq
  og := fun q hq => D.og q (List.mem_append.mpr (.inr hq))
end

theorem range_small : ∀ n : Nat, n < 6 → Builtin.Range.small 0 (n : Int) 1 = true ∧ Builtin.Range.rangeSize 0 (n : Int) 1 = (n : Int) := by decide

/-- a letter is no box, dict of a box, or list -/
theorem lets_hide {P : Params} {h gr : Heap} {vs : List Value} {us : List Int} (hl : All2 (LetV P gr) vs us) (st : Stay gr h) : All2 (LetV P h) vs us := hl.mono fun _ _ z => z.mono st

section
variable {prog : Program} {w : World} {s : Shared} {base gr : Heap} {mean : ExcName → Option Value} {mg mb : Str → Option Value} {L fa b d l rl r : Addr} {cd : Value} {k : Nat → Tok} {nm vl fl gn : Value} {nu tp : Int} {tn tt ta tb tc : Tok} {its : Array Value} {n₀ : Nat} {us : List Int} {ro : Obj}
    {m : Str → Option Value} {own : List (Addr × Obj)} {Q : Flow → Shared → Prop} {E : Value → Shared → Prop} {n : Nat}
set_option maxHeartbeats 800000 in
theorem inner_loop
    (B : Below callerA base [] base) (X : (hd.heap_39 w.params).In base) (T : TopG mean mg mb base)
    (F : Fr base L s.heap m) (D : Led base L s.heap [(b, instObj 170 d), (d, dictOf (boxEs w.params k nm vl (.int nu tn) (.int tp tt) fl (.ref l) gn) 7), (l, listOf its n₀)] own gr)
    (hr : IsRange s.heap r 0 n 1 ta tb tc) (hn : n ≤ 5) (hb : m (Str.ofString "box") = some (.ref b)) (hl : All2 (LetV w.params gr) its.toList us) (hit : us.length ≤ 900)
    (done : ∀ h' tk m' its' nn tn' tt' gr', (∀ y, y ≠ Str.ofString "turn" → m' y = m y) → Fr base L h' m' → Led base L h' [(b, instObj 170 d), (d, dictOf (boxEs w.params k nm vl (.int (nu + n) tn') (.int (tp + n) tt') fl (.ref l) gn) 7), (l, listOf its' nn)] own gr' →
      Stay gr gr' → All2 (LetV w.params gr') its'.toList (us ++ (List.range n).map fun i : Nat => nu + (i : Int)) → Q .next { s with heap := h', toks := tk }) :
    wpAny (model prog w) (callerA.deeper (lawEnv L fa cd)) (pyIter (.ref r)) (fun it s₂ => LoopAtV prog w (callerA.deeper (lawEnv L fa cd)) base (lawEnv L fa cd) (Str.ofString "turn") bodyT Q E it s₂) E s := by
  refine wpAny_pyIter_range hr (range_small n (by omega)).1 ?_
  have stp : Stay s.heap (s.heap.push { cls := .type "range_iterator", data := .fields #[rawInt 0, rawInt (Builtin.Range.rangeSize 0 n 1), rawInt 1] }) := fun _ _ e => Heap.get?_push_of_some _ e
  have nI : s.heap.get? s.heap.objs.size = none := by
    cases e : s.heap.get? s.heap.objs.size with
    | none => rfl
    | some o => exact absurd (Heap.lt_size e) (Nat.lt_irrefl _)
  have hrs := (range_small n (by omega)).2
  obtain ⟨S0, ho0, P0⟩ := D.part
  refine loopAt_heap (n := n) (m₀ := m) (keep := own) (g₀ := newPart base L s.heap (own.map (·.1)))
    (fun i m' g => (∀ y, y ≠ Str.ofString "turn" → m' y = m y) ∧ ∃ gr' its' nn tn' tt', Part [(b, instObj 170 d), (d, dictOf (boxEs w.params k nm vl (.int (nu + (i : Nat)) tn') (.int (tp + (i : Nat)) tt') fl (.ref l) gn) 7), (l, listOf its' nn)] gr' g ∧ Stay gr gr' ∧
      All2 (LetV w.params gr') its'.toList (us ++ (List.range i).map fun i : Nat => nu + (i : Int)))
    (range_walks (I := s.heap.objs.size) rfl 0 n) ?hLf (next_is_new F) ?hst (F.push _) (fun p hp => ⟨stp _ _ (D.own_news p hp).1, (D.own_news p hp).2⟩) ?hkI
    ⟨S0.st.trans stp, S0.hL, S0.nb⟩ ?hg0 ho0 ⟨fun _ _ => rfl, gr, its, n₀, tn, tt, by simpa using P0, Stay.refl _, by simpa using hl⟩ (List.mem_singleton.mpr rfl) ?hlive ?turn ?done
  case hLf => exact fun hm => absurd F.ns.lt ((List.mem_singleton.mp hm) ▸ Nat.lt_irrefl _)
  case hst =>
    show IsRangeIter _ _ _ _ _
    rw [hrs]
    simpa using Heap.get?_push_size _ rfl
  case hkI => exact fun p hp e => absurd (Heap.lt_size (D.own_news p hp).1) (e ▸ Nat.lt_irrefl _)
  case hg0 =>
    intro a ha
    rw [List.mem_singleton.mp ha]
    cases e : (newPart base L s.heap (own.map (·.1))).get? s.heap.objs.size with
    | none => rfl
    | some o => have := S0.st _ _ e; rw [nI] at this; cases this
  case hlive => exact fun i h st a ha => ⟨_, (List.mem_singleton.mp ha) ▸ st⟩
  case turn =>
    rintro i v m₁ g h tk own' hi ⟨tv, rfl⟩ ⟨hm, gr', its', nn, tn', tt', P, st, hls⟩ S ho N F₁
    have D' := P.led S ho N
    have hlen := hls.length
    simp only [Array.length_toList, List.length_append, List.length_map, List.length_range] at hlen
    have hdb : @Ne Nat d b := fun e => by
      have h1 := D'.mem (.head _); have h2 := D'.mem (.tail _ (.head _)); dsimp only at h1 h2; rw [show d = b from e, h1] at h2; cases h2
    have hlb : @Ne Nat l b := fun e => by
      have h1 := D'.mem (.head _); have h2 := D'.mem (.tail _ (.tail _ (.head _))); dsimp only at h1 h2; rw [show l = b from e, h1] at h2; cases h2
    have hld : @Ne Nat l d := fun e => by
      have h1 := D'.mem (.tail _ (.head _)); have h2 := D'.mem (.tail _ (.tail _ (.head _))); dsimp only at h1 h2; rw [show l = d from e, h1] at h2; have := congrArg Obj.cls (Option.some.inj h2); simp [dictOf] at this
    refine inner_turn (ti := 0 + (i : Int)) (tk₀ := tv) (tl := own' ++ restOf base gr') B X T ?_ F₁ D'.news hdb hlb hld (by omega) (fun p hp => ⟨D'.off p hp _ (.head _), D'.off p hp _ (.tail _ (.head _)), D'.off p hp _ (.tail _ (.tail _ (.head _)))⟩) ?_
    · funext y
      by_cases h1 : y = Str.ofString "turn"
      · simp [h1]
      · by_cases h2 : y = Str.ofString "box"
        · simp only [h1, h2, if_true, if_false]
          rw [if_neg (by rw [← h2]; exact h1), if_neg (by rw [← h2]; exact h1), hm _ (by rw [← h2]; exact h1), hb]
        · simp [h1, h2]
    · intro h2 tk2 x dx Dt vs k0 k1 k2 k3 k4 t0 t1 t2 t3 F2 N2 hx
      obtain ⟨D2, st2, get2⟩ := D'.next (mu' := [(b, instObj 170 d), (d, dictOf (boxEs w.params k nm vl (.int (nu + (i : Nat) + 1) t2) (.int (tp + (i : Nat) + 1) t3) fl (.ref l) gn) 7), (l, listOf (its'.push (.ref x)) (nn + 1))])
        (fun p hp => N2 p (.tail _ (.tail _ (.tail _ hp)))) (by
          intro p hp
          simp only [List.mem_cons, List.not_mem_nil, or_false] at hp
          rcases hp with rfl | rfl | rfl
          · exact D'.offs (by simp)
          · exact D'.offs (by simp)
          · exact D'.offs (by simp))
      have nx := N2 _ (.head _)
      have nd := N2 _ (.tail _ (.head _))
      have gx := get2 x _ nx.1 nx.2.1 nx.2.2 (fun q hq => (hx q (List.mem_append.mpr (.inl hq))).1) (by
        intro p hp e
        simp only [List.mem_cons, List.not_mem_nil, or_false] at hp
        have hp' := (D2.N p (List.mem_append.mpr (.inl (by simpa using hp)))).1
        rw [e, nx.1] at hp'
        rcases hp with rfl | rfl | rfl <;> · have := congrArg Obj.cls (Option.some.inj hp'); simp at this)
      have gd := get2 dx _ nd.1 nd.2.1 nd.2.2 (fun q hq => (hx q (List.mem_append.mpr (.inl hq))).2) (by
        intro p hp e
        simp only [List.mem_cons, List.not_mem_nil, or_false] at hp
        have hp' := (D2.N p (List.mem_append.mpr (.inl (by simpa using hp)))).1
        rw [e, nd.1] at hp'
        rcases hp with rfl | rfl | rfl
        · have := congrArg Obj.cls (Option.some.inj hp'); simp [dictOf] at this
        · have := congrArg Obj.data (Option.some.inj hp'); simp [dictOf] at this
        · have := congrArg Obj.cls (Option.some.inj hp'); simp [dictOf] at this)
      obtain ⟨S3, ho3, P3⟩ := D2.part
      refine .mk ⟨rfl, h2, tk2, _, _, rfl, F2, S3, ho3, D2.own_news, ?_, _, its'.push (.ref x), nn + 1, t2, t3, ?_, st.trans st2, ?_⟩
      · intro y hy
        rw [if_neg hy, hm y hy]
      · have e1 : nu + ((i + 1 : Nat) : Int) = nu + (i : Int) + 1 := by omega
        have e2 : tp + ((i + 1 : Nat) : Int) = tp + (i : Int) + 1 := by omega
        rw [e1, e2]; exact P3
      · rw [Array.toList_push, List.range_succ, List.map_append (f := fun i : Nat => nu + (i : Int)), ← List.append_assoc]
        refine (hls.mono fun _ _ z => z.mono st2).append (.cons ?_ .nil)
        exact ⟨x, dx, k0, k1, k2, k3, k4, tn', _, _, _, _, rfl, gx, gd, rfl, rfl, rfl, rfl⟩
  case done =>
    rintro h tk m' g ⟨hm, gr', its', nn, tn', tt', P, st, hls⟩ S ho N F'
    exact done h tk m' its' nn tn' tt' gr' hm F' (P.led S ho N) st hls
end
end PartMLed

section PartMXK
theorem offMXK : True := by
  w_top off
  trivial
open PySem PySem.W PyProof.Rows PySem.Calls PyProof.Rows.LCg

section
variable {prog : Program} {w : World} {A₀ : Around} {E : Value → Shared → Prop} {env : Env} {s : Shared} {base : Heap} {mean : ExcName → Option Value} {mg mb : Str → Option Value} {Q : Value → Shared → Prop} {L b d l gl ul : Addr} {m : Str → Option Value} {tl : List (Addr × Obj)}
  {k : Nat → Tok} {nm vl : Value} {its gits : Array Value}
theorem list_hide2 {h : Heap} {es : List DictEntry} (hb : h.get? b = some (instObj 170 d)) (hd : h.get? d = some (dictOf es 7)) {a : Addr} {vs : Array Value} (hL : h.IsList a vs) : (hideAll h [b, d]).IsList a vs := by
  obtain ⟨o, ho, hc, n, hd'⟩ := hL
  refine ⟨o, hide_keepA ho ?_, hc, n, hd'⟩
  intro hm
  rcases List.mem_cons.mp hm with rfl | hm
  · rw [hb] at ho; cases ho; cases hc
  · rw [List.mem_singleton.mp hm, hd] at ho; cases ho; exact absurd hc (by simp [dictOf])
theorem let_hide2 {P : Params} {h : Heap} {es : List DictEntry} (hb : h.get? b = some (instObj 170 d)) (hd : h.get? d = some (dictOf es 7)) {v : Value} {u : Int} (hl : LetV P h v u) : LetV P (hideAll h [b, d]) v u := by
  obtain ⟨a, dx, k0, k1, k2, k3, k4, t, oc, fv, ins, md, e, ha, hdx, r⟩ := hl
  refine ⟨a, dx, k0, k1, k2, k3, k4, t, oc, fv, ins, md, e, hide_keepA ha ?_, hide_keepA hdx ?_, r⟩
  · intro hm
    rcases List.mem_cons.mp hm with rfl | hm
    · rw [hb] at ha; exact absurd (congrArg Obj.cls (Option.some.inj ha)) (by simp)
    · rw [List.mem_singleton.mp hm, hd] at ha; exact absurd (congrArg Obj.cls (Option.some.inj ha)) (by simp [dictOf])
  · intro hm
    rcases List.mem_cons.mp hm with rfl | hm
    · rw [hb] at hdx; exact absurd (congrArg Obj.cls (Option.some.inj hdx)) (by simp [dictOf])
    · rw [List.mem_singleton.mp hm, hd] at hdx
      have e2 := congrArg Obj.data (Option.some.inj hdx)
      simp only [dictOf, Data.dict.injEq] at e2
      exact absurd e2.2 (by decide)
theorem pair_hide2 {h : Heap} {es : List DictEntry} (hb : h.get? b = some (instObj 170 d)) (hd : h.get? d = some (dictOf es 7)) {v : Value} {u q : Int} (hl : PairV h v u q) : PairV (hideAll h [b, d]) v u q := by
  obtain ⟨a, t1, t2, e, ha⟩ := hl
  refine ⟨a, t1, t2, e, hide_keepA ha ?_⟩
  intro hm
  rcases List.mem_cons.mp hm with rfl | hm
  · rw [hb] at ha; exact absurd (congrArg Obj.cls (Option.some.inj ha)) (by simp)
  · rw [List.mem_singleton.mp hm, hd] at ha; exact absurd (congrArg Obj.cls (Option.some.inj ha)) (by simp [dictOf])
/-- what was off the hidden part -/
theorem tl_off {h g' : Heap} {news : List (Addr × Obj)} (N : News base L h news) (hs : ∀ p ∈ tl, p ∈ news) {as : List Addr} (ho : ∀ p ∈ tl, p.1 ∉ as) {a : Addr} (hn : (hideAll h as).get? a = none) : ∀ p ∈ tl, p.1 ≠ a := fun p hp e => by
  have := hideAll_get _ (N p (hs p hp)).1 (ho p hp)
  rw [e, hn] at this; cases this

theorem pairs_led {α : Type} {h' : Heap} {C : Addr → Prop} {f1 f2 : α → Int} {tv : List Value} {qs : List α} (H : All2 (fun v q => ∃ a t1 t2, v = Value.ref a ∧ h'.get? a = some (tupOf [.int (f1 q) t1, .int (f2 q) t2]) ∧ C a) tv qs) :
    ∃ prl : List (Addr × Obj), (∀ p ∈ prl, h'.get? p.1 = some p.2 ∧ C p.1 ∧ ∃ vs, p.2 = tupOf vs) ∧ All2 (fun v q => ∃ a t1 t2, v = Value.ref a ∧ (a, tupOf [.int (f1 q) t1, .int (f2 q) t2]) ∈ prl) tv qs := by
  induction H with
  | nil => exact ⟨[], ⟨fun _ hp => (List.not_mem_nil hp).elim, .nil⟩⟩
  | cons h _ ih =>
    obtain ⟨a, t1, t2, rfl, ha, hc⟩ := h
    obtain ⟨prl, h1, h2⟩ := ih
    refine ⟨(a, _) :: prl, fun p hp => ?_, .cons ⟨a, t1, t2, rfl, .head _⟩ (h2.mono fun _ _ ⟨a, t1, t2, e, hm⟩ => ⟨a, t1, t2, e, .tail _ hm⟩)⟩
    rcases List.mem_cons.mp hp with rfl | hp
    · exact ⟨ha, hc, _, rfl⟩
    · exact h1 p hp

theorem expunge_K {nu fl : Value} {tp : Int} {tt : Tok} {us ws : List Int} {uvs : List Value} {Rl : Value → Int → Prop}
    (B : Below A₀ base [] base) (F : Fr base L s.heap m) (N : News base L s.heap ((b, instObj 170 d) :: (d, dictOf (boxEs w.params k nm vl nu (.int tp tt) fl (.ref l) (.ref gl)) 7) :: tl))
    (hA : (callerA.deeper env).frames = some [env]) (hf : env.frame = some L) (hke : env.scope.kind = .function) (X : (hd.heap_39 w.params).In base) (T : TopG mean mg mb base) (hh : (callerA.deeper env).handled = none)
    (hbd : @Ne Nat d b) (hoff : ∀ p ∈ tl, p.1 ≠ b ∧ p.1 ≠ d) (hL : s.heap.IsList l its) (hG : s.heap.IsList gl gits) (hU : s.heap.IsList ul uvs.toArray) (hR : All2 Rl its.toList us) (hl : All2 (LetV w.params s.heap) its.toList us) (hw : IntsAre uvs ws)
    (hit : its.size ≤ 1000) (hgit : gits.size ≤ 1000) (huv : ws.length ≤ 1000)
    (h0 : us.filter (fun n => decide (n ∈ ws)) = [] → ∀ h' tk r, Fr base L h' m → News base L h' ((b, instObj 170 d) :: (d, dictOf (boxEs w.params k nm vl nu (.int tp tt) fl (.ref l) (.ref gl)) 7) :: tl) → Q (.ref r) { s with heap := h', toks := tk })
    (h1 : us.filter (fun n => decide (n ∈ ws)) ≠ [] → ∀ h' tk r l' lvs lc g' gvs gc t1 tv prl, Fr base L h' m → All2 Rl lvs (us.filter (fun n => !decide (n ∈ ws))) → gvs.toList = gits.toList ++ tv →
      All2 (fun v u => ∃ a t1 t2, v = .ref a ∧ (a, tupOf [.int u t1, .int (tp + 1) t2]) ∈ prl) tv (us.filter (fun n => decide (n ∈ ws))) → (∀ q ∈ prl, (∃ vs, q.2 = tupOf vs) ∧ ∀ p ∈ tl, p.1 ≠ q.1) →
      News base L h' ((b, instObj 170 d) :: (d, dictOf (boxEs w.params k nm vl nu (.int (tp + 1) t1) fl (.ref l') (.ref g')) 7) :: (l', listOf lvs.toArray lc) :: (g', listOf gvs gc) :: (tl ++ prl)) → (∀ p ∈ tl, p.1 ≠ l' ∧ p.1 ≠ g') → @Ne Nat l' g' →
      Q (.ref r) { s with heap := h', toks := tk }) :
    wpAny (model prog w) (callerA.deeper env) (call (.ref 200) [.ref b, .ref ul]) Q E s := by
  have hb := (N _ (.head _)).1
  have hd := (N _ (.tail _ (.head _))).1
  have hto : ∀ p ∈ tl, p.1 ∉ ([b, d] : List Addr) := fun p hp hm => by
    rcases List.mem_cons.mp hm with q | hm
    · exact (hoff p hp).1 q
    · exact (hoff p hp).2 (List.mem_singleton.mp hm)
  have hts : ∀ p ∈ tl, p ∈ ((b, instObj 170 d) :: (d, dictOf (boxEs w.params k nm vl nu (.int tp tt) fl (.ref l) (.ref gl)) 7) :: tl) := fun p hp => .tail _ (.tail _ hp)
  obtain ⟨Am, O, st, sg, hz⟩ := site (led := [(b, instObj 170 d), (d, dictOf (boxEs w.params k nm vl nu (.int tp tt) fl (.ref l) (.ref gl)) 7)]) B F N hA hf hke X T hh (by k_allIn)
  refine wpAny_call (expunge_ct Am st hz O hbd (list_hide2 hb hd hL) (list_hide2 hb hd hG) (list_hide2 hb hd hU) hR (hl.mono fun _ _ z => let_hide2 hb hd z) hw hit hgit huv
    (fun he h' tk r st' O' => ?_) fun he h' tk r rvs rc l' lvs lc g' gvs gc t1 tv st' hr hlv hgv htv O' hlg => ?_)
  · obtain ⟨F', N', K⟩ := site_back F N (led := [(b, instObj 170 d), (d, dictOf (boxEs w.params k nm vl nu (.int tp tt) fl (.ref l) (.ref gl)) 7)]) (by k_allIn) st' O'
    exact h0 he h' tk r F' (news_tail (led'' := [(b, instObj 170 d), (d, dictOf (boxEs w.params k nm vl nu (.int tp tt) fl (.ref l) (.ref gl)) 7)]) N' (by k_allIn) K fun p hp => ⟨hts p hp, hto p hp⟩)
  · obtain ⟨F', N', K⟩ := site_back F N (led := [(b, instObj 170 d), (d, dictOf (boxEs w.params k nm vl nu (.int tp tt) fl (.ref l) (.ref gl)) 7)]) (by k_allIn) st' O'
    have nm' : ∀ {a o}, h'.get? a = some o → (hideAll s.heap [b, d]).get? a = none → base.get? a = none ∧ a ≠ L := fun {a o} e hn => by
      constructor
      · cases q : base.get? a with
        | none => rfl
        | some ob => have := sg _ _ q; rw [show (hideAll s.heap ([(b, instObj 170 d), (d, dictOf (boxEs w.params k nm vl nu (.int tp tt) fl (.ref l) (.ref gl)) 7)].map (·.1))) = hideAll s.heap [b, d] from rfl, hn] at this; cases this
      · rintro rfl
        obtain ⟨oL, es, ep, hL', r⟩ := F.ns
        have hnL : a ∉ ([b, d] : List Addr) := fun hm => by
          rcases List.mem_cons.mp hm with q | hm
          · exact (N _ (.head _)).2.1 q.symm
          · exact (N _ (.tail _ (.head _))).2.1 (List.mem_singleton.mp hm).symm
        have := hideAll_get _ hL' hnL
        rw [hn] at this; cases this
    obtain ⟨prl, hpr, hpa⟩ := pairs_led (f1 := fun u => u) (f2 := fun _ => tp + 1) (C := fun a => base.get? a = none ∧ a ≠ L ∧ ∀ p ∈ tl, p.1 ≠ a) (htv.mono (by
      rintro v u ⟨a, t1, t2, e, ha, hn⟩
      exact ⟨a, t1, t2, e, ha, (nm' ha hn).1, (nm' ha hn).2, tl_off (g' := h') N hts hto hn⟩))
    have NN := news_tail (led'' := [(b, instObj 170 d), (d, dictOf (boxEs w.params k nm vl nu (.int (tp + 1) t1) fl (.ref l') (.ref g')) 7), (l', listOf lvs.toArray lc), (g', listOf gvs gc)]) N' (by k_allIn) K fun p hp => ⟨hts p hp, hto p hp⟩
    refine h1 he h' tk r l' lvs lc g' gvs gc t1 tv prl F' hlv hgv hpa (fun q hq => ⟨(hpr q hq).2.2, (hpr q hq).2.1.2.2⟩) (fun p hp => ?_) (fun p hp => ⟨?_, ?_⟩) hlg
    · rcases List.mem_append.mp (show p ∈ ([(b, instObj 170 d), (d, dictOf (boxEs w.params k nm vl nu (.int (tp + 1) t1) fl (.ref l') (.ref g')) 7), (l', listOf lvs.toArray lc), (g', listOf gvs gc)] ++ tl) ++ prl from (by simpa using hp)) with hp | hp
      · exact NN p hp
      · exact ⟨(hpr p hp).1, (hpr p hp).2.1.2.1, (hpr p hp).2.1.1⟩
    · exact tl_off (g' := h') N hts hto (O' (l', listOf lvs.toArray lc) (by simp)).2 p hp
    · exact tl_off (g' := h') N hts hto (O' (g', listOf gvs gc) (by simp)).2 p hp

theorem forget_K {nu lt : Value} {tp fl most : Int} {tt tf tm : Tok} {ps : List (Int × Int)}
    (B : Below A₀ base [] base) (F : Fr base L s.heap m) (N : News base L s.heap ((b, instObj 170 d) :: (d, dictOf (boxEs w.params k nm vl nu (.int tp tt) (.int fl tf) lt (.ref gl)) 7) :: tl))
    (hA : (callerA.deeper env).frames = some [env]) (hf : env.frame = some L) (hke : env.scope.kind = .function) (X : (hd.heap_39 w.params).In base) (T : TopG mean mg mb base) (hh : (callerA.deeper env).handled = none)
    (hbd : @Ne Nat d b) (hoff : ∀ p ∈ tl, p.1 ≠ b ∧ p.1 ≠ d) (hG : s.heap.IsList gl gits) (hps : All2 (fun v p => PairV s.heap v p.1 p.2) gits.toList ps) (hgit : gits.size ≤ 1000) (hm0 : 0 ≤ most) (hord : ∀ p ∈ ps, fl < p.2 ∧ p.2 ≤ tp)
    (h0 : (ps.length : Int) ≤ most → ∀ h' tk t, Fr base L h' m → News base L h' ((b, instObj 170 d) :: (d, dictOf (boxEs w.params k nm vl nu (.int tp tt) (.int fl tf) lt (.ref gl)) 7) :: tl) → Q (.int 0 t) { s with heap := h', toks := tk })
    (h1 : ∀ u mq, most < (ps.length : Int) → ps[((ps.length : Int) - most - 1).toNat]? = some (u, mq) → ∀ h' tk t t' g' gvs gc prl, Fr base L h' m →
      All2 (fun v (q : Int × Int) => ∃ a t1 t2, v = .ref a ∧ (a, tupOf [.int q.1 t1, .int q.2 t2]) ∈ prl) gvs (ps.filter (fun q : Int × Int => decide (mq < q.2))) → (∀ q ∈ prl, (∃ vs, q.2 = tupOf vs) ∧ ∀ p ∈ tl, p.1 ≠ q.1) →
      News base L h' ((b, instObj 170 d) :: (d, dictOf (boxEs w.params k nm vl nu (.int tp tt) (.int mq t') lt (.ref g')) 7) :: (g', listOf gvs.toArray gc) :: (tl ++ prl)) → (∀ p ∈ tl, p.1 ≠ g') →
      Q (.int ((ps.length : Int) - ((ps.filter (fun q : Int × Int => decide (mq < q.2))).length : Int)) t) { s with heap := h', toks := tk }) :
    wpAny (model prog w) (callerA.deeper env) (call (.ref 33) [.ref b, .int most tm]) Q E s := by
  have hb := (N _ (.head _)).1
  have hd := (N _ (.tail _ (.head _))).1
  have hto : ∀ p ∈ tl, p.1 ∉ ([b, d] : List Addr) := fun p hp hm => by
    rcases List.mem_cons.mp hm with q | hm
    · exact (hoff p hp).1 q
    · exact (hoff p hp).2 (List.mem_singleton.mp hm)
  have hts : ∀ p ∈ tl, p ∈ ((b, instObj 170 d) :: (d, dictOf (boxEs w.params k nm vl nu (.int tp tt) (.int fl tf) lt (.ref gl)) 7) :: tl) := fun p hp => .tail _ (.tail _ hp)
  obtain ⟨Am, O, st, sg, hz⟩ := site (led := [(b, instObj 170 d), (d, dictOf (boxEs w.params k nm vl nu (.int tp tt) (.int fl tf) lt (.ref gl)) 7)]) B F N hA hf hke X T hh (by k_allIn)
  refine wpAny_call (forget_ct Am st hz O hbd (list_hide2 hb hd hG) (hps.mono fun _ _ z => pair_hide2 hb hd z) hgit hm0 hord
    (fun he h' tk t st' O' => ?_) fun u mq he hq h' tk t t' g' gvs gc st' hgv O' => ?_)
  · obtain ⟨F', N', K⟩ := site_back F N (led := [(b, instObj 170 d), (d, dictOf (boxEs w.params k nm vl nu (.int tp tt) (.int fl tf) lt (.ref gl)) 7)]) (by k_allIn) st' O'
    exact h0 he h' tk t F' (news_tail (led'' := [(b, instObj 170 d), (d, dictOf (boxEs w.params k nm vl nu (.int tp tt) (.int fl tf) lt (.ref gl)) 7)]) N' (by k_allIn) K fun p hp => ⟨hts p hp, hto p hp⟩)
  · obtain ⟨F', N', K⟩ := site_back F N (led := [(b, instObj 170 d), (d, dictOf (boxEs w.params k nm vl nu (.int tp tt) (.int fl tf) lt (.ref gl)) 7)]) (by k_allIn) st' O'
    have nm' : ∀ {a o}, h'.get? a = some o → (hideAll s.heap [b, d]).get? a = none → base.get? a = none ∧ a ≠ L := fun {a o} e hn => by
      constructor
      · cases q : base.get? a with
        | none => rfl
        | some ob => have := sg _ _ q; rw [show (hideAll s.heap ([(b, instObj 170 d), (d, dictOf (boxEs w.params k nm vl nu (.int tp tt) (.int fl tf) lt (.ref gl)) 7)].map (·.1))) = hideAll s.heap [b, d] from rfl, hn] at this; cases this
      · rintro rfl
        obtain ⟨oL, es, ep, hL', r⟩ := F.ns
        have hnL : a ∉ ([b, d] : List Addr) := fun hm => by
          rcases List.mem_cons.mp hm with q | hm
          · exact (N _ (.head _)).2.1 q.symm
          · exact (N _ (.tail _ (.head _))).2.1 (List.mem_singleton.mp hm).symm
        have := hideAll_get _ hL' hnL
        rw [hn] at this; cases this
    obtain ⟨prl, hpr, hpa⟩ := pairs_led (f1 := fun q : Int × Int => q.1) (f2 := fun q => q.2) (C := fun a => base.get? a = none ∧ a ≠ L ∧ ∀ p ∈ tl, p.1 ≠ a) (hgv.mono (by
      rintro v u ⟨a, t1, t2, e, ha, hn⟩
      exact ⟨a, t1, t2, e, ha, (nm' ha hn).1, (nm' ha hn).2, tl_off (g' := h') N hts hto hn⟩))
    have NN := news_tail (led'' := [(b, instObj 170 d), (d, dictOf (boxEs w.params k nm vl nu (.int tp tt) (.int mq t') lt (.ref g')) 7), (g', listOf gvs.toArray gc)]) N' (by k_allIn) K fun p hp => ⟨hts p hp, hto p hp⟩
    refine h1 u mq he hq h' tk t t' g' gvs gc prl F' hpa (fun q hq => ⟨(hpr q hq).2.2, (hpr q hq).2.1.2.2⟩) (fun p hp => ?_) fun p hp => ?_
    · rcases List.mem_append.mp (show p ∈ ([(b, instObj 170 d), (d, dictOf (boxEs w.params k nm vl nu (.int tp tt) (.int mq t') lt (.ref g')) 7), (g', listOf gvs.toArray gc)] ++ tl) ++ prl from (by simpa using hp)) with hp | hp
      · exact NN p hp
      · exact ⟨(hpr p hp).1, (hpr p hp).2.1.2.1, (hpr p hp).2.1.1⟩
    · exact tl_off (g' := h') N hts hto (O' (g', listOf gvs.toArray gc) (by simp)).2 p hp
end
end PartMXK

section PartMEnd
theorem offMEnd : True := by
  w_top off
  trivial
open PySem PySem.W PyProof.Rows PySem.Calls PyProof.Rows.LCg
theorem isList_mem {g h : Heap} {L l : Addr} {its : Array Value} {n : Nat} {news : List (Addr × Obj)} (N : News g L h news) (hp : (l, listOf its n) ∈ news) : h.IsList l its := ⟨_, (N _ hp).1, rfl, _, rfl⟩
theorem lets_mem {base gr h0 h : Heap} {L : Addr} {P : Params} {vs : List Value} {us : List Int} {news : List (Addr × Obj)} (S : Sub base L gr h0) (N : News base L h news) (hs : ∀ p ∈ restOf base gr, p ∈ news) (hl : All2 (LetV P gr) vs us) : All2 (LetV P h) vs us :=
  hl.mono fun _ _ z => z.mono (S.ofNews (fun p hp => N p (hs p hp))).st
theorem over3 {m : Str → Option Value} {a b c : Str} {va vb vc : Value} (ha : m a = some va) (hb : m b = some vb) (hc : m c = some vc) : m = fun y => if y = a then some va else if y = b then some vb else if y = c then some vc else m y := by
  funext y
  by_cases h1 : y = a
  · subst h1; simp [ha]
  · by_cases h2 : y = b
    · subst h2; simp [h1, hb]
    · by_cases h3 : y = c
      · subst h3; simp [h1, h2, hc]
      · simp [h1, h2, h3]
theorem news_pick {base h : Heap} {L a : Addr} {o : Obj} {news k : List (Addr × Obj)} (N : News base L h news) (hp : (a, o) ∈ news) (y : News base L h k) : News base L h ((a, o) :: k) := fun p hq => by
  rcases List.mem_cons.mp hq with rfl | hq
  · exact N _ hp
  · exact y p hq
theorem Led.again {base h h' gr : Heap} {L : Addr} {mu own : List (Addr × Obj)} (D : Led base L h mu own gr) (N : News base L h' (mu ++ (own ++ restOf base gr))) : Led base L h' mu own gr :=
  ⟨D.S.ofNews (fun p hp => N p (List.mem_append.mpr (.inr (List.mem_append.mpr (.inr hp))))), fun p hp => N p ((List.mem_append.mp hp).elim (fun q => List.mem_append.mpr (.inl q)) fun q => List.mem_append.mpr (.inr (List.mem_append.mpr (.inl q)))), D.mg, D.mo, D.og⟩
/-- a round stands in g -/
def RoundV (g : Heap) (v : Value) (r : Int × List Int) : Prop := ∃ a t ul uvs, v = .ref a ∧ g.get? a = some (tupOf [.int r.1 t, .ref ul]) ∧ g.IsList ul uvs.toArray ∧ IntsAre uvs r.2
theorem RoundV.mono {h h' : Heap} {v : Value} {r : Int × List Int} (x : RoundV h v r) (st : Stay h h') : RoundV h' v r := let ⟨a, t, ul, uvs, e, k, hl, hi⟩ := x; ⟨a, t, ul, uvs, e, st _ _ k, stays_list st hl, hi⟩
/-- what stands ahead of a turn of the first loop -/
def LawSt (P : Params) (b d rl : Addr) (k : Nat → Tok) (nm vl : Value) (i : Nat) (mu : List (Addr × Obj)) (gr : Heap) : Prop :=
  ∃ (nu tp : Int) (tn tt tf : Tok) (l gl : Addr) (its gits rits : Array Value) (n rn : Nat) (us : List Int) (ps : List (Int × Int)) (rs : List (Int × List Int)),
    mu = [(b, instObj 170 d), (d, dictOf (boxEs P k nm vl (.int nu tn) (.int tp tt) (.int 0 tf) (.ref l) (.ref gl)) 7), (l, listOf its n), (rl, listOf rits rn)] ∧
    All2 (LetV P gr) its.toList us ∧ gr.IsList gl gits ∧ All2 (fun v p => PairV gr v p.1 p.2) gits.toList ps ∧ All2 (RoundV gr) rits.toList rs ∧ @Ne Nat rl l ∧ Nums nu tp 0 us ps rs ∧ us.length ≤ 5 * i ∧ rs.length ≤ i

theorem not_base_of {base gr h : Heap} {L a : Addr} {mu own : List (Addr × Obj)} (D : Led base L h mu own gr) (h1 : ∀ p ∈ restOf base gr, p.1 ≠ a) : gr.get? a = none := by
  cases e : gr.get? a with
  | none => rfl
  | some o => exact absurd rfl (h1 (a, o) (mem_restOf.mpr ⟨e, D.S.nb _ _ e⟩))

theorem round_end {P : Params} {base gr h2 h9 : Heap} {L b d l gl rl l6 g6 x S : Addr} {k : Nat → Tok} {nm vl : Value} {nu tp : Int} {tn tt tf t6 tx : Tok} {its gits rits gvs sv : Array Value} {lvs tv : List Value} {nn rn lc gc sc i : Nat} {us W : List Int} {ps : List (Int × Int)} {rs : List (Int × List Int)} {own prl : List (Addr × Obj)}
    (D : Led base L h2 [(b, instObj 170 d), (d, dictOf (boxEs P k nm vl (.int nu tn) (.int tp tt) (.int 0 tf) (.ref l) (.ref gl)) 7), (l, listOf its nn), (rl, listOf rits rn)] own gr)
    (N : News base L h9 ((x, tupOf [.int (tp + 1) tx, .ref S]) :: (S, listOf sv sc) :: (g6, listOf gvs gc) :: (b, instObj 170 d) :: (d, dictOf (boxEs P k nm vl (.int nu tn) (.int (tp + 1) t6) (.int 0 tf) (.ref l6) (.ref g6)) 7) :: (l6, listOf lvs.toArray lc) ::
      (rl, listOf (rits.push (.ref x)) (rn + 1)) :: ((own ++ restOf base gr) ++ prl)))
    (hl6 : ∀ p ∈ own ++ restOf base gr, p.1 ≠ l6 ∧ p.1 ≠ g6) (hx : ∀ p ∈ own ++ restOf base gr, p.1 ≠ x ∧ p.1 ≠ S) (hlg : @Ne Nat l6 g6) (hrl6 : @Ne Nat rl l6) (hrg6 : @Ne Nat rl g6) (hS1 : @Ne Nat S l6) (hS2 : @Ne Nat S rl)
    (hpr : ∀ q ∈ prl, (∃ vs, q.2 = tupOf vs) ∧ ∀ p ∈ own, p.1 ≠ q.1)
    (hG : gr.IsList gl gits) (hps : All2 (fun v p => PairV gr v p.1 p.2) gits.toList ps) (hrs : All2 (RoundV gr) rits.toList rs) (hN : Nums nu tp 0 us ps rs)
    (hlv : All2 (LetV P gr) lvs (us.filter fun n => !decide (n ∈ W))) (hgv : gvs.toList = gits.toList ++ tv) (htv : All2 (fun v u => ∃ a t1 t2, v = .ref a ∧ (a, tupOf [.int u t1, .int (tp + 1) t2]) ∈ prl) tv W)
    (hW0 : W ≠ []) (hW4 : W.length ≤ 4) (hS : IntsAre sv.toList W) (hul : us.length ≤ 5 * (i + 1)) (hrsl : rs.length ≤ i) :
    ∃ mu' gr', Led base L h9 mu' own gr' ∧ LawSt P b d rl k nm vl (i + 1) mu' gr' ∧ Stay gr gr' := by
  have Nm : News base L h9 ([(b, instObj 170 d), (d, dictOf (boxEs P k nm vl (.int nu tn) (.int (tp + 1) t6) (.int 0 tf) (.ref l6) (.ref g6)) 7), (l6, listOf lvs.toArray lc), (rl, listOf (rits.push (.ref x)) (rn + 1))] ++ (own ++ restOf base gr)) := by
    intro p hp
    refine N p ?_
    simp only [List.mem_append, List.mem_cons, List.not_mem_nil, or_false] at hp ⊢
    rcases hp with (h | h | h | h) | h <;> simp [h]
  obtain ⟨D9, st9, get9⟩ := D.next Nm (by
      intro p hp
      simp only [List.mem_cons, List.not_mem_nil, or_false] at hp
      rcases hp with rfl | rfl | rfl | rfl
      · exact D.offs (by simp)
      · exact D.offs (by simp)
      · exact ⟨not_base_of D fun p hp => (hl6 p (List.mem_append.mpr (.inr hp))).1, fun q hq => (hl6 q (List.mem_append.mpr (.inl hq))).1⟩
      · exact D.offs (by simp))
  refine ⟨_, _, D9, ?_, st9⟩
  -- an object of another class than those of mu'
  have nmu : ∀ a o, h9.get? a = some o → (∀ vs n, o ≠ listOf vs n) → (o.cls ≠ .ref 170) → o.cls ≠ .type "dict" → ∀ p ∈ ([(b, instObj 170 d), (d, dictOf (boxEs P k nm vl (.int nu tn) (.int (tp + 1) t6) (.int 0 tf) (.ref l6) (.ref g6)) 7), (l6, listOf lvs.toArray lc), (rl, listOf (rits.push (.ref x)) (rn + 1))] : List (Addr × Obj)), p.1 ≠ a := by
    rintro a o ha h1 h2 h3 p hp rfl
    have hp9 := (Nm p (List.mem_append.mpr (.inl hp))).1
    rw [ha] at hp9
    have e := Option.some.inj hp9
    simp only [List.mem_cons, List.not_mem_nil, or_false] at hp
    rcases hp with rfl | rfl | rfl | rfl
    · exact h2 (by rw [e])
    · exact h3 (by rw [e])
    · exact h1 _ _ e
    · exact h1 _ _ e
  have Nx := N _ (.head _)
  have NS := N _ (.tail _ (.head _))
  have Ng := N _ (.tail _ (.tail _ (.head _)))
  have gx := get9 x _ Nx.1 Nx.2.1 Nx.2.2 (fun q hq => (hx q (List.mem_append.mpr (.inl hq))).1) (nmu x _ Nx.1 (fun vs n e => by have := congrArg Obj.cls e; simp at this) (by simp) (by simp))
  have lmu : ∀ a vs n, h9.get? a = some (listOf vs n) → @Ne Nat a l6 → @Ne Nat a rl → ∀ p ∈ ([(b, instObj 170 d), (d, dictOf (boxEs P k nm vl (.int nu tn) (.int (tp + 1) t6) (.int 0 tf) (.ref l6) (.ref g6)) 7), (l6, listOf lvs.toArray lc), (rl, listOf (rits.push (.ref x)) (rn + 1))] : List (Addr × Obj)), p.1 ≠ a := by
    rintro a vs n ha h1 h2 p hp rfl
    have hp9 := (Nm p (List.mem_append.mpr (.inl hp))).1
    rw [ha] at hp9
    have e := Option.some.inj hp9
    simp only [List.mem_cons, List.not_mem_nil, or_false] at hp
    rcases hp with rfl | rfl | rfl | rfl
    · have := congrArg Obj.cls e; simp at this
    · have := congrArg Obj.cls e; simp [dictOf] at this
    · exact h1 rfl
    · exact h2 rfl
  have gS := get9 S _ NS.1 NS.2.1 NS.2.2 (fun q hq => (hx q (List.mem_append.mpr (.inl hq))).2) (lmu S _ _ NS.1 hS1 hS2)
  have gg := get9 g6 _ Ng.1 Ng.2.1 Ng.2.2 (fun q hq => (hl6 q (List.mem_append.mpr (.inl hq))).2) (lmu g6 _ _ Ng.1 (fun e => hlg e.symm) (fun e => hrg6 e.symm))
  refine ⟨nu, tp + 1, tn, t6, tf, l6, g6, lvs.toArray, gvs, rits.push (.ref x), lc, rn + 1, _, _, _, rfl, by simpa using hlv.mono fun _ _ z => z.mono st9, ⟨_, gg, rfl, _, rfl⟩, ?_, ?_, hrl6, hN.round hW0 hW4, ?_, ?_⟩
  · rw [hgv]
    refine (hps.mono fun _ _ z => z.mono st9).append ?_
    clear hgv hS hlv hW0 hW4 hN
    induction htv with
    | nil => exact .nil
    | cons h _ ih =>
      refine .cons ?_ ih
      obtain ⟨a, t1, t2, rfl, hm⟩ := h
      have Na := N _ (.tail _ (.tail _ (.tail _ (.tail _ (.tail _ (.tail _ (.tail _ (List.mem_append.mpr (.inr hm)))))))))
      exact ⟨a, t1, t2, rfl, get9 a _ Na.1 Na.2.1 Na.2.2 ((hpr _ hm).2) (nmu a _ Na.1 (fun vs n e => by have := congrArg Obj.cls e; simp at this) (by simp) (by simp))⟩
  · rw [Array.toList_push]
    exact (hrs.mono fun _ _ z => z.mono st9).append (.cons ⟨x, tx, S, sv.toList, rfl, gx, ⟨_, gS, rfl, sc, by simp⟩, hS⟩ .nil)
  · exact Nat.le_trans (List.length_filter_le _ _) hul
  · simp only [List.length_append, List.length_cons, List.length_nil]; omega
end PartMEnd

section RulesFour
open PySem PySem.W PyProof.Rows PySem.Calls PyProof.Rows.LCg
local macro_rules | `(tactic| walk_at "pyIter ref") => `(tactic| (k_here; (with_reducible show wpAny _ _ (pyIter _) (fun it s₂ => LoopAtV _ _ _ _ _ _ _ _ _ it s₂) _ _); refine Stop.out ?_))
local macro_rules | `(tactic| walk_at "call type:range") => `(tactic| (k_here; refine Stop.out ?_))

section PartML2
theorem offML2 : True := by
  w_top off
  trivial
open PySem PySem.W PyProof.Rows PySem.Calls PyProof.Rows.LCg
-- ktr_unf: walk on; ktr_rel: enter a plain def by its contract; ktr_units: fill the kept part; tb_start: enter a def with cells
-- end of header
-- header two
local macro_rules | `(tactic| walk_at "call ref") => `(tactic| (k_here; (first | (with_reducible show wpAny _ _ (call (Value.ref 195) _) _ _ _) | (with_reducible show wpAny _ _ (call (Value.ref 200) _) _ _ _) | (with_reducible show wpAny _ _ (call (Value.ref 33) _) _ _ _)); refine Stop.out ?_))
local macro_rules | `(tactic| walk_at "call ref") => `(tactic| (k_here; (with_reducible show wpAny _ _ (call (Value.ref 162) _) _ _ _); k_dflt (refine' uids_K ?k1 ?k2 ?k3 ?kA ?kF ?kK ?k4 ?k5 ?k6 ?k7 ?k8 ?k9 ?k10 ?k11 ?k12 ?_; (case kA => exact rfl); (case kF => exact rfl); (case kK => exact rfl); (case k1 => k_asm); (case k2 => k_asm); (case k3 => k_asm); (case k4 => k_asm); (case k5 => k_asm); (case k6 => exact rfl); (case k7 => k_room); (case k8 => k_mem); (case k9 => k_mem); (case k10 => exact isList_mem (by k_asm) (by k_mem)); (case k11 => exact lets_mem (by assumption) (by k_asm) (fun p hp => by repeat (first | exact List.mem_append_right _ hp | refine List.Mem.tail _ ?_)) (by assumption)); (case k12 => omega)); intro h' tk' r' vs' c' F' N' st' nn' of' hv'; (try simp only [LCg.Off1, and_true] at of'); (try k_sweep)))
local macro_rules | `(tactic| walk_at "subscriptTail Name Slice ref ref") => `(tactic| (k_here; (with_reducible show wpAny _ _ (subscriptTail _ (PySem.Expr.Slice _ _ none _) (Value.ref _) (Value.ref _)) _ _ _); k_dflt (refine' kmk_slice_ints ?F ?N ?l ?p ?q ?i ?m ?c ?_ ?s ?t ?z; (case F => k_asm); (case N => k_asm); (case l => exact News.isList (by k_asm) (by k_mem)); (case p => kmk_part); (case q => kmk_part); (case i => assumption); (case m => (first | exact kmk_upto (by assumption) (by omega) | exact kmk_from (by assumption) (by omega))); (case c => exact rfl); (case s => with_unfolding_all rfl); (case t => kmk_pure); (case z => (refine kmk_sz (by assumption) ?_; (simp only [sizeLine_eq, List.length_append, List.length_map, List.length_range, List.length_take, List.length_drop]); omega))); intro D' ws' h' F' N' l1 hI' hC' hL'; (try k_lt l1); (try k_sweep)))
set_option maxRecDepth 100000 in
set_option maxHeartbeats 4000000 in
theorem turn1 {prog : Program} {w : World} {s : Shared} {base gr : Heap} {mean : ExcName → Option Value} {mg mb : Str → Option Value} {L fa b d rl : Addr} {cd : Value} {k : Nat → Tok} {nm vl : Value} {c : Int} {tc : Tok} {i : Nat}
    {m : Str → Option Value} {mu own : List (Addr × Obj)} {Q : Flow → Shared → Prop}
    (B : Below callerA base [] base) (X : (hd.heap_39 w.params).In base) (T : TopG mean mg mb base)
    (hm1 : m (Str.ofString "cell") = some (.int c tc)) (hm2 : m (Str.ofString "box") = some (.ref b)) (hm3 : m (Str.ofString "rounds") = some (.ref rl))
    (F : Fr base L s.heap m) (D : Led base L s.heap mu own gr) (hi : i < 8) (hst : LawSt w.params b d rl k nm vl i mu gr)
    (h : ∀ h' tk m' mu' gr', (∀ y, y ≠ Str.ofString "turn" → y ≠ Str.ofString "gone" → m' y = m y) → Fr base L h' m' → Led base L h' mu' own gr' → LawSt w.params b d rl k nm vl (i + 1) mu' gr' → Stay gr gr' →
      Q .next { s with heap := h', toks := tk }) :
    wpAny (model prog w) (callerA.deeper (lawEnv L fa cd)) (execs body1 (lawEnv L fa cd)) Q (fun _ _ => False) s := by
  obtain ⟨nu, tp, tn, tt, tf, l, gl, its, gits, rits, n₀, rn, us, ps, rs, rfl, hls, hG, hps, hrs, hrl, hN, hul, hrsl⟩ := hst
  have hpl := hN.len
  have hgit := hps.length
  have hrit := hrs.length
  simp only [Array.length_toList] at hgit hrit
  ktr_units
  dsimp only [body1, lawEnv, lawScope, lawBody, forBody, PySem.Challenge.pw_or0040_01, List.getLast?, List.getLast, List.getElem?_cons_succ, List.getElem?_cons_zero, List.length_cons, List.length_nil]
  rw [over3 hm1 hm2 hm3] at F
  have N := D.news
  simp only [List.cons_append, List.nil_append] at N
  ktr_unf
  refine Stop.mk ?_
  rename Fr _ _ _ _ => F9
  rename News _ _ _ _ => N9
  with_unfolding_all refine range1_rows F9 N9 ?_
  intro h1 tk1 t1 t2 t3 hr F1 N1 st1
  clear F9 N9
  ktr_unf
  refine Stop.mk ?_
  have D1 := D.stay st1
  clear N1 st1
  obtain ⟨n, hn, hn5, hn1⟩ : ∃ n : Nat, 1 + c.fmod 5 = (n : Int) ∧ n ≤ 5 ∧ 1 ≤ n := by
    rw [Int.fmod_eq_emod_of_nonneg c (show (0 : Int) ≤ 5 by decide)]
    exact ⟨(1 + c % 5).toNat, by omega, by omega, by omega⟩
  rw [hn] at hr
  rw [← over3 hm1 hm2 hm3] at F1
  have hsz := hls.length
  refine inner_loop (n := n) B X T F1 (D1.split (mu := [(b, instObj 170 d), (d, dictOf (boxEs w.params k nm vl (.int nu tn) (.int tp tt) (.int 0 tf) (.ref l) (.ref gl)) 7), (l, listOf its n₀)]) (m2 := [(rl, listOf rits rn)]) ?apart) hr hn5 hm2 hls (by omega) ?done
  case apart =>
    intro p hp q hq e
    rw [List.mem_singleton.mp hq] at e
    simp only [List.mem_cons, List.not_mem_nil, or_false] at hp
    have hrl' := D1.mem (p := (rl, listOf rits rn)) (by simp)
    have hp' := D1.mem (p := p) (by rcases hp with rfl | rfl | rfl <;> simp)
    dsimp only at e hrl'
    rw [← e, hrl'] at hp'
    rcases hp with rfl | rfl | rfl
    · have := congrArg Obj.cls (Option.some.inj hp'); simp at this
    · have := congrArg Obj.cls (Option.some.inj hp'); simp [dictOf] at this
    · exact hrl e
  case done =>
    intro h2 tk2 m' its' nn tn' tt' gr' hm' F2 D2 st2 hls'
    clear F1 D1
    have hm1' := (hm' (Str.ofString "cell") (by decide)).trans hm1
    have hm2' := (hm' (Str.ofString "box") (by decide)).trans hm2
    have hm3' := (hm' (Str.ofString "rounds") (by decide)).trans hm3
    rw [over3 hm1' hm2' hm3'] at F2
    have D3 := D2.unsplit (m2 := [(rl, listOf rits rn)]) (fun p hp q hq => by rw [List.mem_singleton.mp hp]; exact D.mo _ (by simp) q hq)
    have S3 := D3.S
    have N := D3.news
    simp only [List.cons_append, List.nil_append] at N
    have hsz' := hls'.length
    simp only [Array.length_toList, List.length_append, List.length_map, List.length_range] at hsz'
    have hq1 := Int.fmod_eq_emod_of_nonneg (c.fdiv 5) (show (0 : Int) ≤ 3 by decide)
    have hq2 := Int.fmod_eq_emod_of_nonneg (c.fdiv 15) (show (0 : Int) ≤ 4 by decide)
    have hq3 : 0 ≤ (c.fdiv 5).fmod 3 ∧ (c.fdiv 5).fmod 3 < 3 := by omega
    have hq4 : 0 ≤ (c.fdiv 15).fmod 4 ∧ (c.fdiv 15).fmod 4 < 4 := by omega
    clear hq1 hq2
    have hrs3 : ∀ p ∈ own ++ restOf base gr', p.1 ≠ rl := fun p hp => D3.off p hp (rl, listOf rits rn) (by simp)
    have hll3 : ∀ p ∈ own ++ restOf base gr', p.1 ≠ l := fun p hp => D3.off p hp (l, listOf its' nn) (by simp)
    have hbb3 : ∀ p ∈ own ++ restOf base gr', p.1 ≠ b ∧ p.1 ≠ d := fun p hp => ⟨D3.off p hp (b, instObj 170 d) (by simp), D3.off p hp _ (by simp; exact .inr (.inl rfl))⟩
    have hG3 := stays_list st2 hG
    have hN3 := hN.add n
    have hmo : ∀ y, y ≠ Str.ofString "turn" → (if y = Str.ofString "cell" then some (Value.int c tc) else if y = Str.ofString "box" then some (Value.ref b) else if y = Str.ofString "rounds" then some (Value.ref rl) else m' y) = m y := fun y hy => by
      have e := congrFun (over3 hm1' hm2' hm3') y
      rw [← e]; exact hm' y hy
    clear hr hn D D2 hm' hls hN
    ktr_unf
    all_goals (try (exfalso; omega; done))
    all_goals (
      refine Stop.mk ?_
      rename Fr _ _ _ _ => F5
      rename News _ _ _ _ => N5
      rename IntsAre _ _ => hI5
      obtain ⟨W, hI6, hWs, hW4⟩ : ∃ W, IntsAre _ W ∧ W.Sublist (us ++ List.map (fun i : Nat => nu + (i : Int)) (List.range n)) ∧ W.length ≤ 4 :=
        ⟨_, hI5, by first | exact List.take_sublist _ _ | exact (List.take_sublist _ _).trans (List.drop_sublist _ _), by (simp only [List.length_take]; omega)⟩
      have S6 := S3.ofNews (fun p hp => N5 p (by repeat (first | exact List.mem_append_right _ hp | refine List.Mem.tail _ ?_)))
      refine expunge_K (tl := (_, listOf _ 0) :: (l, listOf its' nn) :: (rl, listOf rits rn) :: (own ++ restOf base gr')) B F5
        (news_pick N5 (by k_mem) (news_pick N5 (by k_mem) (news_pick N5 (by exact .head _) (news_pick N5 (by k_mem) (news_pick N5 (by k_mem) (fun p hp => N5 p (by repeat (first | exact hp | refine List.Mem.tail _ ?_))))))))
        rfl rfl rfl X T rfl ?hbd ?hoff (isList_mem N5 (by k_mem)) (stays_list S6.st hG3) (isList_mem N5 (by exact .head _)) hls' (hls'.mono fun _ _ z => z.mono S6.st) hI6 (by omega) (by omega) (by omega) ?h0 ?h1
      case hbd => exact ne_of_objs N5 (h1 := by k_mem) (h2 := by k_mem) (by simp [dictOf])
      case hoff =>
        intro p hp
        rcases List.mem_cons.mp hp with rfl | hp
        · exact ⟨ne_of_objs N5 (h1 := by k_mem) (h2 := by k_mem) (by simp), ne_of_objs N5 (h1 := by k_mem) (h2 := by k_mem) (by simp [dictOf])⟩
        rcases List.mem_cons.mp hp with rfl | hp
        · exact ⟨ne_of_objs N5 (h1 := by k_mem) (h2 := by k_mem) (by simp), ne_of_objs N5 (h1 := by k_mem) (h2 := by k_mem) (by simp [dictOf])⟩
        rcases List.mem_cons.mp hp with rfl | hp
        · exact ⟨ne_of_objs N5 (h1 := by k_mem) (h2 := by k_mem) (by simp), ne_of_objs N5 (h1 := by k_mem) (h2 := by k_mem) (by simp [dictOf])⟩
        · exact hbb3 p hp
      case h0 =>
        intro hW0 h6 tk6 r6 F6 N6
        have hW : W = [] := (filter_sub hWs hN3.up).symm.trans hW0
        clear F5 N5
        ktr_unf
        · rename Fr _ _ _ _ => F9
          rename News _ _ _ _ => N9
          refine h _ _ _ _ gr' (fun y y1 y2 => ?mm) F9 (D3.again (news_pick N9 (by k_mem) (news_pick N9 (by k_mem) (news_pick N9 (by k_mem) (news_pick N9 (by k_mem) (fun p hp => N9 p (by repeat (first | exact hp | refine List.Mem.tail _ ?_)))))))) ?fin st2
          case mm => simp only [if_neg y2]; exact hmo y y1
          case fin => exact ⟨_, _, _, _, _, l, gl, its', gits, rits, nn, rn, _, ps, rs, rfl, hls', hG3, hps.mono (fun _ _ z => z.mono st2), hrs.mono (fun _ _ z => z.mono st2), hrl, hN3, by simp only [List.length_append, List.length_map, List.length_range]; omega, by omega⟩
      case h1 =>
        intro hW0 h6 tk6 r6 l6 lvs lc g6 gvs gc t6 tv prl F6 hlv hgv htv hprl N6 hoff6 hlg
        have hWf := filter_sub hWs hN3.up
        have hrl6 := hoff6 (rl, listOf rits rn) (by simp)
        have hrl7 : @Ne Nat rl l6 := hrl6.1
        have hrl8 : @Ne Nat rl g6 := hrl6.2
        have hprl2 : ∀ p ∈ (own ++ restOf base gr') ++ prl, p.1 ≠ rl := fun p hp => (List.mem_append.mp hp).elim (hrs3 p) fun q e => (hprl p q).2 (rl, listOf rits rn) (by simp) e.symm
        have hown6 : ∀ p ∈ own, p.1 ≠ l6 ∧ p.1 ≠ g6 := fun p hp => hoff6 p (by simp [hp])
        have hownp : ∀ q ∈ prl, (∃ vs, q.2 = tupOf vs) ∧ ∀ p ∈ own, p.1 ≠ q.1 := fun q hq => ⟨(hprl q hq).1, fun p hp => (hprl q hq).2 p (by simp [hp])⟩
        simp only [List.cons_append, List.nil_append] at N6
        clear F5 N5
        ktr_unf
        · rename decide _ = true => hd9
          exact absurd (hWf.trans (of_decide_eq_true hd9)) hW0
        · rename Fr _ _ _ _ => F9
          rename News _ _ _ _ => N9
          rename _ ∧ _ => hl9
          obtain ⟨a1, a2, a3, a4, a5, a6, a7, a8, a9, hA9⟩ := hl9
          rename _ ∧ _ => hl8
          obtain ⟨b1, b2, b3, b4, b5, b6, b7, b8, hA8⟩ := hl8
          rename List.Perm _ _ => p9
          rename List.Pairwise _ _ => o9
          rename IntsAre _ _ => i9
          have e9 := sorted_perm p9 o9 (hN3.up.sublist hWs)
          subst e9
          obtain ⟨mu', gr9, D9, L9, st9⟩ := round_end (prl := prl) (i := i) D3
            (news_pick N9 (by exact .head _) (news_pick N9 (by exact .tail _ (.head _)) (news_pick N9 (by k_mem) (news_pick N9 (by k_mem) (news_pick N9 (by k_mem) (news_pick N9 (by k_mem) (news_pick N9 (by k_mem) (fun p hp => N9 p (by repeat (first | exact hp | refine List.Mem.tail _ ?_))))))))))
            (fun p hp => hoff6 p (by simp only [List.mem_cons]; exact .inr (.inr (.inr hp)))) (fun p hp => ⟨Nat.ne_of_lt (tb_ltOf hA9 p (by first | exact hp | exact List.mem_append_left _ hp)), Nat.ne_of_lt (tb_ltOf hA8 p (by first | exact hp | exact List.mem_append_left _ hp))⟩) hlg hrl7 hrl8 (by omega) (by omega) hownp hG3 (hps.mono fun _ _ z => z.mono st2) (hrs.mono fun _ _ z => z.mono st2) hN3 hlv hgv
            (by rw [hWf] at htv; exact htv) (by rw [hWf] at hW0; exact hW0) hW4 (by simpa using i9) (by simp only [List.length_append, List.length_map, List.length_range]; omega) hrsl
          exact h _ _ _ _ gr9 (fun y y1 y2 => by simp only [if_neg y2]; exact hmo y y1) F9 D9 L9 (st2.trans st9))
end PartML2

section RulesFive
open PySem PySem.W PyProof.Rows PySem.Calls PyProof.Rows.LCg
local macro_rules | `(tactic| walk_at "call ref") => `(tactic| (k_here; (first | (with_reducible show wpAny _ _ (call (Value.ref 195) _) _ _ _) | (with_reducible show wpAny _ _ (call (Value.ref 200) _) _ _ _) | (with_reducible show wpAny _ _ (call (Value.ref 33) _) _ _ _) | (with_reducible show wpAny _ _ (call (Value.ref 129) _) _ _ _)); refine Stop.out ?_))

section PartMLens
theorem offMLens : True := by
  w_top off
  trivial
open PySem PySem.W PyProof.Rows PySem.Calls PyProof.Rows.LCg

/-- a list of ints of pairs: no test, nothing new -/
theorem compP_ints {α : Type} {prog : Program} {w : World} {A : Around} {h₀ : Heap} {L : Addr} {m : Str → Option Value} {env : Env} {elt : Expr} {x x₂ : Str} {scope : Scope} {cl : List (Str × Addr)} {s₁ : Shared}
    {Fin : Shared → List Value → List (Addr × Obj) → Prop} {ax : Addr} {its : Array Value} {as : List α} {nw : List (Addr × Obj)} (Rel : Value → α → Prop) (RelP : α → Value → Value → Prop) (f : α → Int)
    (hh : A.handled = none) (F : Fr h₀ L s₁.heap m) (N : News h₀ L s₁.heap nw) (S : SrcAt h₀ ax its nw) (hr : All2 Rel its.toList as) (hsz : its.size ≤ 1000)
    (src : ∀ v a, Rel v a → ∃ (t : Addr) (v₁ v₂ : Value), v = .ref t ∧ (t, tupOf [v₁, v₂]) ∈ nw ∧ RelP a v₁ v₂)
    (el : ∀ a v₁ v₂ I oI C oC D ys m₂ h tk (E' : Value → Shared → Prop), RelP a v₁ v₂ → NsObj oC m₂ → m₂ x = some v₁ → m₂ x₂ = some v₂ → Fr h₀ L h m → News h₀ L h ((I, oI) :: (C, oC) :: (D, lst ys) :: nw) →
      wpAny (model prog w) A (eval elt (compEnvC scope cl C env)) (fun y s' => Stop (∃ h' tk' t, y = .int (f a) t ∧ s' = { s₁ with heap := h', toks := tk' } ∧ Fr h₀ L h' m ∧ News h₀ L h' ((I, oI) :: (C, oC) :: (D, lst ys) :: nw))) E' { s₁ with heap := h, toks := tk })
    (fin : ∀ g ys, IntsAre ys (as.map f) → Fin { s₁ with heap := g } ys nw) :
    LCp.SrcLP prog w A h₀ L m env elt x x₂ scope cl Fin (.ref ax) s₁ := by
  refine ⟨ax, its, nw, rfl, hh, F, N, S, Nat.le_trans hsz (by rw [sizeLine_eq]; decide), ?_⟩
  rintro s₂ ⟨g, rfl⟩
  refine compRestP_inv (n := its.size) (fun i ys nw' => nw' = nw ∧ IntsAre ys ((as.take i).map f)) ?_ ?_ _ 0 [] _ (by omega) ⟨rfl, by simpa using IntsAre.nil⟩
  · rintro i ys nw' hi ⟨rfl, hy⟩ v hv
    obtain ⟨a, ha, hRel⟩ := hr.get (i := i) (a := v) (by simpa using hv)
    obtain ⟨t, v₁, v₂, rfl, hm, hP⟩ := src v a hRel
    refine ⟨t, _, v₁, v₂, _, rfl, hm, rfl, rfl, fun I oI C oC D m₂ h tk E' hC hm1 hm2 F' N' off ne => ?_⟩
    refine wpAny_mono (el a v₁ v₂ I oI C oC D ys m₂ h tk E' hP hC hm1 hm2 F' N') (fun y s' hq => ?_) fun _ _ e => e
    obtain ⟨h', tk', t', rfl, rfl, F2, N2⟩ := hq.out
    refine CompEnd.intro F2 N2 nw' (fun p hp => hp) off S ⟨rfl, ?_⟩
    rw [List.take_add_one, ha, List.map_append]
    exact intsAre_snoc hy _ _
  · rintro ys nw' ⟨rfl, hy⟩
    rw [List.take_of_length_le (by have := hr.length; simp at this; omega)] at hy
    exact fin _ _ hy

/-- what stands ahead of a turn of the second loop -/
def LawSt2 (P : Params) (b d rl : Addr) (k : Nat → Tok) (nm vl : Value) (mu : List (Addr × Obj)) (gr : Heap) : Prop :=
  ∃ (nu tp fl : Int) (tn tt tf : Tok) (l gl : Addr) (its gits rits : Array Value) (n rn : Nat) (us : List Int) (ps : List (Int × Int)) (rs : List (Int × List Int)),
    mu = [(b, instObj 170 d), (d, dictOf (boxEs P k nm vl (.int nu tn) (.int tp tt) (.int fl tf) (.ref l) (.ref gl)) 7), (l, listOf its n), (rl, listOf rits rn)] ∧
    All2 (LetV P gr) its.toList us ∧ gr.IsList gl gits ∧ All2 (fun v p => PairV gr v p.1 p.2) gits.toList ps ∧ All2 (RoundV gr) rits.toList rs ∧ @Ne Nat rl l ∧ Nums nu tp fl us ps rs ∧ us.length ≤ 40 ∧ rs.length ≤ 8
theorem LawSt.two {P : Params} {b d rl : Addr} {k : Nat → Tok} {nm vl : Value} {i : Nat} {mu : List (Addr × Obj)} {gr : Heap} (h : LawSt P b d rl k nm vl i mu gr) (hi : i ≤ 8) : LawSt2 P b d rl k nm vl mu gr := by
  obtain ⟨nu, tp, tn, tt, tf, l, gl, its, gits, rits, n, rn, us, ps, rs, e, h1, h2, h3, h4, h5, h6, h7, h8⟩ := h
  exact ⟨nu, tp, 0, tn, tt, tf, l, gl, its, gits, rits, n, rn, us, ps, rs, e, h1, h2, h3, h4, h5, h6, by omega, by omega⟩
def whileTest : Option Stmt → Expr
  | some (.While t _ _ _) => t
  | _ => .Name (Str.ofString "") ⟨0, 0, 0, 0⟩
def whileBody : Option Stmt → List Stmt
  | some (.While _ b _ _) => b
  | _ => []
def wTest : Expr := whileTest body2[3]?
def wBody : List Stmt := whileBody body2[3]?

theorem over4 {m : Str → Option Value} {a b c d : Str} {va vb vc vd : Value} (ha : m a = some va) (hb : m b = some vb) (hc : m c = some vc) (hd : m d = some vd) : m = fun y => if y = a then some va else if y = b then some vb else if y = c then some vc else if y = d then some vd else m y := by
  funext y
  by_cases h1 : y = a
  · subst h1; simp [ha]
  · by_cases h2 : y = b
    · subst h2; simp [h1, hb]
    · by_cases h3 : y = c
      · subst h3; simp [h1, h2, hc]
      · by_cases h4 : y = d
        · subst h4; simp [h1, h2, h3, hd]
        · simp [h1, h2, h3, h4]
theorem pick_from {its : Array Value} {x : Int} (h : 0 ≤ x) : (slicePick its (some x) none none).toList = its.toList.drop x.toNat := by
  have e : sliceBounds (some x) none none its.size = (((min x.toNat its.size : Nat) : Int), ((its.size : Nat) : Int), 1) := by
    simp only [sliceBounds, Option.getD_none, show (1 : Int) > 0 by decide, if_true, if_neg (show ¬ (x < 0) by omega)]
    congr 1
    omega
  rw [kmk_pick_nat _ e]
  show (its.toList.drop (min x.toNat its.size)).take (its.size - min x.toNat its.size) = _
  rw [← Array.length_toList, kmk_drop_min, List.take_of_length_le (by rw [List.length_drop]; omega)]
theorem All2.with {α β : Type} {R : α → β → Prop} {P : β → Prop} {l : List α} {k : List β} (h : All2 R l k) (hp : ∀ b ∈ k, P b) : All2 (fun a b => R a b ∧ P b) l k := by
  induction h with
  | nil => exact .nil
  | cons h _ ih => exact .cons ⟨h, hp _ (List.mem_cons_self ..)⟩ (ih fun b hb => hp b (List.mem_cons_of_mem _ hb))
theorem over6 {m : Str → Option Value} {a b c d e f : Str} {va vb vc vd ve vf : Value} (ha : m a = some va) (hb : m b = some vb) (hc : m c = some vc) (hd : m d = some vd) (he : m e = some ve) (hf : m f = some vf) :
    m = fun y => if y = a then some va else if y = b then some vb else if y = c then some vc else if y = d then some vd else if y = e then some ve else if y = f then some vf else m y := by
  funext y
  by_cases h1 : y = a
  · subst h1; simp [ha]
  · by_cases h2 : y = b
    · subst h2; simp [h1, hb]
    · rw [if_neg h1, if_neg h2]
      exact congrFun (over4 hc hd he hf) y
/-- a letter stands in g: what it tells -/
def LetT (P : Params) (g : Heap) (v : Value) (a : List Value) : Prop :=
  ∃ x dx k0 k1 k2 k3 k4 uv oc fv ins md, v = .ref x ∧ g.get? x = some (instObj 132 dx) ∧ g.get? dx = some (dictOf (letEs P k0 k1 k2 k3 k4 uv oc fv ins md) 5) ∧ a = [uv, oc, fv, ins, md] ∧ handedIn uv = true ∧ handedIn oc = true ∧ handedIn fv = true ∧ handedIn ins = true ∧ handedIn md = true
theorem told_vals {P : Params} {g : Heap} {vs : List Value} {us : List Int} (h : All2 (LetV P g) vs us) : ∃ as, All2 (LetT P g) vs as := by
  induction h with
  | nil => exact ⟨[], .nil⟩
  | cons h _ ih =>
    obtain ⟨as, ha⟩ := ih
    obtain ⟨x, dx, k0, k1, k2, k3, k4, t, oc, fv, ins, md, e, h1, h2, r1, r2, r3, r4⟩ := h
    exact ⟨_ :: as, .cons ⟨x, dx, k0, k1, k2, k3, k4, _, oc, fv, ins, md, e, h1, h2, rfl, rfl, r1, r2, r3, r4⟩ ha⟩
def stAt (i : Nat) : Stmt := match body2[i]? with
  | some s => s
  | none => .Pass ⟨0, 0, 0, 0⟩
/-- a list stands in the ledger -/
def LM (tl : List (Addr × Obj)) (a : Addr) (vs : Array Value) : Prop := ∃ o, (a, o) ∈ tl ∧ o.cls = .type "list" ∧ ∃ n, o.data = .seq vs n
def RoundM (tl : List (Addr × Obj)) (v : Value) (r : Int × List Int) : Prop := ∃ a t ul uvs, v = .ref a ∧ (a, tupOf [.int r.1 t, .ref ul]) ∈ tl ∧ LM tl ul (List.toArray uvs) ∧ IntsAre uvs r.2
def PairM (tl : List (Addr × Obj)) (v : Value) (q : Int × Int) : Prop := ∃ a t1 t2, v = .ref a ∧ (a, tupOf [.int q.1 t1, .int q.2 t2]) ∈ tl
def ToldM (tl : List (Addr × Obj)) (v : Value) (a : List Value) : Prop := ∃ x, v = .ref x ∧ (x, tupOf a) ∈ tl
def LetM (P : Params) (tl : List (Addr × Obj)) (v : Value) (a : List Value) : Prop :=
  ∃ x dx k0 k1 k2 k3 k4 uv oc fv ins md, v = .ref x ∧ (x, instObj 132 dx) ∈ tl ∧ (dx, dictOf (letEs P k0 k1 k2 k3 k4 uv oc fv ins md) 5) ∈ tl ∧ a = [uv, oc, fv, ins, md] ∧ handedIn uv = true ∧ handedIn oc = true ∧ handedIn fv = true ∧ handedIn ins = true ∧ handedIn md = true
theorem LM.src {h₀ : Heap} {tl nw : List (Addr × Obj)} {a : Addr} {vs : Array Value} (x : LM tl a vs) (hs : ∀ p ∈ tl, p ∈ nw) : SrcAt h₀ a vs nw := let ⟨o, h1, h2, n, h3⟩ := x; .inr ⟨o, hs _ h1, h2, n, h3⟩
theorem LM.at {g h : Heap} {L a : Addr} {tl nw : List (Addr × Obj)} {vs : Array Value} (x : LM tl a vs) (N : News g L h nw) (hs : ∀ p ∈ tl, p ∈ nw) : h.IsList a vs := let ⟨o, h1, h2, n, h3⟩ := x; ⟨o, (N _ (hs _ h1)).1, h2, n, h3⟩
theorem LM.more {tl nw : List (Addr × Obj)} {a : Addr} {vs : Array Value} (x : LM tl a vs) (hs : ∀ p ∈ tl, p ∈ nw) : LM nw a vs := let ⟨o, h1, h2⟩ := x; ⟨o, hs _ h1, h2⟩
theorem RoundM.more {tl nw : List (Addr × Obj)} {v : Value} {r : Int × List Int} (x : RoundM tl v r) (hs : ∀ p ∈ tl, p ∈ nw) : RoundM nw v r := let ⟨a, t, ul, uvs, e, h1, h2, h3⟩ := x; ⟨a, t, ul, uvs, e, hs _ h1, h2.more hs, h3⟩
theorem RoundV.led {base gr h : Heap} {L : Addr} {tl : List (Addr × Obj)} {v : Value} {r : Int × List Int} (x : RoundV gr v r) (S : Sub base L gr h) (hs : ∀ p ∈ restOf base gr, p ∈ tl) : RoundM tl v r := by
  obtain ⟨a, t, ul, uvs, e, h1, ⟨o, ho, hc, n, hd⟩, hi⟩ := x
  exact ⟨a, t, ul, uvs, e, hs _ (S.mem h1), ⟨o, hs _ (S.mem ho), hc, n, hd⟩, hi⟩
theorem PairV.led {base gr h : Heap} {L : Addr} {tl : List (Addr × Obj)} {v : Value} {q : Int × Int} (x : PairV gr v q.1 q.2) (S : Sub base L gr h) (hs : ∀ p ∈ restOf base gr, p ∈ tl) : PairM tl v q := by
  obtain ⟨a, t1, t2, e, h1⟩ := x
  exact ⟨a, t1, t2, e, hs _ (S.mem h1)⟩
theorem LetT.led {base gr h : Heap} {L : Addr} {P : Params} {tl : List (Addr × Obj)} {v : Value} {a : List Value} (x : LetT P gr v a) (S : Sub base L gr h) (hs : ∀ p ∈ restOf base gr, p ∈ tl) : LetM P tl v a := by
  obtain ⟨x, dx, k0, k1, k2, k3, k4, uv, oc, fv, ins, md, e, h1, h2, r⟩ := x
  exact ⟨x, dx, k0, k1, k2, k3, k4, uv, oc, fv, ins, md, e, hs _ (S.mem h1), hs _ (S.mem h2), r⟩
/-- how many letters the rounds took -/
def lenR (rs : List (Int × List Int)) : Int := (rs.map fun r => (r.2.length : Int)).sum
/-- what is kept, and the floor -/
def wkeep (most : Int) : List (Int × List Int) → Int → List (Int × List Int) × Int
  | [], fl => ([], fl)
  | r :: rs, fl => if most < lenR (r :: rs) then wkeep most rs r.1 else (r :: rs, fl)
end PartMLens

section PartMLW
theorem offMLW : True := by
  w_top off
  trivial
open PySem PySem.W PyProof.Rows PySem.Calls PyProof.Rows.LCg
-- ktr_unf: walk on; ktr_rel: enter a plain def by its contract; ktr_units: fill the kept part; tb_start: enter a def with cells
-- end of header
-- header two
-- extra
local macro_rules | `(tactic| walk_at "WhlRest") => `(tactic| (refine Stop.out ?_))
local macro_rules | `(tactic| walk_at "WhlIf") => `(tactic| (refine Stop.out ?_))
local macro_rules | `(tactic| walk_at "subscriptTail Name Slice ref ref") => `(tactic| (k_here; (with_reducible show wpAny _ _ (subscriptTail _ (PySem.Expr.Slice _ _ none _) (Value.ref _) (Value.ref _)) _ _ _); k_dflt (refine' kmk_slice ?F ?N ?l ?p ?q ?_ ?s ?t ?z; (case F => k_asm); (case N => k_asm); (case l => exact News.isList (by k_asm) (by k_mem)); (case p => kmk_part); (case q => kmk_part); (case s => with_unfolding_all rfl); (case t => kmk_pure); (case z => (rw [sizeLine_eq]; omega))); intro D' h' F' N' l1; (try k_lt l1); (try k_sweep)))
set_option maxRecDepth 100000 in
set_option maxHeartbeats 4000000 in
theorem while_all {prog : Program} {w : World} {base gr h₀ : Heap} {mean : ExcName → Option Value} {mg mb : Str → Option Value} {L fa : Addr} {cd : Value} {most : Int} {tm : Tok} {tl : List (Addr × Obj)} {Q : Flow → Shared → Prop}
    (B : Below callerA base [] base) (X : (hd.heap_39 w.params).In base) (T : TopG mean mg mb base) (hmost : 0 ≤ most) (S : Sub base L gr h₀) (htl : ∀ p ∈ restOf base gr, p ∈ tl) : ∀ (rs : List (Int × List Int)) (s : Shared) (K : Addr) (kits : Array Value) (kn : Nat) (W fl : Int) (tW tF : Tok) (m : Str → Option Value),
    rs.length ≤ 8 → (∀ r ∈ rs, r.2.length ≤ 4) → Fr base L s.heap m → News base L s.heap ((K, listOf kits kn) :: tl) → All2 (RoundV gr) kits.toList rs →
    m (Str.ofString "most") = some (.int most tm) → m (Str.ofString "kept") = some (.ref K) → m (Str.ofString "went") = some (.int W tW) → m (Str.ofString "floor") = some (.int fl tF) →
    (∀ p ∈ tl, p.1 ≠ K) →
    (∀ h' tk K' kits' kn' tW' tF' m', (∀ y, y ≠ Str.ofString "kept" → y ≠ Str.ofString "went" → y ≠ Str.ofString "floor" → m' y = m y) → Fr base L h' m' → News base L h' ((K', listOf kits' kn') :: tl) → (∀ p ∈ tl, p.1 ≠ K') →
      All2 (RoundV gr) kits'.toList (wkeep most rs fl).1 → m' (Str.ofString "kept") = some (.ref K') → m' (Str.ofString "went") = some (.int (W + (lenR rs - lenR (wkeep most rs fl).1)) tW') → m' (Str.ofString "floor") = some (.int (wkeep most rs fl).2 tF') →
      Q .next { s with heap := h', toks := tk }) →
    WhlRest prog w (callerA.deeper (lawEnv L fa cd)) (fun _ _ => False) (lawEnv L fa cd) wTest wBody [] Q 1 s := by
  ktr_units
  dsimp only [wTest, wBody, whileTest, whileBody, body2, lawEnv, lawScope, lawBody, forBody, PySem.Challenge.pw_or0040_01, List.getLast?, List.getLast, List.getElem?_cons_succ, List.getElem?_cons_zero, List.length_cons, List.length_nil]
  intro rs
  induction rs with
  | nil =>
    intro s K kits kn W fl tW tF m hlen h4 F N hk hm1 hm2 hm3 hm4 hoff done
    refine whl_turn (k := 0) PassesOwn.never ?_

    rw [over4 hm1 hm2 hm3 hm4] at F

    ktr_unf
    refine compP_ints (fun v r => RoundV gr v r ∧ r.2.length ≤ 4) (fun r v₁ v₂ => ∃ t ul uvs, v₁ = .int r.1 t ∧ v₂ = .ref ul ∧ gr.IsList ul (List.toArray uvs) ∧ IntsAre uvs r.2 ∧ r.2.length ≤ 4) (fun r => (r.2.length : Int)) rfl F N (.inr ⟨_, .head _, rfl, _, rfl⟩) (hk.with h4) (by have := hk.length; simp only [Array.length_toList] at this; omega) ?src ?el ?fin
    case src =>
      rintro v r ⟨⟨a, t, ul, uvs, rfl, ha, hl, hi⟩, h40⟩
      exact ⟨a, _, _, rfl, .tail _ (htl _ (S.mem ha)), t, ul, uvs, rfl, rfl, hl, hi, h40⟩
    case el =>
      rintro r v₁ v₂ I oI C oC D ys m₂ h3 tk3 E' ⟨t, ul, uvs, rfl, rfl, hl, hi, h100⟩ hC hp1 hp2 F3 N3
      clear F N
      have e9 := hi.length
      have hl3 := stays_list (S.ofNews (h' := h3) (fun p hp => N3 p (.tail _ (.tail _ (.tail _ (.tail _ (htl p hp))))))).st hl
      ktr_unf
      exact Stop.mk ⟨_, _, _, rfl, rfl, F3, N3⟩
    case fin =>
      intro g5 ys5 hys5
      clear F N
      ktr_unf
      refine Stop.mk ?_
      rename Fr _ _ _ _ => F5
      rename News _ _ _ _ => N5
      refine WhlIf.no (decide_eq_false (by show ¬ most < (0 : Int); omega)) ?_
      ktr_unf
      rename Fr _ _ _ _ => F8
      rename News _ _ _ _ => N8
      rw [← over4 hm1 hm2 hm3 hm4] at F8
      exact done _ _ K kits kn tW tF m (fun _ _ _ _ => rfl) F8 (fun p hp => N8 p (.tail _ hp)) hoff hk hm2 (by rw [hm3]; simp [wkeep, lenR]) hm4
  | cons r rs ih =>
    intro s K kits kn W fl tW tF m hlen h4 F N hk hm1 hm2 hm3 hm4 hoff done
    refine whl_turn (k := 0) PassesOwn.never ?_

    rw [over4 hm1 hm2 hm3 hm4] at F

    ktr_unf
    refine compP_ints (fun v r => RoundV gr v r ∧ r.2.length ≤ 4) (fun r v₁ v₂ => ∃ t ul uvs, v₁ = .int r.1 t ∧ v₂ = .ref ul ∧ gr.IsList ul (List.toArray uvs) ∧ IntsAre uvs r.2 ∧ r.2.length ≤ 4) (fun r => (r.2.length : Int)) rfl F N (.inr ⟨_, .head _, rfl, _, rfl⟩) (hk.with h4) (by have := hk.length; simp only [Array.length_toList] at this; omega) ?src ?el ?fin
    case src =>
      rintro v r ⟨⟨a, t, ul, uvs, rfl, ha, hl, hi⟩, h40⟩
      exact ⟨a, _, _, rfl, .tail _ (htl _ (S.mem ha)), t, ul, uvs, rfl, rfl, hl, hi, h40⟩
    case el =>
      rintro r v₁ v₂ I oI C oC D ys m₂ h3 tk3 E' ⟨t, ul, uvs, rfl, rfl, hl, hi, h100⟩ hC hp1 hp2 F3 N3
      clear F N
      have e9 := hi.length
      have hl3 := stays_list (S.ofNews (h' := h3) (fun p hp => N3 p (.tail _ (.tail _ (.tail _ (.tail _ (htl p hp))))))).st hl
      ktr_unf
      exact Stop.mk ⟨_, _, _, rfl, rfl, F3, N3⟩
    case fin =>
      intro g5 ys5 hys5
      clear F N
      ktr_unf
      refine Stop.mk ?_
      rename Fr _ _ _ _ => F5
      rename News _ _ _ _ => N5
      by_cases hlt : most < lenR (r :: rs)
      · refine WhlIf.yes (decide_eq_true hlt) ?_
        have N6 : News base L _ ((K, listOf kits kn) :: tl) := fun p hp => N5 p (.tail _ hp)
        clear N5
        have hks := hk.length
        simp only [Array.length_toList, List.length_cons] at hks
        simp only [List.length_cons] at hlen
        obtain ⟨v0, hv0, a0, t0, ul0, uvs0, rfl, ha0, hl0, hi0⟩ := hk.get' (i := 0) (b := r) rfl
        have hv1 : kits[0]? = some (.ref a0) := by rw [← Array.getElem?_toList]; exact hv0
        have e00 := hi0.length
        have h40 := h4 r (List.mem_cons_self ..)
        ktr_unf
        refine item_list (isList_mem N6 (.head _)) (by decide) (by decide) hv1 ?_
        try dsimp only
        ktr_unf
        refine item_pair0 ((S.ofNews (fun p hp => N6 p (.tail _ (htl p hp)))).st _ _ ha0) ?_
        try dsimp only
        ktr_unf
        rename Fr _ _ _ _ => F7
        rename News _ _ _ _ => N7
        refine item_list (isList_mem N7 (.head _)) (by decide) (by decide) hv1 ?_
        try dsimp only
        ktr_unf
        refine item_pair1 ((S.ofNews (fun p hp => N7 p (.tail _ (htl p hp)))).st _ _ ha0) ?_
        try dsimp only
        ktr_unf
        refine len_list (items := uvs0.toArray) (stays_list (S.ofNews (fun p hp => N7 p (.tail _ (htl p hp)))).st hl0) (by rw [List.size_toArray]; omega) ?_
        try dsimp only
        ktr_unf
        refine Stop.mk ?_
        rename Fr _ _ _ _ => F8
        rename News _ _ _ _ => N8
        have hk8 := hk.drop 1
        simp only [List.drop_succ_cons, List.drop_zero] at hk8
        have e8 : (slicePick kits (some 1) none none).toList = kits.toList.drop 1 := pick_from (by decide)
        have ew : wkeep most (r :: rs) fl = wkeep most rs r.1 := by rw [wkeep, if_pos hlt]
        have el : lenR (r :: rs) = r.2.length + lenR rs := by simp [lenR]
        rename _ ∧ AllLt _ _ => l8
        have N9 := news_pick N8 (.head _) (fun p hp => N8 p (.tail _ (.tail _ hp)))
        refine' ih _ _ _ _ (W + ((uvs0.toArray.size : Nat) : Int)) r.1 _ _ _ (by omega) (fun x hx => h4 x (List.mem_cons_of_mem _ hx)) F8 N9 ?hk8 ?m1 ?m2 ?m3 ?m4 ?off8 ?d8
        case hk8 => rw [e8]; exact hk8
        case off8 => exact fun p hp => Nat.ne_of_lt (tb_ltOf l8.2 p hp)
        case m1 => with_unfolding_all rfl
        case m2 => with_unfolding_all rfl
        case m3 => with_unfolding_all rfl
        case m4 => with_unfolding_all rfl
        case d8 =>
          intro h' tk K' kits' kn' tW' tF' m' hm' F' N' ho' hk' q1 q2 q3
          rw [← ew] at hk' q2 q3
          refine done h' tk K' kits' kn' tW' tF' m' (fun y y1 y2 y3 => ?_) F' N' ho' hk' q1 ?_ q3
          · rw [hm' y y1 y2 y3]
            simp only [if_neg y1, if_neg y2, if_neg y3]
            by_cases hy : y = Str.ofString "most"
            · subst hy; rw [if_pos rfl, hm1]
            · rw [if_neg hy]
          · rw [q2, el, List.size_toArray, e00]
            congr 2
            omega
      · refine WhlIf.no (decide_eq_false hlt) ?_
        have ew : wkeep most (r :: rs) fl = (r :: rs, fl) := by rw [wkeep, if_neg hlt]
        rw [ew] at done
        ktr_unf
        rename Fr _ _ _ _ => F8
        rename News _ _ _ _ => N8
        rw [← over4 hm1 hm2 hm3 hm4] at F8
        exact done _ _ K kits kn tW tF m (fun _ _ _ _ => rfl) F8 (fun p hp => N8 p (.tail _ hp)) hoff hk hm2 (by rw [hm3, Int.sub_self, Int.add_zero]) hm4
end PartMLW

section PartMEq
theorem offMEq : True := by
  w_top off
  trivial
open PySem PySem.W PyProof.Rows PySem.Calls PyProof.Rows.LCg PySem.SeqAt
theorem all_yes (n : Nat) : ((List.range n).all fun _ => true) = true := List.all_eq_true.mpr fun _ _ => rfl
section
variable {A : Around} {s : Shared}
theorem tup_same {a a' : Addr} {vs vs' : Array Value} (h1 : s.heap.IsTuple a vs) (h2 : s.heap.IsTuple a' vs') (hsz : vs.size = vs'.size) (hu : A.units < cLine) (he : ∀ j (h1 : j < vs.size) (h2 : j < vs'.size), EqAt A.in1 s vs[j] vs'[j] true) : EqAt A s (.ref a) (.ref a') true := by
  by_cases e : a = a'
  · subst e; exact EqAt.same _
  · refine EqAt.of_refs e ?_
    have := RcAt.tuples (e := fun _ => true) h1 h2 hu he
    simpa [hsz, all_yes] using this
theorem list_same {a a' : Addr} {vs vs' : Array Value} (h1 : s.heap.IsList a vs) (h2 : s.heap.IsList a' vs') (hsz : vs.size = vs'.size) (hu : A.units < cLine) (he : ∀ j (h1 : j < vs.size) (h2 : j < vs'.size), EqAt A.in1 s vs[j] vs'[j] true) : EqAt A s (.ref a) (.ref a') true := by
  by_cases e : a = a'
  · subst e; exact EqAt.same _
  · refine EqAt.of_refs e ?_
    have := RcAt.lists (e := fun _ => true) h1 h2 hsz hu he
    simpa [all_yes] using this
theorem all2_same {α : Type} {R R' : Value → α → Prop} {vs vs' : Array Value} {as : List α} (h1 : All2 R vs.toList as) (h2 : All2 R' vs'.toList as) (he : ∀ v v' a, R v a → R' v' a → EqAt A s v v' true) : vs.size = vs'.size ∧ ∀ j (h1 : j < vs.size) (h2 : j < vs'.size), EqAt A s vs[j] vs'[j] true := by
  have e1 := h1.length
  have e2 := h2.length
  simp only [Array.length_toList] at e1 e2
  refine ⟨by omega, fun j q1 q2 => ?_⟩
  obtain ⟨a, ha, r1⟩ := h1.get (i := j) (a := vs[j]) (by simp [q1])
  obtain ⟨v', hv', r2⟩ := h2.get' (i := j) (b := a) ha
  have : v' = vs'[j] := by simp [q2] at hv'; exact hv'.symm
  subst this
  exact he _ _ _ r1 r2
theorem isTup_of {h : Heap} {a : Addr} {vs : List Value} (e : h.get? a = some (tupOf vs)) : h.IsTuple a vs.toArray := ⟨_, e, rfl, _, rfl⟩
theorem pair_same {a a' : Addr} {u m : Int} {t1 t2 t3 t4 : Tok} (h1 : s.heap.get? a = some (tupOf [.int u t1, .int m t2])) (h2 : s.heap.get? a' = some (tupOf [.int u t3, .int m t4])) (hu : A.units < cLine) : EqAt A s (.ref a) (.ref a') true := by
  refine tup_same (isTup_of h1) (isTup_of h2) rfl hu fun j q1 q2 => ?_
  match j, q1 with
  | 0, _ => simpa using EqAt.int_int (A := A.in1) (s := s) u t1 u t3
  | 1, _ => simpa using EqAt.int_int (A := A.in1) (s := s) m t2 m t4
theorem vals_same {a a' : Addr} {vs : List Value} (h1 : s.heap.get? a = some (tupOf vs)) (h2 : s.heap.get? a' = some (tupOf vs)) (hu : A.units < cLine) : EqAt A s (.ref a) (.ref a') true :=
  tup_same (isTup_of h1) (isTup_of h2) rfl hu fun _ _ _ => EqAt.same _
end
section
variable {prog : Program} {w : World} {A : Around} {E : Value → Shared → Prop} {s : Shared} {Q : Value → Shared → Prop}
theorem ne_lists {α : Type} {R R' : Value → α → Prop} {a a' : Addr} {vs vs' : Array Value} {as : List α} (h1 : s.heap.IsList a vs) (h2 : s.heap.IsList a' vs') (hu : A.units < cLine) (r1 : All2 R vs.toList as) (r2 : All2 R' vs'.toList as) (he : ∀ v v' a, R v a → R' v' a → EqAt A.in1 s v v' true)
    (h : Q (.bool false) s) : wpAny (model prog w) A (compareOp .NotEq (.ref a) (.ref a')) Q E s := by
  obtain ⟨e1, e2⟩ := all2_same r1 r2 he
  exact (RcNeAt.lists (e := fun _ => true) h1 h2 e1 hu e2) prog w E Q (by simpa [all_yes] using h)
theorem eq_lists {α : Type} {R R' : Value → α → Prop} {a a' : Addr} {vs vs' : Array Value} {as : List α} (h1 : s.heap.IsList a vs) (h2 : s.heap.IsList a' vs') (hu : A.units < cLine) (r1 : All2 R vs.toList as) (r2 : All2 R' vs'.toList as) (he : ∀ v v' a, R v a → R' v' a → EqAt A.in1 s v v' true)
    (h : Q (.bool true) s) : wpAny (model prog w) A (compareOp .Eq (.ref a) (.ref a')) Q E s := by
  obtain ⟨e1, e2⟩ := all2_same r1 r2 he
  exact (RcAt.lists (e := fun _ => true) h1 h2 e1 hu e2) prog w E Q (by simpa [all_yes] using h)
/-- (top, told) twice -/
theorem ne_told {a a' D D' : Addr} {tp : Int} {t1 t2 : Tok} {vs vs' : Array Value} {as : List (List Value)} (h1 : s.heap.get? a = some (tupOf [.int tp t1, .ref D])) (h2 : s.heap.get? a' = some (tupOf [.int tp t2, .ref D'])) (hD : s.heap.IsList D vs) (hD' : s.heap.IsList D' vs')
    (hu : A.units < cLine) (hu2 : A.in1.units < cLine) (hu3 : A.in1.in1.units < cLine) (r1 : All2 (fun v a => ∃ x, v = .ref x ∧ s.heap.get? x = some (tupOf a)) vs.toList as) (r2 : All2 (fun v a => ∃ x, v = .ref x ∧ s.heap.get? x = some (tupOf a)) vs'.toList as)
    (h : Q (.bool false) s) : wpAny (model prog w) A (compareOp .NotEq (.ref a) (.ref a')) Q E s := by
  obtain ⟨e1, e2⟩ := all2_same (A := A.in1.in1) (s := s) r1 r2 (by
    rintro v v' x ⟨y, rfl, hy⟩ ⟨y', rfl, hy'⟩
    exact vals_same hy hy' hu3)
  have := RcNeAt.tuples (A := A) (s := s) (e := fun _ => true) (isTup_of h1) (isTup_of h2) hu (fun j q1 q2 => by
    match j, q1 with
    | 0, _ => simpa using EqAt.int_int (A := A.in1) (s := s) tp t1 tp t2
    | 1, _ => exact list_same hD hD' e1 hu2 e2) prog w E Q
  exact this (by simpa [all_yes] using h)
end
end PartMEq

section PartMKeep
theorem offMKeep : True := by
  w_top off
  trivial
open PySem PySem.W PyProof.Rows PySem.Calls PyProof.Rows.LCg
theorem lenR_flat (rs : List (Int × List Int)) : lenR rs = ((flatR rs).length : Int) := by
  induction rs with
  | nil => rfl
  | cons r rs ih =>
    have h1 : lenR (r :: rs) = (r.2.length : Int) + lenR rs := by simp [lenR]
    have h2 : flatR (r :: rs) = (r.2.map fun u => (u, r.1)) ++ flatR rs := by simp [flatR]
    rw [h1, h2, ih, List.length_append, List.length_map]
    omega
theorem wkeep_split {most : Int} (h0 : 0 ≤ most) : ∀ (rs : List (Int × List Int)) (fl : Int), ∃ pre, rs = pre ++ (wkeep most rs fl).1 ∧ lenR (wkeep most rs fl).1 ≤ most ∧
    ((pre = [] ∧ (wkeep most rs fl).2 = fl) ∨ ∃ pre' q, pre = pre' ++ [q] ∧ (wkeep most rs fl).2 = q.1 ∧ most < lenR (q :: (wkeep most rs fl).1))
  | [], fl => ⟨[], rfl, by simpa [wkeep, lenR] using h0, .inl ⟨rfl, rfl⟩⟩
  | r :: rs, fl => by
    by_cases h : most < lenR (r :: rs)
    · have e : wkeep most (r :: rs) fl = wkeep most rs r.1 := by rw [wkeep, if_pos h]
      rw [e]
      obtain ⟨pre, h1, h2, h3⟩ := wkeep_split h0 rs r.1
      refine ⟨r :: pre, by rw [List.cons_append, ← h1], h2, .inr ?_⟩
      rcases h3 with ⟨rfl, h4⟩ | ⟨pre', q, rfl, h4, h5⟩
      · refine ⟨[], r, rfl, h4, ?_⟩
        have : rs = (wkeep most rs r.1).1 := h1
        rw [← this]; exact h
      · exact ⟨r :: pre', q, rfl, h4, h5⟩
    · have e : wkeep most (r :: rs) fl = (r :: rs, fl) := by rw [wkeep, if_neg h]
      rw [e]
      exact ⟨[], rfl, Int.not_lt.mp h, .inl ⟨rfl, rfl⟩⟩

theorem flat_mem {rs : List (Int × List Int)} {p : Int × Int} (h : p ∈ flatR rs) : ∃ r ∈ rs, p.2 = r.1 := by
  obtain ⟨r, hr, hp⟩ := List.mem_flatMap.mp h
  obtain ⟨u, _, rfl⟩ := List.mem_map.mp hp
  exact ⟨r, hr, rfl⟩

/-- what the law asks, of numbers alone -/
structure Keeps (most fl : Int) (rs : List (Int × List Int)) (ps : List (Int × Int)) (kept : List (Int × List Int)) (fl' : Int) : Prop where
  few : lenR kept ≤ most
  same : (ps.length : Int) ≤ most → kept = rs ∧ fl' = fl
  cut : ∀ u mq, most < (ps.length : Int) → ps[((ps.length : Int) - most - 1).toNat]? = some (u, mq) → fl' = mq ∧ ps.filter (fun q => decide (mq < q.2)) = flatR kept
  tight : kept.length < rs.length → ∃ q, rs.drop (rs.length - kept.length - 1) = q :: kept ∧ most < lenR (q :: kept)
  suf : ∃ pre, rs = pre ++ kept

theorem keeps {nu tp fl most : Int} {us : List Int} {ps : List (Int × Int)} {rs : List (Int × List Int)} (N : Nums nu tp fl us ps rs) (h0 : 0 ≤ most) :
    Keeps most fl rs ps (wkeep most rs fl).1 (wkeep most rs fl).2 ∧ Nums nu tp (wkeep most rs fl).2 us (flatR (wkeep most rs fl).1) (wkeep most rs fl).1 := by
  obtain ⟨pre, h1, h2, h3⟩ := wkeep_split h0 rs fl
  generalize (wkeep most rs fl).1 = kept at h1 h2 h3 ⊢
  generalize (wkeep most rs fl).2 = fl' at h3 ⊢
  have hps : (ps.length : Int) = lenR rs := by rw [lenR_flat, N.eq]
  have hlr : lenR rs = lenR pre + lenR kept := by rw [h1, lenR_flat, lenR_flat, lenR_flat, flatR_append, List.length_append]; omega
  have hl0 : ∀ l, 0 ≤ lenR l := fun l => by rw [lenR_flat]; omega
  refine ⟨⟨h2, fun hle => ?_, fun u mq hlt hq => ?_, fun hlt => ?_, pre, h1⟩, ?_⟩
  · rcases h3 with ⟨rfl, e⟩ | ⟨pre', q, rfl, e, hm⟩
    · exact ⟨h1.symm, e⟩
    · have hq : lenR (q :: kept) = (q.2.length : Int) + lenR kept := by simp [lenR]
      have hp : lenR (pre' ++ [q]) = lenR pre' + (q.2.length : Int) := by simp [lenR]
      have := hl0 pre'
      omega
  · rcases h3 with ⟨rfl, e⟩ | ⟨pre', q, rfl, e, hm⟩
    · have : lenR ([] : List (Int × List Int)) = 0 := rfl
      omega
    · have hqk : lenR (q :: kept) = (q.2.length : Int) + lenR kept := by simp [lenR]
      have hp : lenR (pre' ++ [q]) = lenR pre' + (q.2.length : Int) := by simp [lenR]
      have hpf : ps = flatR pre' ++ ((q.2.map fun u => (u, q.1)) ++ flatR kept) := by
        rw [N.eq, h1, flatR_append, flatR_append, List.append_assoc]; simp [flatR]
      have l1 := lenR_flat pre'
      have l2 := lenR_flat kept
      have hmq : mq = q.1 := by
        rw [hpf, List.getElem?_append_right (by rw [← hpf]; omega), List.getElem?_append_left (by rw [← hpf, List.length_map]; omega)] at hq
        obtain ⟨x, hx⟩ := List.mem_of_getElem? hq |> List.mem_map.mp
        have := hx.2
        simp at this
        exact this.2.symm
      subst hmq
      have tops := N.tops
      rw [h1, List.append_assoc] at tops
      obtain ⟨_, tk, tx⟩ := List.pairwise_append.mp tops
      have tk' := (List.pairwise_cons.mp (show List.Pairwise _ (q :: kept) from tk)).1
      refine ⟨e, ?_⟩
      rw [hpf, List.filter_append, List.filter_append]
      have f1 : (flatR pre').filter (fun z : Int × Int => decide (q.1 < z.2)) = [] := by
        refine List.filter_eq_nil_iff.mpr fun z hz => ?_
        obtain ⟨r, hr, e⟩ := flat_mem hz
        have := tx r hr q (by simp)
        simp only [decide_eq_true_eq]
        omega
      have f2 : (q.2.map fun u => (u, q.1)).filter (fun z : Int × Int => decide (q.1 < z.2)) = [] := by
        refine List.filter_eq_nil_iff.mpr fun z hz => ?_
        obtain ⟨u, _, rfl⟩ := List.mem_map.mp hz
        simp
      have f3 : (flatR kept).filter (fun z : Int × Int => decide (q.1 < z.2)) = flatR kept := by
        refine List.filter_eq_self.mpr fun z hz => ?_
        obtain ⟨r, hr, e⟩ := flat_mem hz
        have := tk' r hr
        simp only [decide_eq_true_eq]
        omega
      rw [f1, f2, f3, List.nil_append, List.nil_append]
  · rcases h3 with ⟨rfl, e⟩ | ⟨pre', q, rfl, e, hm⟩
    · rw [h1] at hlt; simp at hlt
    · refine ⟨q, ?_, hm⟩
      rw [h1, List.append_assoc, List.length_append]
      have : pre'.length + ([q] ++ kept).length - kept.length - 1 = pre'.length := by simp; omega
      rw [this, List.drop_left]
      rfl
  · have hsub : ∀ r ∈ kept, r ∈ rs := fun r hr => by rw [h1]; exact List.mem_append.mpr (.inr hr)
    refine ⟨N.up, N.lt, rfl, ?_, fun r hr => ⟨?_, (N.top r (hsub r hr)).2⟩, fun r hr => N.ne r (hsub r hr), ?_⟩
    · have := N.tops; rw [h1] at this; exact (List.pairwise_append.mp this).2.1
    · rcases h3 with ⟨rfl, e⟩ | ⟨pre', q, rfl, e, hm⟩
      · rw [e]; exact (N.top r (hsub r hr)).1
      · have tops := N.tops
        rw [h1, List.append_assoc] at tops
        obtain ⟨_, tk, _⟩ := List.pairwise_append.mp tops
        rw [e]
        exact (List.pairwise_cons.mp (show List.Pairwise _ (q :: kept) from tk)).1 r hr
    · rcases h3 with ⟨rfl, e⟩ | ⟨pre', q, rfl, e, hm⟩
      · rw [e]; exact N.ft
      · rw [e]; exact (N.top q (by rw [h1]; simp)).2

theorem off_bd {base h : Heap} {L b d : Addr} {es : List DictEntry} {led : List (Addr × Obj)} (N : News base L h led) (hb : (b, instObj 170 d) ∈ led) (hd : (d, dictOf es 7) ∈ led) {p : Addr × Obj} (hp : p ∈ led) (hc : p.2.cls = .type "list" ∨ p.2.cls = .type "tuple") : p.1 ≠ b ∧ p.1 ≠ d := by
  constructor
  · intro e
    have h1 := (N _ hp).1
    rw [e, (N _ hb).1] at h1
    have e2 := congrArg Obj.cls (Option.some.inj h1)
    rcases hc with hc | hc <;> rw [hc] at e2 <;> simp at e2
  · intro e
    have h1 := (N _ hp).1
    rw [e, (N _ hd).1] at h1
    have e2 := congrArg Obj.cls (Option.some.inj h1)
    rcases hc with hc | hc <;> rw [hc] at e2 <;> simp [dictOf] at e2
/-- the end of a turn of the second loop -/
theorem end2 {P : Params} {base gr h2 h9 : Heap} {L b d l rl K g : Addr} {k : Nat → Tok} {nm vl : Value} {nu tp fl : Int} {tn tt tf : Tok} {es0 : List DictEntry} {its rits kits gvs : Array Value} {nn rn kn : Nat} {us : List Int} {kept : List (Int × List Int)} {own fresh : List (Addr × Obj)}
    (D : Led base L h2 [(b, instObj 170 d), (d, dictOf es0 7), (l, listOf its nn), (rl, listOf rits rn)] own gr)
    (N : News base L h9 ((b, instObj 170 d) :: (d, dictOf (boxEs P k nm vl (.int nu tn) (.int tp tt) (.int fl tf) (.ref l) (.ref g)) 7) :: (l, listOf its nn) :: (K, listOf kits kn) :: (own ++ restOf base gr)))
    (Nf : News base L h9 fresh) (hK : ∀ p ∈ own ++ restOf base gr, p.1 ≠ K) (hKl : @Ne Nat K l)
    (hf : ∀ p ∈ fresh, (∀ q ∈ own, q.1 ≠ p.1) ∧ ((∃ vs, p.2 = tupOf vs) ∨ ((∃ vs n, p.2 = listOf vs n) ∧ @Ne Nat p.1 l ∧ @Ne Nat p.1 K)))
    (hls : All2 (LetV P gr) its.toList us) (hks : All2 (RoundV gr) kits.toList kept) (hN : Nums nu tp fl us (flatR kept) kept) (hul : us.length ≤ 40) (hk8 : kept.length ≤ 8)
    (hg : ∀ gr', Stay gr gr' → (∀ p ∈ fresh, gr'.get? p.1 = some p.2) → gr'.IsList g gvs ∧ All2 (fun v q => PairV gr' v q.1 q.2) gvs.toList (flatR kept)) :
    ∃ mu' gr', Led base L h9 mu' own gr' ∧ LawSt2 P b d K k nm vl mu' gr' := by
  obtain ⟨D9, st9, get9⟩ := D.next (mu' := [(b, instObj 170 d), (d, dictOf (boxEs P k nm vl (.int nu tn) (.int tp tt) (.int fl tf) (.ref l) (.ref g)) 7), (l, listOf its nn), (K, listOf kits kn)]) N (by
      intro p hp
      simp only [List.mem_cons, List.not_mem_nil, or_false] at hp
      rcases hp with rfl | rfl | rfl | rfl
      · exact D.offs (by simp)
      · exact D.offs (by simp)
      · exact D.offs (by simp)
      · exact ⟨not_base_of D fun p hp => hK p (List.mem_append.mpr (.inr hp)), fun q hq => hK q (List.mem_append.mpr (.inl hq))⟩)
  obtain ⟨g1, g2⟩ := hg _ st9 (by
    intro p hp
    have hn := Nf p hp
    obtain ⟨f1, f2⟩ := hf p hp
    refine get9 p.1 p.2 hn.1 hn.2.1 hn.2.2 f1 ?_
    rintro q hq e
    have hq9 := (N q (List.mem_append_left _ hq)).1
    rw [e, hn.1] at hq9
    have e2 := Option.some.inj hq9
    simp only [List.mem_cons, List.not_mem_nil, or_false] at hq
    rcases f2 with ⟨vs, f2⟩ | ⟨⟨vs, n, f2⟩, f3, f4⟩
    · rw [f2] at e2
      rcases hq with rfl | rfl | rfl | rfl <;> · have := congrArg Obj.cls e2; simp [dictOf] at this
    · rw [f2] at e2
      rcases hq with rfl | rfl | rfl | rfl
      · have := congrArg Obj.cls e2; simp at this
      · have := congrArg Obj.cls e2; simp [dictOf] at this
      · exact f3 e.symm
      · exact f4 e.symm)
  exact ⟨_, _, D9, nu, tp, fl, tn, tt, tf, l, g, its, gvs, kits, nn, kn, us, flatR kept, kept, rfl, hls.mono fun _ _ z => z.mono st9, g1, g2, hks.mono fun _ _ z => z.mono st9, hKl, hN, hul, hk8⟩
end PartMKeep

section PartMI2
theorem offMI2 : True := by
  w_top off
  trivial
open PySem PySem.W PyProof.Rows PySem.Calls PyProof.Rows.LCg
-- ktr_unf: walk on; ktr_rel: enter a plain def by its contract; ktr_units: fill the kept part; tb_start: enter a def with cells
-- end of header
-- header two
-- extra
local macro_rules | `(tactic| walk_at "eval ListComp") => `(tactic| (k_here; (with_reducible show wpAny _ _ (eval (PySem.Expr.ListComp _ (_ :: _ :: _) _ _) _) _ _ _); k_dflt (refine eval_shell (by with_unfolding_all rfl) (by rfl) (by decide) ?_)))
local macro_rules | `(tactic| walk_at "compareOp NotEq ref ref") => `(tactic| (k_here; refine Stop.out ?_))
set_option maxRecDepth 100000 in
set_option maxHeartbeats 4000000 in
theorem if2 {prog : Program} {w : World} {s : Shared} {base : Heap} {mean : ExcName → Option Value} {mg mb : Str → Option Value} {L fa b d l g K T1 D1 : Addr} {cd : Value} {k : Nat → Tok} {nm vl : Value} {nu tp fl : Int} {tn tt tt1 tf : Tok} {its kits gvs : Array Value} {ys1 : List Value} {n₀ kn : Nat}
    {kept : List (Int × List Int)} {as : List (List Value)} {m : Str → Option Value} {tl : List (Addr × Obj)} {Q : Flow → Shared → Prop}
    (B : Below callerA base [] base) (X : (hd.heap_39 w.params).In base) (T : TopG mean mg mb base)
    (hm1 : m (Str.ofString "box") = some (.ref b)) (hm2 : m (Str.ofString "kept") = some (.ref K)) (hm3 : m (Str.ofString "before") = some (.ref T1)) (F : Fr base L s.heap m)
    (N : News base L s.heap ((T1, tupOf [.int tp tt1, .ref D1]) :: (D1, lst ys1) :: (K, listOf kits kn) :: (b, instObj 170 d) :: (d, dictOf (boxEs w.params k nm vl (.int nu tn) (.int tp tt) (.int fl tf) (.ref l) (.ref g)) 7) :: (l, listOf its n₀) :: tl))
    (hk : All2 (RoundM tl) kits.toList kept) (hk8 : kept.length ≤ 8) (hk4 : ∀ r ∈ kept, r.2.length ≤ 4) (hg : LM tl g gvs) (hgp : All2 (PairM tl) gvs.toList (flatR kept)) (hls : All2 (LetM w.params tl) its.toList as) (hit : its.size ≤ 100) (h1 : All2 (ToldM tl) ys1 as)
    (h : ∀ h' tk, Fr base L h' m → News base L h' ((T1, tupOf [.int tp tt1, .ref D1]) :: (D1, lst ys1) :: (K, listOf kits kn) :: (b, instObj 170 d) :: (d, dictOf (boxEs w.params k nm vl (.int nu tn) (.int tp tt) (.int fl tf) (.ref l) (.ref g)) 7) :: (l, listOf its n₀) :: tl) →
      Q .next { s with heap := h', toks := tk }) :
    wpAny (model prog w) (callerA.deeper (lawEnv L fa cd)) (exec (stAt 6) (lawEnv L fa cd)) Q (fun _ _ => False) s := by
  ktr_units
  dsimp only [stAt, body2, lawEnv, lawScope, lawBody, forBody, PySem.Challenge.pw_or0040_01, List.getLast?, List.getLast, List.getElem?_cons_succ, List.getElem?_cons_zero, List.length_cons, List.length_nil]
  rw [over3 hm1 hm2 hm3] at F
  have hkl := hk.length
  simp only [Array.length_toList] at hkl
  have tlm : ∀ p ∈ tl, p ∈ ((T1, tupOf [.int tp tt1, .ref D1]) :: (D1, lst ys1) :: (K, listOf kits kn) :: (b, instObj 170 d) :: (d, dictOf (boxEs w.params k nm vl (.int nu tn) (.int tp tt) (.int fl tf) (.ref l) (.ref g)) 7) :: (l, listOf its n₀) :: tl) :=
    fun p hp => .tail _ (.tail _ (.tail _ (.tail _ (.tail _ (.tail _ hp)))))
  ktr_unf
  refine Stop.mk ?_
  refine uu_block (RoundM tl) (fun t o z u q => z = .ref t ∧ ∃ t1 t2, o = tupOf [.int u t1, .int q t2]) rfl (.inr ⟨_, .tail _ (.tail _ (.head _)), rfl, _, rfl⟩) F N (by decide) rfl rfl rfl rfl (by decide) (by decide) (by decide) hk (by omega) hk4 ?src ?src2 ?el ?fin
  case src =>
    rintro v r h3 ⟨a, t, ul, uvs, rfl, ha, hul, hi⟩ F3 N3
    exact ⟨a, t, ul, uvs, rfl, ⟨_, (N3 _ (tlm _ ha)).1, rfl, _, rfl⟩, hul.src tlm, hi⟩
  case src2 =>
    rintro r t₁ ul I oI C oC D2 ys m₂ h3 tk3 pre E' hC hp1 hp2 F3 N3
    clear F N
    ktr_unf
    exact Stop.mk ⟨rfl, _, _, rfl, F3, N3⟩
  case el =>
    rintro r u tu t₁ I2 oI2 I oI C oC D2 ys m₂ h3 tk3 pre E' hC hp1 hp2 F3 N3
    clear F N
    ktr_unf
    rename Fr _ _ _ _ => F4
    rename News _ _ _ _ => N4
    rename _ ∧ _ => l4
    exact Stop.mk ⟨_, _, _, _, rfl, F4, N4, ⟨by omega, by omega, by omega, by omega⟩, rfl, _, _, rfl⟩
  case fin =>
    intro D2 C h3 tk3 m' ys pre F3 N3 o3 hC C0 CL CD offC hys hpre
    clear F N
    refine post_eval F3 N3 hC C0 CL CD offC (fun h4 tk4 F4 N4 => ?_)
    clear F3 N3
    simp only [List.cons_append] at N4
    ktr_unf
    have tlm4 : ∀ p ∈ tl, p ∈ ((D2, lst ys) :: (T1, tupOf [.int tp tt1, .ref D1]) :: (D1, lst ys1) :: (K, listOf kits kn) :: (b, instObj 170 d) :: (d, dictOf (boxEs w.params k nm vl (.int nu tn) (.int tp tt) (.int fl tf) (.ref l) (.ref g)) 7) :: (l, listOf its n₀) :: (tl ++ pre)) :=
      fun p hp => .tail _ (.tail _ (.tail _ (.tail _ (.tail _ (.tail _ (.tail _ (List.mem_append_left _ hp)))))))
    refine Stop.mk ?_
    refine ne_lists (R := PairM tl) (R' := fun z q => ∃ t o, (t, o) ∈ pre ∧ z = Value.ref t ∧ ∃ t1 t2, o = tupOf [Value.int q.fst t1, Value.int q.snd t2]) (vs := gvs) (vs' := ys.toArray) (as := flatR kept) (hg.at N4 tlm4) ⟨_, (N4 _ (.head _)).1, rfl, _, rfl⟩ (Nat.le_of_ble_eq_true rfl) hgp (by simpa using hys) ?he ?_
    case he =>
      rintro v v' q ⟨a, t1, t2, rfl, ha⟩ ⟨t, o, ho, rfl, t3, t4, rfl⟩
      exact pair_same (N4 _ (tlm4 _ ha)).1 (N4 _ (.tail _ (.tail _ (.tail _ (.tail _ (.tail _ (.tail _ (.tail _ (List.mem_append_right _ ho)))))))) ).1 (Nat.le_of_ble_eq_true rfl)
    have N6 : News base L _ ((T1, tupOf [.int tp tt1, .ref D1]) :: (D1, lst ys1) :: (K, listOf kits kn) :: (b, instObj 170 d) :: (d, dictOf (boxEs w.params k nm vl (.int nu tn) (.int tp tt) (.int fl tf) (.ref l) (.ref g)) 7) :: (l, listOf its n₀) :: tl) :=
      fun p hp => N4 p (.tail _ (List.mem_append_left pre hp))
    clear N4 tlm4
    ktr_unf
    refine compU_new (LetM w.params tl) (fun t o y a => y = .ref t ∧ o = tupOf a) rfl F4 N6 (.inr ⟨_, .tail _ (.tail _ (.tail _ (.tail _ (.tail _ (.head _))))), rfl, _, rfl⟩) hls (by omega) ?el2 ?fin2
    case el2 =>
      rintro v a I oI C oC D3 ys m₂ h3 tk3 pre E' ⟨x, dx, k0, k1, k2, k3, k4, uv, oc, fv, ins, md, rfl, hx, hdx, rfl, g1, g2, g3, g4, g5⟩ hC hp F3 N3
      clear F4 N6
      have NI := N3 (I, oI) (.head _)
      have NC := N3 (C, oC) (.tail _ (.head _))
      have ND := N3 (D3, lst ys) (.tail _ (.tail _ (.head _)))
      have N4 := news_pick N3 (.tail _ (.tail _ (.tail _ (List.mem_append_left _ (tlm _ hx))))) (news_pick N3 (.tail _ (.tail _ (.tail _ (List.mem_append_left _ (tlm _ hdx))))) N3)
      clear N3
      ktr_unf
      refine Stop.mk ?_
      rename Fr _ _ _ _ => F5
      rename News _ _ _ _ => N5
      refine told_K B F5 N5 rfl rfl rfl X T rfl (by k_room) (N5 _ (.head _)).1 (N5 _ (.tail _ (.head _))).1 g1 g2 g3 g4 g5 (fun h6 tk6 r F6 N6 st6 hn6 => ?_)
      clear F5 N5
      ktr_unf
      rename Fr _ _ _ _ => F7
      rename News _ _ _ _ => N7
      refine Stop.mk ⟨_, _, r, _, rfl, F7, news_pick N7 (.head _) (fun p hp => N7 p (.tail _ (.tail _ (.tail _ hp)))), ⟨fun e => ?_, fun e => ?_, fun e => ?_⟩, rfl, rfl⟩
      · have := NI.1; rw [show I = r from e.symm] at this; exact absurd (hn6.symm.trans this) (by simp)
      · have := NC.1; rw [show C = r from e.symm] at this; exact absurd (hn6.symm.trans this) (by simp)
      · have := ND.1; rw [show D3 = r from e.symm] at this; exact absurd (hn6.symm.trans this) (by simp)
    case fin2 =>
      intro g5 ys5 pre5 hys5 hpre5
      clear F4 N6
      ktr_unf
      refine Stop.mk ?_
      rename Fr _ _ _ _ => F5
      rename News _ _ _ _ => N5
      refine ne_told (vs := ys5.toArray) (vs' := ys1.toArray) (as := as) (N5 _ (.head _)).1 (N5 _ (.tail _ (.tail _ (.head _)))).1 ⟨_, (N5 _ (.tail _ (.head _))).1, rfl, _, rfl⟩ ⟨_, (N5 _ (.tail _ (.tail _ (.tail _ (.head _))))).1, rfl, _, rfl⟩ (Nat.le_of_ble_eq_true rfl) (Nat.le_of_ble_eq_true rfl) (Nat.le_of_ble_eq_true rfl) ?r1 ?r2 ?_
      case r1 =>
        refine (show All2 _ ys5 as from hys5.mono ?_)
        rintro v a ⟨t, o, hm, rfl, rfl⟩
        exact ⟨t, rfl, (N5 _ (.tail _ (.tail _ (.tail _ (.tail _ (.tail _ (.tail _ (.tail _ (.tail _ (List.mem_append_right _ hm)))))))))).1⟩
      case r2 =>
        refine (show All2 _ ys1 as from h1.mono ?_)
        rintro v a ⟨x, rfl, hm⟩
        exact ⟨x, rfl, (N5 _ (.tail _ (.tail _ (.tail _ (.tail _ (.tail _ (.tail _ (.tail _ (.tail _ (List.mem_append_left _ hm)))))))))).1⟩
      ktr_unf
      rename Fr _ _ _ _ => F9
      rename News _ _ _ _ => N9
      rw [← over3 hm1 hm2 hm3] at F9
      exact h _ _ F9 fun p hp => N9 p (.tail _ (.tail _ (List.mem_append_left pre5 hp)))
end PartMI2

section PartMI3
theorem offMI3 : True := by
  w_top off
  trivial
open PySem PySem.W PyProof.Rows PySem.Calls PyProof.Rows.LCg
-- ktr_unf: walk on; ktr_rel: enter a plain def by its contract; ktr_units: fill the kept part; tb_start: enter a def with cells
-- end of header
-- header two
-- extra
local macro_rules | `(tactic| walk_at "subscriptTail Name Slice ref ref") => `(tactic| (k_here; (with_reducible show wpAny _ _ (subscriptTail _ (PySem.Expr.Slice _ _ none _) (Value.ref _) (Value.ref _)) _ _ _); k_dflt (refine' kmk_slice ?F ?N ?l ?p ?q ?_ ?s ?t ?z; (case F => k_asm); (case N => k_asm); (case l => exact News.isList (by k_asm) (by k_mem)); (case p => kmk_part); (case q => kmk_part); (case s => with_unfolding_all rfl); (case t => kmk_pure); (case z => (rw [sizeLine_eq]; omega))); intro D' h' F' N' l1; (try k_lt l1); (try k_sweep)))
set_option maxRecDepth 100000 in
set_option maxHeartbeats 4000000 in
theorem if3 {prog : Program} {w : World} {s : Shared} {base : Heap} {mean : ExcName → Option Value} {mg mb : Str → Option Value} {L fa rl K : Addr} {cd : Value} {most : Int} {tm : Tok} {kits rits : Array Value} {kn rn : Nat}
    {kept rs : List (Int × List Int)} {m : Str → Option Value} {tl : List (Addr × Obj)} {Q : Flow → Shared → Prop}
    (B : Below callerA base [] base) (X : (hd.heap_39 w.params).In base) (T : TopG mean mg mb base)
    (hm1 : m (Str.ofString "rounds") = some (.ref rl)) (hm2 : m (Str.ofString "kept") = some (.ref K)) (hm3 : m (Str.ofString "most") = some (.int most tm)) (F : Fr base L s.heap m)
    (N : News base L s.heap ((K, listOf kits kn) :: (rl, listOf rits rn) :: tl))
    (hk : kits.size = kept.length) (hr : All2 (RoundM tl) rits.toList rs) (hr8 : rs.length ≤ 8) (hk8 : kept.length ≤ 8) (hr4 : ∀ r ∈ rs, r.2.length ≤ 4)
    (tight : kept.length < rs.length → ∃ q, rs.drop (rs.length - kept.length - 1) = q :: kept ∧ most < lenR (q :: kept))
    (h : ∀ h' tk, Fr base L h' m → News base L h' ((K, listOf kits kn) :: (rl, listOf rits rn) :: tl) → Q .next { s with heap := h', toks := tk }) :
    wpAny (model prog w) (callerA.deeper (lawEnv L fa cd)) (exec (stAt 7) (lawEnv L fa cd)) Q (fun _ _ => False) s := by
  ktr_units
  dsimp only [stAt, body2, lawEnv, lawScope, lawBody, forBody, PySem.Challenge.pw_or0040_01, List.getLast?, List.getLast, List.getElem?_cons_succ, List.getElem?_cons_zero, List.length_cons, List.length_nil]
  rw [over3 hm1 hm2 hm3] at F
  have hrl := hr.length
  simp only [Array.length_toList] at hrl
  ktr_unf
  · rename Fr _ _ _ _ => F1
    rename News _ _ _ _ => N1
    have hlt : kept.length < rs.length := by omega
    obtain ⟨q, hq, hm⟩ := tight hlt
    have e1 : (slicePick rits (some ((rs.length : Int) - (kept.length : Int) - 1)) none none).toList = rits.toList.drop (rs.length - kept.length - 1) := by
      rw [pick_from (by omega)]
      congr 1
      omega
    have hr1 := hr.drop (rs.length - kept.length - 1)
    rw [hq, ← e1] at hr1
    have h41 : ∀ r ∈ q :: kept, r.2.length ≤ 4 := fun r hr => hr4 r (List.mem_of_mem_drop (hq ▸ hr))
    have hsz1 := hr1.length
    simp only [Array.length_toList, List.length_cons] at hsz1
    refine compP_ints (fun v r => RoundM tl v r ∧ r.2.length ≤ 4) (fun r v₁ v₂ => ∃ t ul uvs, v₁ = .int r.1 t ∧ v₂ = .ref ul ∧ LM tl ul (List.toArray uvs) ∧ IntsAre uvs r.2 ∧ r.2.length ≤ 4) (fun r => (r.2.length : Int)) rfl F1 N1 (.inr ⟨_, .head _, rfl, _, rfl⟩) (hr1.with h41) (by omega) ?src ?el ?fin
    case src =>
      rintro v r ⟨⟨a, t, ul, uvs, rfl, ha, hl, hi⟩, h40⟩
      exact ⟨a, _, _, rfl, .tail _ (.tail _ (.tail _ ha)), t, ul, uvs, rfl, rfl, hl, hi, h40⟩
    case el =>
      rintro r v₁ v₂ I oI C oC D ys m₂ h3 tk3 E' ⟨t, ul, uvs, rfl, rfl, hl, hi, h100⟩ hC hp1 hp2 F3 N3
      clear F1 N1
      have e9 := hi.length
      have hl3 := hl.at N3 (fun p hp => .tail _ (.tail _ (.tail _ (.tail _ (.tail _ (.tail _ hp))))))
      ktr_unf
      exact Stop.mk ⟨_, _, _, rfl, rfl, F3, N3⟩
    case fin =>
      intro g5 ys5 hys5
      clear F1 N1
      have hm' : most < (List.map (fun r : Int × List Int => (r.2.length : Int)) (q :: kept)).sum := hm
      ktr_unf
      rename Fr _ _ _ _ => F8
      rename News _ _ _ _ => N8
      rw [← over3 hm1 hm2 hm3] at F8
      exact h _ _ F8 fun p hp => N8 p (.tail _ (.tail _ hp))
  · rename Fr _ _ _ _ => F1
    rename News _ _ _ _ => N1
    rw [← over3 hm1 hm2 hm3] at F1
    exact h _ _ F1 N1
end PartMI3

section PartML4
theorem offML4 : True := by
  w_top off
  trivial
open PySem PySem.W PyProof.Rows PySem.Calls PyProof.Rows.LCg
-- ktr_unf: walk on; ktr_rel: enter a plain def by its contract; ktr_units: fill the kept part; tb_start: enter a def with cells
-- end of header
-- header two
-- extra
local macro_rules | `(tactic| walk_at "exec While") => `(tactic| (k_here; refine Stop.out ?_))
local macro_rules | `(tactic| walk_at "exec While Compare") => `(tactic| (k_here; refine Stop.out ?_))
local macro_rules | `(tactic| walk_at "exec If") => `(tactic| (k_here; (with_reducible show wpAny _ _ (exec (Stmt.If (PySem.Expr.BoolOp _ (PySem.Expr.Compare (PySem.Expr.Attribute _ _ _) _ _ _ :: _) _) _ _ _) _) _ _ _); refine Stop.out ?_))
local macro_rules | `(tactic| walk_at "exec If") => `(tactic| (k_here; (with_reducible show wpAny _ _ (exec (Stmt.If (PySem.Expr.BoolOp _ (PySem.Expr.Compare _ (CmpOp.Lt :: _) _ _ :: _) _) _ _ _) _) _ _ _); refine Stop.out ?_))
set_option maxRecDepth 100000 in
set_option maxHeartbeats 4000000 in
theorem turn2 {prog : Program} {w : World} {s : Shared} {base gr : Heap} {mean : ExcName → Option Value} {mg mb : Str → Option Value} {L fa b d rl : Addr} {cd : Value} {k : Nat → Tok} {nm vl : Value} {c : Int} {tc : Tok}
    {m : Str → Option Value} {mu own : List (Addr × Obj)} {Q : Flow → Shared → Prop}
    (B : Below callerA base [] base) (X : (hd.heap_39 w.params).In base) (T : TopG mean mg mb base)
    (hm1 : m (Str.ofString "cell") = some (.int c tc)) (hm2 : m (Str.ofString "box") = some (.ref b)) (hm3 : m (Str.ofString "rounds") = some (.ref rl))
    (F : Fr base L s.heap m) (D : Led base L s.heap mu own gr) (hst : LawSt2 w.params b d rl k nm vl mu gr)
    (h : ∀ h' tk m' mu' gr' rl', m' (Str.ofString "box") = some (.ref b) → m' (Str.ofString "rounds") = some (.ref rl') → Fr base L h' m' → Led base L h' mu' own gr' → LawSt2 w.params b d rl' k nm vl mu' gr' →
      Q .next { s with heap := h', toks := tk }) :
    wpAny (model prog w) (callerA.deeper (lawEnv L fa cd)) (execs body2 (lawEnv L fa cd)) Q (fun _ _ => False) s := by
  obtain ⟨nu, tp, fl, tn, tt, tf, l, gl, its, gits, rits, n₀, rn, us, ps, rs, rfl, hls, hG, hps, hrs, hrl, hN, hul, hrsl⟩ := hst
  have hpl := hN.len
  have hgit := hps.length
  have hrit := hrs.length
  simp only [Array.length_toList] at hgit hrit
  ktr_units
  dsimp only [body2, lawEnv, lawScope, lawBody, forBody, PySem.Challenge.pw_or0040_01, List.getLast?, List.getLast, List.getElem?_cons_succ, List.getElem?_cons_zero, List.length_cons, List.length_nil]
  rw [over3 hm1 hm2 hm3] at F
  have N := D.news
  simp only [List.cons_append, List.nil_append] at N
  have hmost : 0 ≤ c.fmod 13 := by
    rw [Int.fmod_eq_emod_of_nonneg c (show (0 : Int) ≤ 13 by decide)]; omega
  obtain ⟨hK, hN'⟩ := keeps hN hmost
  generalize hkd : (wkeep (c.fmod 13) rs fl).1 = kept at hK hN'
  generalize hfd : (wkeep (c.fmod 13) rs fl).2 = fl' at hK hN'
  ktr_unf
  refine Stop.mk ?_
  refine whl_start 1 ?_
  rename Fr _ _ _ _ => F1
  rename News _ _ _ _ => N1
  rename _ ∧ _ => l1
  clear l1
  rename _ ∧ _ => l0
  obtain ⟨x1, x2, x3, x4, xA⟩ := l0
  have Nw := news_pick N1 (.tail _ (.head _)) (fun p hp => N1 p (.tail _ (.tail _ hp)))
  refine' while_all (gr := gr) (h₀ := s.heap) B X T hmost D.S ?htl rs _ _ _ _ _ fl _ _ _ hrsl (fun r hr => (hN.ne r hr).2) F1 Nw hrs ?m1 ?m2 ?m3 ?m4 ?off ?done
  case htl => exact fun p hp => .tail _ (.tail _ (.tail _ (.tail _ (List.mem_append.mpr (.inr hp)))))
  case m1 => with_unfolding_all rfl
  case m2 => with_unfolding_all rfl
  case m3 => with_unfolding_all rfl
  case m4 => with_unfolding_all rfl
  case off =>
    intro p hp
    rcases List.mem_cons.mp hp with rfl | hp
    · exact Nat.ne_of_lt x1
    rcases List.mem_cons.mp hp with rfl | hp
    · exact Nat.ne_of_lt x2
    rcases List.mem_cons.mp hp with rfl | hp
    · exact Nat.ne_of_lt x3
    rcases List.mem_cons.mp hp with rfl | hp
    · exact Nat.ne_of_lt x4
    · exact Nat.ne_of_lt (tb_ltOf xA p hp)
  case done =>
    intro h2 tk2 K kits kn tW tF m2 hm2' F2 N2 hoK hks q1 q2 q3
    rw [hkd] at hks q2
    rw [hfd] at q3
    clear F1 N1 Nw
    have r1 : m2 (Str.ofString "most") = some (.int (c.fmod 13) _) := (hm2' _ (by decide) (by decide) (by decide)).trans (by with_unfolding_all rfl)
    have r2 : m2 (Str.ofString "box") = some (.ref b) := (hm2' _ (by decide) (by decide) (by decide)).trans (by with_unfolding_all rfl)
    have r3 : m2 (Str.ofString "rounds") = some (.ref rl) := (hm2' _ (by decide) (by decide) (by decide)).trans (by with_unfolding_all rfl)
    clear hm2'
    rw [over6 r1 q1 q2 q3 r2 r3] at F2
    have hll := hls.length
    simp only [Array.length_toList] at hll
    obtain ⟨as, has⟩ := told_vals hls
    ktr_unf
    refine compU_new (LetT w.params gr) (fun t o y a => y = .ref t ∧ o = tupOf a) rfl F2 N2 (.inr ⟨_, .tail _ (.tail _ (.tail _ (.head _))), rfl, _, rfl⟩) has (by omega) ?el ?fin
    case el =>
      rintro v a I oI C oC D3 ys m₂ h3 tk3 pre E' ⟨x, dx, k0, k1, k2, k3, k4, uv, oc, fv, ins, md, rfl, hx, hdx, rfl, g1, g2, g3, g4, g5⟩ hC hp F3 N3
      clear F2 N2
      have NI := N3 (I, oI) (.head _)
      have NC := N3 (C, oC) (.tail _ (.head _))
      have ND := N3 (D3, lst ys) (.tail _ (.tail _ (.head _)))
      have tlm : ∀ p ∈ restOf base gr, p ∈ ((I, oI) :: (C, oC) :: (D3, lst ys) :: (((K, listOf kits kn) :: (b, instObj 170 d) :: (d, dictOf (boxEs w.params k nm vl (.int nu tn) (.int tp tt) (.int fl tf) (.ref l) (.ref gl)) 7) :: (l, listOf its n₀) :: (rl, listOf rits rn) :: (own ++ restOf base gr)) ++ pre)) := fun p hp => by simp [hp]
      have N4 := news_pick N3 (tlm _ (D.S.mem hx)) (news_pick N3 (tlm _ (D.S.mem hdx)) N3)
      have hx3 := (N4 _ (.head _)).1
      have hdx3 := (N4 _ (.tail _ (.head _))).1
      clear N3
      ktr_unf
      refine Stop.mk ?_
      rename Fr _ _ _ _ => F5
      rename News _ _ _ _ => N5
      refine told_K B F5 N5 rfl rfl rfl X T rfl (by k_room) (N5 _ (.head _)).1 (N5 _ (.tail _ (.head _))).1 g1 g2 g3 g4 g5 (fun h6 tk6 r F6 N6 st6 hn6 => ?_)
      clear F5 N5
      ktr_unf
      rename Fr _ _ _ _ => F7
      rename News _ _ _ _ => N7
      refine Stop.mk ⟨_, _, r, _, rfl, F7, news_pick N7 (.head _) (fun p hp => N7 p (.tail _ (.tail _ (.tail _ hp)))), ⟨fun e => ?_, fun e => ?_, fun e => ?_⟩, rfl, rfl⟩
      · have := NI.1; rw [show I = r from e.symm] at this; exact absurd (hn6.symm.trans this) (by simp)
      · have := NC.1; rw [show C = r from e.symm] at this; exact absurd (hn6.symm.trans this) (by simp)
      · have := ND.1; rw [show D3 = r from e.symm] at this; exact absurd (hn6.symm.trans this) (by simp)
    case fin =>
      intro g5 ys5 pre5 hys5 hpre5
      clear F2 N2
      ktr_unf
      refine Stop.mk ?_
      rename Fr _ _ _ _ => F5
      rename News _ _ _ _ => N5
      have hdb : @Ne Nat d b := ne_of_objs N5 (h1 := by k_mem) (h2 := by k_mem) (by simp [dictOf])
      have S5 := D.S.ofNews (fun p hp => N5 p (by repeat (first | exact List.mem_append_left _ (List.mem_append_right _ hp) | refine List.Mem.tail _ ?_)))
      have hord : ∀ p ∈ ps, fl < p.2 ∧ p.2 ≤ tp := fun p hp => by
        rw [hN.eq] at hp
        obtain ⟨r, hr, e⟩ := flat_mem hp
        rw [e]; exact hN.top r hr
      have lps : (ps.length : Int) = lenR rs := by rw [lenR_flat, hN.eq]
      have lkp : ((flatR kept).length : Int) = lenR kept := (lenR_flat kept).symm
      have hfew := hK.few
      refine forget_K (tl := (_, tupOf [.int tp tt, .ref _]) :: (_, lst ys5) :: (K, listOf kits kn) :: (l, listOf its n₀) :: (rl, listOf rits rn) :: ((own ++ restOf base gr) ++ pre5)) B F5
        (news_pick N5 (by k_mem) (news_pick N5 (by k_mem) (news_pick N5 (.head _) (news_pick N5 (.tail _ (.head _)) (news_pick N5 (.tail _ (.tail _ (.head _))) (news_pick N5 (by k_mem) (news_pick N5 (by k_mem) (fun p hp => N5 p (by repeat (first | exact hp | refine List.Mem.tail _ ?_))))))))))
        rfl rfl rfl X T rfl hdb ?hoff (stays_list S5.st hG) (hps.mono fun _ _ z => z.mono S5.st) (by omega) hmost hord ?h0 ?h1
      case hoff =>
        intro p hp
        rcases List.mem_cons.mp hp with rfl | hp
        · exact off_bd N5 (by k_mem) (by k_mem) (.head _) (.inr rfl)
        rcases List.mem_cons.mp hp with rfl | hp
        · exact off_bd N5 (by k_mem) (by k_mem) (.tail _ (.head _)) (.inl rfl)
        rcases List.mem_cons.mp hp with rfl | hp
        · exact off_bd N5 (by k_mem) (by k_mem) (.tail _ (.tail _ (.head _))) (.inl rfl)
        rcases List.mem_cons.mp hp with rfl | hp
        · exact off_bd N5 (by k_mem) (by k_mem) (p := (l, listOf its n₀)) (by k_mem) (.inl rfl)
        rcases List.mem_cons.mp hp with rfl | hp
        · exact off_bd N5 (by k_mem) (by k_mem) (p := (rl, listOf rits rn)) (by k_mem) (.inl rfl)
        rcases List.mem_append.mp hp with hp | hp
        · exact ⟨D.off p hp (b, instObj 170 d) (by simp), D.off p hp _ (.tail _ (.head _))⟩
        · obtain ⟨y, a, e1, e2⟩ := hpre5 p hp
          exact off_bd N5 (by k_mem) (by k_mem) (p := p) (by repeat (first | exact List.mem_append_right _ hp | refine List.Mem.tail _ ?_)) (.inr (by rw [e2]))
      case h0 =>
        intro hle h6 tk6 t6 F6 N6
        clear F5 N5
        have hN0 := hN
        have htight := hK.tight
        obtain ⟨hkr, hfr⟩ := hK.same hle
        have hw0 : lenR rs = lenR kept := by rw [hkr]
        subst hfr
        ktr_unf
        all_goals (try (exfalso; omega))
        refine Stop.mk ?_
        rename Fr _ _ _ _ => F7
        rename News _ _ _ _ => N7
        have hTL : ∀ p ∈ restOf base gr, p ∈ ((rl, listOf rits rn) :: ((own ++ restOf base gr) ++ pre5) : List (Addr × Obj)) := fun p hp => .tail _ (List.mem_append_left _ (List.mem_append_right _ hp))
        have Nc := news_pick N7 (.tail _ (.tail _ (.head _))) (news_pick N7 (.tail _ (.tail _ (.tail _ (.head _)))) (news_pick N7 (.tail _ (.tail _ (.tail _ (.tail _ (.head _))))) (news_pick N7 (.head _) (news_pick N7 (.tail _ (.head _)) (news_pick N7 (.tail _ (.tail _ (.tail _ (.tail _ (.tail _ (.head _)))))) (fun p hp => N7 p (.tail _ (.tail _ (.tail _ (.tail _ (.tail _ (.tail _ (hp)))))))))))))
        have hkM : All2 (RoundM ((rl, listOf rits rn) :: ((own ++ restOf base gr) ++ pre5) : List (Addr × Obj))) kits.toList kept := hks.mono fun _ _ z => z.led D.S hTL
        have hkl := hks.length
        simp only [Array.length_toList] at hkl
        have hk4 : ∀ r ∈ kept, r.2.length ≤ 4 := fun r hr => (hN'.ne r hr).2
        have hk8 : kept.length ≤ 8 := by obtain ⟨pr0, hpr0⟩ := hK.suf; have := congrArg List.length hpr0; rw [List.length_append] at this; omega
        have hgM : LM ((rl, listOf rits rn) :: ((own ++ restOf base gr) ++ pre5) : List (Addr × Obj)) gl gits := by obtain ⟨o, ho, hc, n, hd⟩ := hG; exact ⟨o, hTL _ (D.S.mem ho), hc, n, hd⟩
        have hpsk : ps = flatR kept := by rw [hkr]; exact hN.eq
        have hgp : All2 (PairM ((rl, listOf rits rn) :: ((own ++ restOf base gr) ++ pre5) : List (Addr × Obj))) gits.toList (flatR kept) := by rw [← hpsk]; exact hps.mono fun _ _ z => z.led D.S hTL
        have hlM : All2 (LetM w.params ((rl, listOf rits rn) :: ((own ++ restOf base gr) ++ pre5) : List (Addr × Obj))) its.toList as := has.mono fun _ _ z => z.led D.S hTL
        have htM : All2 (ToldM ((rl, listOf rits rn) :: ((own ++ restOf base gr) ++ pre5) : List (Addr × Obj))) ys5 as := hys5.mono fun _ _ ⟨t, o, hm, e1, e2⟩ => ⟨t, e1, e2 ▸ .tail _ (List.mem_append_right _ (hm))⟩
        show wpAny _ _ (exec (stAt 6) (lawEnv L fa cd)) _ _ _
        refine if2 (kept := kept) (as := as) B X T ?m1va ?m2va ?m3va F7 Nc hkM hk8 hk4 hgM hgp hlM (by omega) htM ?_
        case m1va => with_unfolding_all rfl
        case m2va => with_unfolding_all rfl
        case m3va => with_unfolding_all rfl
        intro h8 tk8 F8 N8
        clear F7 N7 Nc
        ktr_unf
        refine Stop.mk ?_
        have N9 := news_pick N8 (.tail _ (.tail _ (.head _))) (news_pick N8 (.tail _ (.tail _ (.tail _ (.tail _ (.tail _ (.tail _ (.head _))))))) N8)
        show wpAny _ _ (exec (stAt 7) (lawEnv L fa cd)) _ _ _
        refine if3 (tm := s.toks + 1) (kept := kept) (rs := rs) (most := c.fmod 13) B X T ?n1va ?n2va ?n3va F8 N9 (by omega) (hrs.mono fun _ _ z => z.led D.S (fun p hp => .tail _ (.tail _ (.tail _ (.tail _ (.tail _ (.tail _ (hTL p hp)))))))) hrsl hk8 (fun r hr => (hN0.ne r hr).2) htight ?_
        case n1va => with_unfolding_all rfl
        case n2va => with_unfolding_all rfl
        case n3va => with_unfolding_all rfl
        intro h10 tk10 F10 N10
        clear F8 N8 N9
        ktr_unf
        refine Stop.mk ?_
        rename Fr _ _ _ _ => F11
        rename News _ _ _ _ => N11
        have S11 := D.S.ofNews (fun p hp => N11 p (.tail _ (.tail _ (.tail _ (.tail _ (.tail _ (.tail _ (.tail _ (.tail _ (hTL p hp))))))))))
        have Nd := news_pick N11 (.tail _ (.tail _ (.tail _ (.tail _ (.tail _ (.head _)))))) (news_pick N11 (.tail _ (.tail _ (.tail _ (.tail _ (.tail _ (.tail _ (.head _))))))) (news_pick N11 (.tail _ (.tail _ (.tail _ (.tail _ (.tail _ (.tail _ (.tail _ (.head _)))))))) (news_pick N11 (.head _) (fun p hp => N11 p (.tail _ (.tail _ (.tail _ (.tail _ (.tail _ (.tail _ (.tail _ (.tail _ (hp)))))))))))))
        have hps11 : All2 (fun v (p : Int × Int) => PairV h10 v p.1 p.2) gits.toList (flatR kept) := hgp.mono fun _ _ ⟨a, t1, t2, e, hm⟩ => ⟨a, t1, t2, e, (N11 _ (.tail _ (.tail _ (.tail _ (.tail _ (.tail _ (.tail _ (.tail _ (.tail _ (hm)))))))))).1⟩
        have hgl := hgp.length
        simp only [Array.length_toList] at hgl
        have hoff : ∀ p ∈ ((l, listOf its n₀) :: (K, listOf kits kn) :: (rl, listOf rits rn) :: ((own ++ restOf base gr) ++ pre5) : List (Addr × Obj)), p.1 ≠ b ∧ p.1 ≠ d := by
          intro p hp
          have hp' := (Nd p (.tail _ (.tail _ hp)))
          have hbb := Nd _ (.head _)
          rcases List.mem_cons.mp hp with rfl | hp
          · exact off_bd Nd (.head _) (.tail _ (.head _)) (.tail _ (.tail _ (.head _))) (.inl rfl)
          rcases List.mem_cons.mp hp with rfl | hp
          · exact off_bd Nd (.head _) (.tail _ (.head _)) (.tail _ (.tail _ (.tail _ (.head _)))) (.inl rfl)
          rcases List.mem_cons.mp hp with rfl | hp
          · exact off_bd Nd (.head _) (.tail _ (.head _)) (.tail _ (.tail _ (.tail _ (.tail _ (.head _))))) (.inl rfl)
          rcases List.mem_append.mp hp with hp | hp
          · exact ⟨D.off p hp (b, instObj 170 d) (by simp), D.off p hp _ (.tail _ (.head _))⟩
          · obtain ⟨y, a, e1, e2⟩ := hpre5 p hp
            exact off_bd Nd (.head _) (.tail _ (.head _)) (p := p) (.tail _ (.tail _ (.tail _ (.tail _ (.tail _ (List.mem_append_right _ hp)))))) (.inr (by rw [e2]))
        refine forget_K (ps := flatR kept) (gits := gits) B F11 Nd rfl rfl rfl X T rfl hdb hoff (hgM.at N11 (fun p hp => .tail _ (.tail _ (.tail _ (.tail _ (.tail _ (.tail _ (.tail _ (.tail _ (hp)))))))))) hps11 (by omega) hmost (fun p hp => ?_) ?k0va ?k1va
        · obtain ⟨r, hr, e⟩ := flat_mem hp
          rw [e]; exact hN'.top r hr
        case k1va =>
          intro u2 mq2 hlt2
          exfalso; omega
        case k0va =>
          intro hle2 h12 tk12 t12 F12 N12
          clear F11 N11 Nd
          ktr_unf
          all_goals (try (exfalso; omega))
          rename Fr _ _ _ _ => F13
          rename News _ _ _ _ => N13
          have hKl : @Ne Nat K l := fun e => hoK (l, listOf its n₀) (by simp) e.symm
          obtain ⟨mu', gr', D', L'⟩ := end2 (fresh := []) (gvs := gits) D (news_pick N13 (.head _) (news_pick N13 (.tail _ (.head _)) (news_pick N13 (.tail _ (.tail _ (.head _))) (news_pick N13 (.tail _ (.tail _ (.tail _ (.head _)))) (fun p hp => N13 p (.tail _ (.tail _ (.tail _ (.tail _ (.tail _ (List.mem_append_left _ (hp)))))))))))) (fun p hp => nomatch hp)
            (fun p hp => hoK p (by simp only [List.mem_cons]; exact .inr (.inr (.inr (.inr hp))))) hKl (fun p hp => nomatch hp) hls hks hN' hul hk8 (fun gr' st' _ => ⟨stays_list st' hG, by rw [← hpsk]; exact hps.mono fun _ _ z => z.mono st'⟩)
          refine h _ _ _ mu' gr' K ?b1va ?b2va F13 D' L'
          case b1va => with_unfolding_all rfl
          case b2va => with_unfolding_all rfl
      case h1 =>
        intro u mq hlt hq h6 tk6 t6 t7 g' gvs gc prl F6 hgv hprl N6 hog
        clear F5 N5
        have hN0 := hN
        have htight := hK.tight
        obtain ⟨rfl, hfil⟩ := hK.cut u mq hlt hq
        rw [hfil] at hgv ⊢
        simp only [List.cons_append] at N6
        ktr_unf
        all_goals (try (exfalso; omega))
        refine Stop.mk ?_
        rename Fr _ _ _ _ => F7
        rename News _ _ _ _ => N7
        have hTL : ∀ p ∈ restOf base gr, p ∈ ((g', listOf gvs.toArray gc) :: (rl, listOf rits rn) :: (((own ++ restOf base gr) ++ pre5) ++ prl) : List (Addr × Obj)) := fun p hp => .tail _ (.tail _ (List.mem_append_left _ (List.mem_append_left _ (List.mem_append_right _ hp))))
        have Nc := news_pick N7 (.tail _ (.tail _ (.tail _ (.head _)))) (news_pick N7 (.tail _ (.tail _ (.tail _ (.tail _ (.head _))))) (news_pick N7 (.tail _ (.tail _ (.tail _ (.tail _ (.tail _ (.head _)))))) (news_pick N7 (.head _) (news_pick N7 (.tail _ (.head _)) (news_pick N7 (.tail _ (.tail _ (.tail _ (.tail _ (.tail _ (.tail _ (.head _))))))) (news_pick N7 (.tail _ (.tail _ (.head _))) (fun p hp => N7 p (.tail _ (.tail _ (.tail _ (.tail _ (.tail _ (.tail _ (.tail _ (hp)))))))))))))))
        have hkM : All2 (RoundM ((g', listOf gvs.toArray gc) :: (rl, listOf rits rn) :: (((own ++ restOf base gr) ++ pre5) ++ prl) : List (Addr × Obj))) kits.toList kept := hks.mono fun _ _ z => z.led D.S hTL
        have hkl := hks.length
        simp only [Array.length_toList] at hkl
        have hk4 : ∀ r ∈ kept, r.2.length ≤ 4 := fun r hr => (hN'.ne r hr).2
        have hk8 : kept.length ≤ 8 := by obtain ⟨pr0, hpr0⟩ := hK.suf; have := congrArg List.length hpr0; rw [List.length_append] at this; omega
        have hgM : LM ((g', listOf gvs.toArray gc) :: (rl, listOf rits rn) :: (((own ++ restOf base gr) ++ pre5) ++ prl) : List (Addr × Obj)) g' gvs.toArray := ⟨_, .head _, rfl, _, rfl⟩
        have hgp : All2 (PairM ((g', listOf gvs.toArray gc) :: (rl, listOf rits rn) :: (((own ++ restOf base gr) ++ pre5) ++ prl) : List (Addr × Obj))) gvs.toArray.toList (flatR kept) := (show All2 _ gvs (flatR kept) from hgv.mono fun _ _ ⟨a, t1, t2, e, hm⟩ => ⟨a, t1, t2, e, .tail _ (.tail _ (List.mem_append_right _ (hm)))⟩)
        have hlM : All2 (LetM w.params ((g', listOf gvs.toArray gc) :: (rl, listOf rits rn) :: (((own ++ restOf base gr) ++ pre5) ++ prl) : List (Addr × Obj))) its.toList as := has.mono fun _ _ z => z.led D.S hTL
        have htM : All2 (ToldM ((g', listOf gvs.toArray gc) :: (rl, listOf rits rn) :: (((own ++ restOf base gr) ++ pre5) ++ prl) : List (Addr × Obj))) ys5 as := hys5.mono fun _ _ ⟨t, o, hm, e1, e2⟩ => ⟨t, e1, e2 ▸ .tail _ (.tail _ (List.mem_append_left _ (List.mem_append_right _ (hm))))⟩
        show wpAny _ _ (exec (stAt 6) (lawEnv L fa cd)) _ _ _
        refine if2 (kept := kept) (as := as) B X T ?m1vb ?m2vb ?m3vb F7 Nc hkM hk8 hk4 hgM hgp hlM (by omega) htM ?_
        case m1vb => with_unfolding_all rfl
        case m2vb => with_unfolding_all rfl
        case m3vb => with_unfolding_all rfl
        intro h8 tk8 F8 N8
        clear F7 N7 Nc
        ktr_unf
        refine Stop.mk ?_
        have N9 := news_pick N8 (.tail _ (.tail _ (.head _))) (news_pick N8 (.tail _ (.tail _ (.tail _ (.tail _ (.tail _ (.tail _ (.tail _ (.head _)))))))) N8)
        show wpAny _ _ (exec (stAt 7) (lawEnv L fa cd)) _ _ _
        refine if3 (tm := s.toks + 1) (kept := kept) (rs := rs) (most := c.fmod 13) B X T ?n1vb ?n2vb ?n3vb F8 N9 (by omega) (hrs.mono fun _ _ z => z.led D.S (fun p hp => .tail _ (.tail _ (.tail _ (.tail _ (.tail _ (.tail _ (hTL p hp)))))))) hrsl hk8 (fun r hr => (hN0.ne r hr).2) htight ?_
        case n1vb => with_unfolding_all rfl
        case n2vb => with_unfolding_all rfl
        case n3vb => with_unfolding_all rfl
        intro h10 tk10 F10 N10
        clear F8 N8 N9
        ktr_unf
        refine Stop.mk ?_
        rename Fr _ _ _ _ => F11
        rename News _ _ _ _ => N11
        have S11 := D.S.ofNews (fun p hp => N11 p (.tail _ (.tail _ (.tail _ (.tail _ (.tail _ (.tail _ (.tail _ (.tail _ (hTL p hp))))))))))
        have Nd := news_pick N11 (.tail _ (.tail _ (.tail _ (.tail _ (.tail _ (.head _)))))) (news_pick N11 (.tail _ (.tail _ (.tail _ (.tail _ (.tail _ (.tail _ (.head _))))))) (news_pick N11 (.tail _ (.tail _ (.tail _ (.tail _ (.tail _ (.tail _ (.tail _ (.head _)))))))) (news_pick N11 (.head _) (fun p hp => N11 p (.tail _ (.tail _ (.tail _ (.tail _ (.tail _ (.tail _ (.tail _ (.tail _ (hp)))))))))))))
        have hps11 : All2 (fun v (p : Int × Int) => PairV h10 v p.1 p.2) gvs.toArray.toList (flatR kept) := hgp.mono fun _ _ ⟨a, t1, t2, e, hm⟩ => ⟨a, t1, t2, e, (N11 _ (.tail _ (.tail _ (.tail _ (.tail _ (.tail _ (.tail _ (.tail _ (.tail _ (hm)))))))))).1⟩
        have hgl := hgp.length
        simp only [Array.length_toList] at hgl
        have hoff : ∀ p ∈ ((l, listOf its n₀) :: (K, listOf kits kn) :: (g', listOf gvs.toArray gc) :: (rl, listOf rits rn) :: (((own ++ restOf base gr) ++ pre5) ++ prl) : List (Addr × Obj)), p.1 ≠ b ∧ p.1 ≠ d := by
          intro p hp
          have hp' := (Nd p (.tail _ (.tail _ hp)))
          have hbb := Nd _ (.head _)
          rcases List.mem_cons.mp hp with rfl | hp
          · exact off_bd Nd (.head _) (.tail _ (.head _)) (.tail _ (.tail _ (.head _))) (.inl rfl)
          rcases List.mem_cons.mp hp with rfl | hp
          · exact off_bd Nd (.head _) (.tail _ (.head _)) (.tail _ (.tail _ (.tail _ (.head _)))) (.inl rfl)
          rcases List.mem_cons.mp hp with rfl | hp
          · exact off_bd Nd (.head _) (.tail _ (.head _)) (.tail _ (.tail _ (.tail _ (.tail _ (.head _))))) (.inl rfl)
          rcases List.mem_cons.mp hp with rfl | hp
          · exact off_bd Nd (.head _) (.tail _ (.head _)) (.tail _ (.tail _ (.tail _ (.tail _ (.tail _ (.head _)))))) (.inl rfl)
          rcases List.mem_append.mp hp with hp | hp
          rotate_left
          · obtain ⟨vs, e⟩ := (hprl p hp).1
            exact off_bd Nd (.head _) (.tail _ (.head _)) (p := p) (.tail _ (.tail _ (.tail _ (.tail _ (.tail _ (.tail _ (List.mem_append_right _ hp))))))) (.inr (by rw [e]))
          rcases List.mem_append.mp hp with hp | hp
          · exact ⟨D.off p hp (b, instObj 170 d) (by simp), D.off p hp _ (.tail _ (.head _))⟩
          · obtain ⟨y, a, e1, e2⟩ := hpre5 p hp
            exact off_bd Nd (.head _) (.tail _ (.head _)) (p := p) (.tail _ (.tail _ (.tail _ (.tail _ (.tail _ (.tail _ (List.mem_append_left _ (List.mem_append_right _ hp)))))))) (.inr (by rw [e2]))
        refine forget_K (ps := flatR kept) (gits := gvs.toArray) B F11 Nd rfl rfl rfl X T rfl hdb hoff (hgM.at N11 (fun p hp => .tail _ (.tail _ (.tail _ (.tail _ (.tail _ (.tail _ (.tail _ (.tail _ (hp)))))))))) hps11 (by have h1 := hgv.length; have h2 := hN'.len; rw [List.size_toArray]; omega) hmost (fun p hp => ?_) ?k0vb ?k1vb
        · obtain ⟨r, hr, e⟩ := flat_mem hp
          rw [e]; exact hN'.top r hr
        case k1vb =>
          intro u2 mq2 hlt2
          exfalso; omega
        case k0vb =>
          intro hle2 h12 tk12 t12 F12 N12
          clear F11 N11 Nd
          ktr_unf
          all_goals (try (exfalso; omega))
          rename Fr _ _ _ _ => F13
          rename News _ _ _ _ => N13
          have hKl : @Ne Nat K l := fun e => hoK (l, listOf its n₀) (by simp) e.symm
          have hfr : ∀ p ∈ ((g', listOf gvs.toArray gc) :: prl), (∀ q ∈ own, q.1 ≠ p.1) ∧ ((∃ vs, p.2 = tupOf vs) ∨ ((∃ vs n, p.2 = listOf vs n) ∧ @Ne Nat p.1 l ∧ @Ne Nat p.1 K)) := by
            intro p hp
            rcases List.mem_cons.mp hp with rfl | hp
            · exact ⟨fun q hq => hog q (by simp [hq]), .inr ⟨⟨_, _, rfl⟩, fun e => hog (l, listOf its n₀) (by simp) e.symm, fun e => hog (K, listOf kits kn) (by simp) e.symm⟩⟩
            · exact ⟨fun q hq => (hprl p hp).2 q (by simp [hq]), .inl (hprl p hp).1⟩
          obtain ⟨mu', gr', D', L'⟩ := end2 (fresh := ((g', listOf gvs.toArray gc) :: prl)) (gvs := gvs.toArray) D (news_pick N13 (.head _) (news_pick N13 (.tail _ (.head _)) (news_pick N13 (.tail _ (.tail _ (.head _))) (news_pick N13 (.tail _ (.tail _ (.tail _ (.head _)))) (fun p hp => N13 p (.tail _ (.tail _ (.tail _ (.tail _ (.tail _ (.tail _ (List.mem_append_left _ (List.mem_append_left _ (hp)))))))))))))) (fun p hp => N13 p (by rcases List.mem_cons.mp hp with rfl | hp; exact .tail _ (.tail _ (.tail _ (.tail _ (.head _)))); exact .tail _ (.tail _ (.tail _ (.tail _ (.tail _ (.tail _ (List.mem_append_right _ hp))))))))
            (fun p hp => hoK p (by simp only [List.mem_cons]; exact .inr (.inr (.inr (.inr hp))))) hKl hfr hls hks hN' hul hk8 (fun gr' st' hf => ⟨⟨_, hf _ (.head _), rfl, _, rfl⟩, (show All2 _ gvs (flatR kept) from hgv.mono fun _ _ ⟨a, t1, t2, e, hm⟩ => ⟨a, t1, t2, e, hf _ (.tail _ hm)⟩)⟩)
          refine h _ _ _ mu' gr' K ?b1vb ?b2vb F13 D' L'
          case b1vb => with_unfolding_all rfl
          case b2vb => with_unfolding_all rfl
end PartML4

section PartML3
theorem offML3 : True := by
  w_top off
  trivial
open PySem PySem.W PyProof.Rows PySem.Calls PyProof.Rows.LCg
section
variable {prog : Program} {w : World} {s : Shared} {base gr : Heap} {mean : ExcName → Option Value} {mg mb : Str → Option Value} {L fa b d rl D1 : Addr} {cd : Value} {k : Nat → Tok} {nm vl : Value} {m : Str → Option Value} {mu : List (Addr × Obj)} {Q : Flow → Shared → Prop} {vs : List Value} {cs : List Int} {n1 : Nat}
set_option maxHeartbeats 800000 in
theorem loop1 {cl : Addr} {ocl : Obj}
    (B : Below callerA base [] base) (X : (hd.heap_39 w.params).In base) (T : TopG mean mg mb base)
    (hm2 : m (Str.ofString "box") = some (.ref b)) (hm3 : m (Str.ofString "rounds") = some (.ref rl)) (hm4 : m (Str.ofString "cells") = some (.ref cl))
    (F : Fr base L s.heap m) (D : Led base L s.heap mu [(D1, listOf vs.toArray n1)] gr) (hst : LawSt w.params b d rl k nm vl 0 mu gr) (hcl : gr.get? cl = some ocl) (hi : IntsAre vs cs) (h8 : vs.length ≤ 8)
    (done : ∀ h' tk m' mu' gr', m' (Str.ofString "box") = some (.ref b) → m' (Str.ofString "rounds") = some (.ref rl) → m' (Str.ofString "cells") = some (.ref cl) → Fr base L h' m' → Led base L h' mu' [] gr' → LawSt w.params b d rl k nm vl vs.length mu' gr' → gr'.get? cl = some ocl →
      Q .next { s with heap := h', toks := tk }) :
    wpAny (model prog w) (callerA.deeper (lawEnv L fa cd)) (pyIter (.ref D1)) (fun it s₂ => LoopAtV prog w (callerA.deeper (lawEnv L fa cd)) base (lawEnv L fa cd) (Str.ofString "cell") body1 Q (fun _ _ => False) it s₂) (fun _ _ => False) s := by
  have hD1 := D.own_news (D1, listOf vs.toArray n1) (.head _)
  have hl1 : s.heap.IsList D1 vs.toArray := ⟨_, hD1.1, rfl, _, rfl⟩
  refine wpAny_pyIter_list hl1 ?_
  have stp : Stay s.heap (s.heap.push { cls := .type "list_iterator", data := .fields #[.ref D1, .int 0 0] }) := fun _ _ e => Heap.get?_push_of_some _ e
  have nI : s.heap.get? s.heap.objs.size = none := by
    cases e : s.heap.get? s.heap.objs.size with
    | none => rfl
    | some o => exact absurd (Heap.lt_size e) (Nat.lt_irrefl _)
  have hne : D1 ≠ s.heap.objs.size := Nat.ne_of_lt (Heap.lt_size hD1.1)
  obtain ⟨S0, ho0, P0⟩ := D.part
  have W := Walks.list (prog := prog) (w := w) (A := callerA.deeper (lawEnv L fa cd)) rfl s.heap.objs.size D1 hne vs.toArray
  have W' : Walks prog w (callerA.deeper (lawEnv L fa cd)) s.heap.objs.size [s.heap.objs.size, D1] [s.heap.objs.size] vs.length (fun i v => vs.toArray[i]? = some v) (fun i h => h.IsListIter s.heap.objs.size D1 i ∧ h.IsList D1 vs.toArray) := by
    have e : vs.toArray.size = vs.length := List.size_toArray ..
    rw [e] at W; exact W
  refine loopAt_heap (n := vs.length) (m₀ := m) (keep := []) (g₀ := newPart base L s.heap ([(D1, listOf vs.toArray n1)].map (·.1)))
    (fun i m' g => m' (Str.ofString "box") = some (.ref b) ∧ m' (Str.ofString "rounds") = some (.ref rl) ∧ m' (Str.ofString "cells") = some (.ref cl) ∧ ∃ mu gr, Part mu gr g ∧ LawSt w.params b d rl k nm vl i mu gr ∧ gr.get? cl = some ocl)
    W' ?hLf (next_is_new F) ⟨⟨_, Heap.get?_push_size _ rfl, rfl, rfl⟩, hl1.at fun o e => stp _ _ e⟩ (F.push _) (fun p hp => nomatch hp) (fun p hp => nomatch hp)
    ⟨S0.st.trans stp, S0.hL, S0.nb⟩ ?hg0 (fun p hp => nomatch hp) ⟨hm2, hm3, hm4, mu, gr, P0, hst, hcl⟩ (List.mem_cons_self ..) ?hlive ?turn ?done
  case hLf =>
    intro hm
    rcases List.mem_cons.mp hm with e | hm
    · exact absurd F.ns.lt (e ▸ Nat.lt_irrefl _)
    · exact hD1.2.1 (List.mem_singleton.mp hm).symm
  case hg0 =>
    intro a ha
    rcases List.mem_cons.mp ha with rfl | ha
    · cases e : (newPart base L s.heap ([(D1, listOf vs.toArray n1)].map (·.1))).get? s.heap.objs.size with
      | none => rfl
      | some o => have := S0.st _ _ e; rw [nI] at this; cases this
    · rw [List.mem_singleton.mp ha]
      exact ho0 _ (.head _)
  case hlive =>
    rintro i h ⟨⟨o, e, _⟩, ⟨o', e', _⟩⟩ a ha
    rcases List.mem_cons.mp ha with rfl | ha
    · exact ⟨o, e⟩
    · rw [List.mem_singleton.mp ha]; exact ⟨o', e'⟩
  case turn =>
    rintro i v m₁ g h tk own' hin hv ⟨q1, q2, q3, mu', gr', P, hst', hcl'⟩ S ho N F₁
    obtain ⟨c, t, hc, rfl⟩ := ints_get hi (j := i) (v := v) (by simpa using hv)
    have D' := P.led S ho N
    refine turn1 B X T (m := fun y => if y = Str.ofString "cell" then some (.int c t) else m₁ y) (if_pos rfl) ((if_neg (by decide)).trans q1) ((if_neg (by decide)).trans q2) F₁ D' (by omega) hst' ?_
    intro h' tk' m' mu2 gr2 hm' F2 D2 hst2 st2
    obtain ⟨S3, ho3, P3⟩ := D2.part
    exact .mk ⟨rfl, h', tk', m', _, rfl, F2, S3, ho3, D2.own_news, (hm' _ (by decide) (by decide)).trans ((if_neg (by decide)).trans q1), (hm' _ (by decide) (by decide)).trans ((if_neg (by decide)).trans q2), (hm' _ (by decide) (by decide)).trans ((if_neg (by decide)).trans q3), mu2, gr2, P3, hst2, st2 _ _ hcl'⟩
  case done =>
    rintro h tk m' g ⟨q1, q2, q3, mu', gr', P, hst', hcl'⟩ S ho N F'
    exact done h tk m' mu' gr' q1 q2 q3 F' (P.led S ho N) hst' hcl'

set_option maxHeartbeats 800000 in
theorem loop2
    (B : Below callerA base [] base) (X : (hd.heap_39 w.params).In base) (T : TopG mean mg mb base)
    (hm2 : m (Str.ofString "box") = some (.ref b)) (hm3 : m (Str.ofString "rounds") = some (.ref rl))
    (F : Fr base L s.heap m) (D : Led base L s.heap mu [(D1, listOf vs.toArray n1)] gr) (hst : LawSt2 w.params b d rl k nm vl mu gr) (hi : IntsAre vs cs)
    (done : ∀ h' tk m' mu' gr' rl', m' (Str.ofString "box") = some (.ref b) → m' (Str.ofString "rounds") = some (.ref rl') → Fr base L h' m' → Led base L h' mu' [] gr' → LawSt2 w.params b d rl' k nm vl mu' gr' →
      Q .next { s with heap := h', toks := tk }) :
    wpAny (model prog w) (callerA.deeper (lawEnv L fa cd)) (pyIter (.ref D1)) (fun it s₂ => LoopAtV prog w (callerA.deeper (lawEnv L fa cd)) base (lawEnv L fa cd) (Str.ofString "cell") body2 Q (fun _ _ => False) it s₂) (fun _ _ => False) s := by
  have hD1 := D.own_news (D1, listOf vs.toArray n1) (.head _)
  have hl1 : s.heap.IsList D1 vs.toArray := ⟨_, hD1.1, rfl, _, rfl⟩
  refine wpAny_pyIter_list hl1 ?_
  have stp : Stay s.heap (s.heap.push { cls := .type "list_iterator", data := .fields #[.ref D1, .int 0 0] }) := fun _ _ e => Heap.get?_push_of_some _ e
  have nI : s.heap.get? s.heap.objs.size = none := by
    cases e : s.heap.get? s.heap.objs.size with
    | none => rfl
    | some o => exact absurd (Heap.lt_size e) (Nat.lt_irrefl _)
  have hne : D1 ≠ s.heap.objs.size := Nat.ne_of_lt (Heap.lt_size hD1.1)
  obtain ⟨S0, ho0, P0⟩ := D.part
  have W := Walks.list (prog := prog) (w := w) (A := callerA.deeper (lawEnv L fa cd)) rfl s.heap.objs.size D1 hne vs.toArray
  have W' : Walks prog w (callerA.deeper (lawEnv L fa cd)) s.heap.objs.size [s.heap.objs.size, D1] [s.heap.objs.size] vs.length (fun i v => vs.toArray[i]? = some v) (fun i h => h.IsListIter s.heap.objs.size D1 i ∧ h.IsList D1 vs.toArray) := by
    have e : vs.toArray.size = vs.length := List.size_toArray ..
    rw [e] at W; exact W
  refine loopAt_heap (n := vs.length) (m₀ := m) (keep := []) (g₀ := newPart base L s.heap ([(D1, listOf vs.toArray n1)].map (·.1)))
    (fun _ m' g => m' (Str.ofString "box") = some (.ref b) ∧ ∃ rl', m' (Str.ofString "rounds") = some (.ref rl') ∧ ∃ mu gr, Part mu gr g ∧ LawSt2 w.params b d rl' k nm vl mu gr)
    W' ?hLf (next_is_new F) ⟨⟨_, Heap.get?_push_size _ rfl, rfl, rfl⟩, hl1.at fun o e => stp _ _ e⟩ (F.push _) (fun p hp => nomatch hp) (fun p hp => nomatch hp)
    ⟨S0.st.trans stp, S0.hL, S0.nb⟩ ?hg0 (fun p hp => nomatch hp) ⟨hm2, rl, hm3, mu, gr, P0, hst⟩ (List.mem_cons_self ..) ?hlive ?turn ?done
  case hLf =>
    intro hm
    rcases List.mem_cons.mp hm with e | hm
    · exact absurd F.ns.lt (e ▸ Nat.lt_irrefl _)
    · exact hD1.2.1 (List.mem_singleton.mp hm).symm
  case hg0 =>
    intro a ha
    rcases List.mem_cons.mp ha with rfl | ha
    · cases e : (newPart base L s.heap ([(D1, listOf vs.toArray n1)].map (·.1))).get? s.heap.objs.size with
      | none => rfl
      | some o => have := S0.st _ _ e; rw [nI] at this; cases this
    · rw [List.mem_singleton.mp ha]
      exact ho0 _ (.head _)
  case hlive =>
    rintro i h ⟨⟨o, e, _⟩, ⟨o', e', _⟩⟩ a ha
    rcases List.mem_cons.mp ha with rfl | ha
    · exact ⟨o, e⟩
    · rw [List.mem_singleton.mp ha]; exact ⟨o', e'⟩
  case turn =>
    rintro i v m₁ g h tk own' hin hv ⟨q1, rl', q2, mu', gr', P, hst'⟩ S ho N F₁
    obtain ⟨c, t, hc, rfl⟩ := ints_get hi (j := i) (v := v) (by simpa using hv)
    have D' := P.led S ho N
    refine turn2 B X T (m := fun y => if y = Str.ofString "cell" then some (.int c t) else m₁ y) (if_pos rfl) ((if_neg (by decide)).trans q1) ((if_neg (by decide)).trans q2) F₁ D' hst' ?_
    intro h' tk' m' mu2 gr2 rl2 r1 r2 F2 D2 hst2
    obtain ⟨S3, ho3, P3⟩ := D2.part
    exact .mk ⟨rfl, h', tk', m', _, rfl, F2, S3, ho3, D2.own_news, r1, rl2, r2, mu2, gr2, P3, hst2⟩
  case done =>
    rintro h tk m' g ⟨q1, rl', q2, mu', gr', P, hst'⟩ S ho N F'
    exact done h tk m' mu' gr' rl' q1 q2 F' (P.led S ho N) hst'
end
end PartML3

section PartML6
theorem offML6 : True := by
  w_top off
  trivial
open PySem PySem.W PyProof.Rows PySem.Calls PyProof.Rows.LCg
def retStmt : Stmt := match lawBody[5]? with
  | some s => s
  | none => .Pass ⟨0, 0, 0, 0⟩
-- ktr_unf: walk on; ktr_rel: enter a plain def by its contract; ktr_units: fill the kept part; tb_start: enter a def with cells
-- end of header
-- header two
-- extra
local macro_rules | `(tactic| walk_at "compareOp Eq ref ref") => `(tactic| (k_here; refine Stop.out ?_))
set_option maxRecDepth 100000 in
set_option maxHeartbeats 4000000 in
theorem ret3 {prog : Program} {w : World} {s : Shared} {base gr : Heap} {mean : ExcName → Option Value} {mg mb : Str → Option Value} {L fa b d rl : Addr} {cd : Value} {k : Nat → Tok} {nm vl : Value}
    {m : Str → Option Value} {mu : List (Addr × Obj)} {Q : Flow → Shared → Prop}
    (B : Below callerA base [] base) (X : (hd.heap_39 w.params).In base) (T : TopG mean mg mb base)
    (hm1 : m (Str.ofString "box") = some (.ref b)) (hm2 : m (Str.ofString "rounds") = some (.ref rl)) (F : Fr base L s.heap m) (D : Led base L s.heap mu [] gr) (hst : LawSt2 w.params b d rl k nm vl mu gr)
    (h : ∀ h' tk m', Fr base L h' m' → Q (.ret (.bool true)) { s with heap := h', toks := tk }) :
    wpAny (model prog w) (callerA.deeper (lawEnv L fa cd)) (exec retStmt (lawEnv L fa cd)) Q (fun _ _ => False) s := by
  obtain ⟨nu, tp, fl, tn, tt, tf, l, gl, its, gits, rits, n₀, rn, us, ps, rs, rfl, hls, hG, hps, hrs, hrl, hN, hul, hrsl⟩ := hst
  have hpl := hN.len
  have hgit := hps.length
  have hrit := hrs.length
  simp only [Array.length_toList] at hgit hrit
  ktr_units
  dsimp only [retStmt, lawEnv, lawScope, lawBody, forBody, PySem.Challenge.pw_or0040_01, List.getLast?, List.getLast, List.getElem?_cons_succ, List.getElem?_cons_zero, List.length_cons, List.length_nil]
  have hmm : m = fun y => if y = Str.ofString "box" then some (.ref b) else if y = Str.ofString "rounds" then some (.ref rl) else m y := by
    funext y
    by_cases h1 : y = Str.ofString "box"
    · subst h1; rw [if_pos rfl, hm1]
    · by_cases h2 : y = Str.ofString "rounds"
      · subst h2; rw [if_neg h1, if_pos rfl, hm2]
      · rw [if_neg h1, if_neg h2]
  rw [hmm] at F
  clear hmm
  obtain ⟨hK, hN'⟩ := keeps (most := 0) hN (Int.le_refl 0)
  have N := D.news
  simp only [List.cons_append, List.nil_append] at N
  have S := D.S
  have hdb : @Ne Nat d b := ne_of_objs N (h1 := .tail _ (.head _)) (h2 := .head _) (by simp [dictOf])
  have hord : ∀ p ∈ ps, fl < p.2 ∧ p.2 ≤ tp := fun p hp => by
    rw [hN.eq] at hp
    obtain ⟨r, hr, e⟩ := flat_mem hp
    rw [e]; exact hN.top r hr
  have lps : (ps.length : Int) = lenR rs := by rw [lenR_flat, hN.eq]
  have hoff : ∀ p ∈ ((l, listOf its n₀) :: (rl, listOf rits rn) :: restOf base gr), p.1 ≠ b ∧ p.1 ≠ d := by
    intro p hp
    rcases List.mem_cons.mp hp with rfl | hp
    · exact off_bd N (.head _) (.tail _ (.head _)) (.tail _ (.tail _ (.head _))) (.inl rfl)
    rcases List.mem_cons.mp hp with rfl | hp
    · exact off_bd N (.head _) (.tail _ (.head _)) (.tail _ (.tail _ (.tail _ (.head _)))) (.inl rfl)
    · exact ⟨D.off p (List.mem_append_right _ hp) (b, instObj 170 d) (by simp), D.off p (List.mem_append_right _ hp) _ (.tail _ (.head _))⟩
  have hM : All2 (fun v r => RoundM (restOf base gr) v r ∧ r.2.length ≤ 4) rits.toList rs := All2.with (hrs.mono fun _ _ z => z.led S (fun _ hp => hp)) (fun r hr => (hN.ne r hr).2)
  ktr_unf
  refine Stop.mk ?_
  refine forget_K (ps := ps) (gits := gits) B F N rfl rfl rfl X T rfl hdb hoff (stays_list S.st hG) (hps.mono fun _ _ z => z.mono S.st) (by omega) (Int.le_refl 0) hord ?h0 ?h1
  case h0 =>
    intro hle h6 tk6 t6 F6 N6
    have hg0 : gits.toList = [] := List.eq_nil_of_length_eq_zero (by rw [Array.length_toList]; omega)
    clear F N
    ktr_unf
    rename Fr _ _ _ _ => F7
    rename News _ _ _ _ => N7
    refine compP_ints (fun v r => RoundM (restOf base gr) v r ∧ r.2.length ≤ 4) (fun r v₁ v₂ => ∃ t ul uvs, v₁ = .int r.1 t ∧ v₂ = .ref ul ∧ LM (restOf base gr) ul (List.toArray uvs) ∧ IntsAre uvs r.2 ∧ r.2.length ≤ 4) (fun r => (r.2.length : Int)) rfl F7 N7 (.inr ⟨_, .tail _ (.tail _ (.tail _ (.head _))), rfl, _, rfl⟩) hM (by omega) ?srcua ?elua ?finua
    case srcua =>
      rintro v r ⟨⟨a, t, ul, uvs, rfl, ha, hl, hi⟩, h40⟩
      exact ⟨a, _, _, rfl, .tail _ (.tail _ (.tail _ (.tail _ (ha)))), t, ul, uvs, rfl, rfl, hl, hi, h40⟩
    case elua =>
      rintro r v₁ v₂ I oI C oC D ys m₂ h3 tk3 E' ⟨t, ul, uvs, rfl, rfl, hl, hi, h100⟩ hC hp1 hp2 F3 N3
      clear F7 N7
      have e9 := hi.length
      have hl3 := hl.at N3 (fun p hp => .tail _ (.tail _ (.tail _ (.tail _ (.tail _ (.tail _ (.tail _ (hp))))))))
      ktr_unf
      exact Stop.mk ⟨_, _, _, rfl, rfl, F3, N3⟩
    case finua =>
      intro g5 ys5 hys5
      clear F7 N7
      have hs : (List.map (fun r : Int × List Int => (r.2.length : Int)) rs).sum = (ps.length : Int) := lps.symm
      ktr_unf
      all_goals (try (exfalso; omega))
      refine Stop.mk ?_
      rename Fr _ _ _ _ => F8
      rename News _ _ _ _ => N8
      refine eq_lists (R := fun _ (_ : Empty) => True) (R' := fun _ (_ : Empty) => True) (as := []) (vs := gits) (vs' := #[]) (stays_list (S.ofNews (fun p hp => N8 p (by repeat (first | exact hp | refine List.Mem.tail _ ?_)))).st hG) (isList_mem N8 (.head _)) (Nat.le_of_ble_eq_true rfl) (by rw [hg0]; exact .nil) .nil (fun _ _ a => a.elim) ?_
      ktr_unf
      rename Fr _ _ _ _ => F9
      exact h _ _ _ F9
  case h1 =>
    intro u mq hlt hq h6 tk6 t6 t7 g' gvs gc prl F6 hgv hprl N6 hog
    simp only [List.cons_append] at N6
    obtain ⟨hfl, hfil⟩ := hK.cut u mq hlt hq
    have hk0 : flatR (wkeep 0 rs fl).1 = [] := by
      have := hK.few; rw [lenR_flat] at this
      exact List.eq_nil_of_length_eq_zero (by omega)
    rw [hk0] at hfil
    rw [hfil] at hgv ⊢
    have hz : (([] : List (Int × Int)).length : Int) = 0 := rfl
    have hg0 : gvs = [] := by cases hgv; rfl
    clear F N
    ktr_unf
    rename Fr _ _ _ _ => F7
    rename News _ _ _ _ => N7
    refine compP_ints (fun v r => RoundM (restOf base gr) v r ∧ r.2.length ≤ 4) (fun r v₁ v₂ => ∃ t ul uvs, v₁ = .int r.1 t ∧ v₂ = .ref ul ∧ LM (restOf base gr) ul (List.toArray uvs) ∧ IntsAre uvs r.2 ∧ r.2.length ≤ 4) (fun r => (r.2.length : Int)) rfl F7 N7 (.inr ⟨_, .tail _ (.tail _ (.tail _ (.tail _ (.head _)))), rfl, _, rfl⟩) hM (by omega) ?srcub ?elub ?finub
    case srcub =>
      rintro v r ⟨⟨a, t, ul, uvs, rfl, ha, hl, hi⟩, h40⟩
      exact ⟨a, _, _, rfl, .tail _ (.tail _ (.tail _ (.tail _ (.tail _ (List.mem_append_left _ (ha)))))), t, ul, uvs, rfl, rfl, hl, hi, h40⟩
    case elub =>
      rintro r v₁ v₂ I oI C oC D ys m₂ h3 tk3 E' ⟨t, ul, uvs, rfl, rfl, hl, hi, h100⟩ hC hp1 hp2 F3 N3
      clear F7 N7
      have e9 := hi.length
      have hl3 := hl.at N3 (fun p hp => .tail _ (.tail _ (.tail _ (.tail _ (.tail _ (.tail _ (.tail _ (.tail _ (List.mem_append_left _ (hp))))))))))
      ktr_unf
      exact Stop.mk ⟨_, _, _, rfl, rfl, F3, N3⟩
    case finub =>
      intro g5 ys5 hys5
      clear F7 N7
      have hs : (List.map (fun r : Int × List Int => (r.2.length : Int)) rs).sum = (ps.length : Int) := lps.symm
      ktr_unf
      all_goals (try (exfalso; omega))
      refine Stop.mk ?_
      rename Fr _ _ _ _ => F8
      rename News _ _ _ _ => N8
      refine eq_lists (R := fun _ (_ : Empty) => True) (R' := fun _ (_ : Empty) => True) (as := []) (vs := gvs.toArray) (vs' := #[]) (isList_mem N8 (by k_mem)) (isList_mem N8 (.head _)) (Nat.le_of_ble_eq_true rfl) (by subst hg0; exact .nil) .nil (fun _ _ a => a.elim) ?_
      ktr_unf
      rename Fr _ _ _ _ => F9
      exact h _ _ _ F9
end PartML6

section RulesSix
open PySem PySem.W PyProof.Rows PySem.Calls PyProof.Rows.LCg
local macro_rules | `(tactic| walk_at "no step") => `(tactic| fail)

section PartML8
theorem offML8 : True := by
  w_top off
  trivial
open PySem PySem.W PyProof.Rows PySem.Calls PyProof.Rows.LCg
def restBody : List Stmt := lawBody.drop 4
section
variable {prog : Program} {w : World} {s : Shared} {base : Heap} {mean : ExcName → Option Value} {mg mb : Str → Option Value} {L fa b d rl D1 gl l cl : Addr} {cd : Value} {nm vl : Value} {m : Str → Option Value} {Q : Flow → Shared → Prop} {vs cvs : List Value} {cs c8 : List Int} {n1 n2 n3 n4 cn : Nat}
  {t0 t1 t2 t3 t4 t5 t6 tn tt tf : Tok} {rest : List (Addr × Obj)}
set_option maxHeartbeats 800000 in
theorem start1 {h0 : Heap} (hs : s.heap = h0)
    (B : Below callerA base [] base) (X : (hd.heap_39 w.params).In base) (T : TopG mean mg mb base)
    (hm2 : m (Str.ofString "box") = some (.ref b)) (hm3 : m (Str.ofString "rounds") = some (.ref rl)) (hm4 : m (Str.ofString "cells") = some (.ref cl))
    (F : Fr base L h0 m) (N : News base L h0 ((D1, listOf vs.toArray n1) :: (rl, listOf #[] n2) :: (gl, listOf #[] n3) :: (l, listOf #[] n4) :: (b, instObj 170 d) :: (d, dictOf
      [⟨PyData.keyHash w.params (Str.ofString "name"), .str (Str.ofString "name") t0, nm⟩, ⟨PyData.keyHash w.params (Str.ofString "validity"), .str (Str.ofString "validity") t1, vl⟩,
       ⟨PyData.keyHash w.params (Str.ofString "next_uid"), .str (Str.ofString "next_uid") t2, .int 1 tn⟩, ⟨PyData.keyHash w.params (Str.ofString "top"), .str (Str.ofString "top") t3, .int 1 tt⟩,
       ⟨PyData.keyHash w.params (Str.ofString "floor"), .str (Str.ofString "floor") t4, .int 0 tf⟩, ⟨PyData.keyHash w.params (Str.ofString "letters"), .str (Str.ofString "letters") t5, .ref l⟩,
       ⟨PyData.keyHash w.params (Str.ofString "gone"), .str (Str.ofString "gone") t6, .ref gl⟩] 7) :: (cl, listOf cvs.toArray cn) :: rest))
    (e1 : @Ne Nat D1 rl) (e2 : @Ne Nat D1 gl) (e3 : @Ne Nat D1 l) (e4 : @Ne Nat D1 cl) (e5 : @Ne Nat rl gl) (e6 : @Ne Nat rl l) (e7 : @Ne Nat rl cl) (e8 : @Ne Nat gl l) (e9 : @Ne Nat l cl)
    (hi : IntsAre vs c8) (h8 : vs.length ≤ 8)
    (done : ∀ h' tk m' mu' gr' k, m' (Str.ofString "box") = some (.ref b) → m' (Str.ofString "rounds") = some (.ref rl) → m' (Str.ofString "cells") = some (.ref cl) → Fr base L h' m' → Led base L h' mu' [] gr' → LawSt2 w.params b d rl k nm vl mu' gr' → gr'.get? cl = some (listOf cvs.toArray cn) →
      Q .next { s with heap := h', toks := tk }) :
    wpAny (model prog w) (callerA.deeper (lawEnv L fa cd)) (pyIter (.ref D1)) (fun it s₂ => LoopAtV prog w (callerA.deeper (lawEnv L fa cd)) base (lawEnv L fa cd) (Str.ofString "cell") body1 Q (fun _ _ => False) it s₂) (fun _ _ => False) s := by
  subst hs
  have nD := N _ (.head _)
  have nr := N _ (.tail _ (.head _))
  have ng := N _ (.tail _ (.tail _ (.head _)))
  have nl := N _ (.tail _ (.tail _ (.tail _ (.head _))))
  have nb := N _ (.tail _ (.tail _ (.tail _ (.tail _ (.head _)))))
  have nd := N _ (.tail _ (.tail _ (.tail _ (.tail _ (.tail _ (.head _))))))
  have nc := N _ (.tail _ (.tail _ (.tail _ (.tail _ (.tail _ (.tail _ (.head _)))))))
  dsimp only at nD nr ng nl nb nd nc
  have neq : ∀ {x y : Addr} {o o' : Obj}, s.heap.get? x = some o → s.heap.get? y = some o' → o.cls ≠ o'.cls → x ≠ y := fun {x y o o'} h1 h2 hc e => by
    subst e; rw [h1] at h2; cases h2; exact hc rfl
  have Dl : Led base L s.heap [(b, instObj 170 d), (d, dictOf (boxEs w.params (fun i => [t0, t1, t2, t3, t4, t5, t6].getD i 0) nm vl (.int 1 tn) (.int 1 tt) (.int 0 tf) (.ref l) (.ref gl)) 7), (l, listOf #[] n4), (rl, listOf #[] n2)] [(D1, listOf vs.toArray n1)] (newPart base L s.heap [D1, b, d, l, rl]) := by
    refine ⟨newPart_sub, ?_, ?_, ?_, ?_⟩
    · intro p hp
      simp only [List.cons_append, List.nil_append, List.mem_cons, List.not_mem_nil, or_false] at hp
      rcases hp with rfl | rfl | rfl | rfl | rfl
      · exact nb
      · exact nd
      · exact nl
      · exact nr
      · exact nD
    · intro p hp
      simp only [List.mem_cons, List.not_mem_nil, or_false] at hp
      rcases hp with rfl | rfl | rfl | rfl <;> exact newPart_no (by simp)
    · intro p hp q hq
      rw [List.mem_singleton.mp hq]
      simp only [List.mem_cons, List.not_mem_nil, or_false] at hp
      rcases hp with rfl | rfl | rfl | rfl
      · exact neq nD.1 nb.1 (by simp)
      · exact neq nD.1 nd.1 (by simp [dictOf])
      · exact e3
      · exact e1
    · intro q hq
      rw [List.mem_singleton.mp hq]
      exact newPart_no (by simp)
  have gg : (newPart base L s.heap [D1, b, d, l, rl]).get? gl = some (listOf #[] n3) := newPart_get ng.1 ng.2.1 ng.2.2 (by
    simp only [List.mem_cons, List.not_mem_nil, or_false, not_or]
    exact ⟨fun e => e2 e.symm, neq ng.1 nb.1 (by simp), neq ng.1 nd.1 (by simp [dictOf]), e8, fun e => e5 e.symm⟩)
  have gc : (newPart base L s.heap [D1, b, d, l, rl]).get? cl = some (listOf cvs.toArray cn) := newPart_get nc.1 nc.2.1 nc.2.2 (by
    simp only [List.mem_cons, List.not_mem_nil, or_false, not_or]
    exact ⟨fun e => e4 e.symm, neq nc.1 nb.1 (by simp), neq nc.1 nd.1 (by simp [dictOf]), fun e => e9 e.symm, fun e => e7 e.symm⟩)
  refine loop1 B X T hm2 hm3 hm4 F Dl ⟨1, 1, tn, tt, tf, l, gl, #[], #[], #[], n4, n2, [], [], [], rfl, .nil, ⟨_, gg, rfl, _, rfl⟩, .nil, .nil, e6, ⟨.nil, (fun _ h => (List.not_mem_nil h).elim), rfl, .nil, (fun _ h => (List.not_mem_nil h).elim), (fun _ h => (List.not_mem_nil h).elim), by decide⟩, Nat.zero_le _, Nat.zero_le _⟩ gc hi h8 ?_
  intro h' tk m' mu' gr' q1 q2 q3 F' D' L' g'
  exact done h' tk m' mu' gr' _ q1 q2 q3 F' D' (L'.two h8) g'
end
theorem led_one {base h h' gr : Heap} {L a : Addr} {o : Obj} {x y z : Addr × Obj} {mu : List (Addr × Obj)} (D : Led base L h mu [] gr) (N5 : News base L h' ((a, o) :: x :: y :: z :: (mu ++ restOf base gr))) (xA : AllLt a (mu ++ restOf base gr)) : Led base L h' mu [(a, o)] gr where
  S := D.S.ofNews (fun p hp => N5 p (.tail _ (.tail _ (.tail _ (.tail _ (List.mem_append_right _ hp))))))
  N := by
    intro p hp
    rcases List.mem_append.mp hp with hp | hp
    · exact N5 p (.tail _ (.tail _ (.tail _ (.tail _ (List.mem_append_left _ hp)))))
    · rw [List.mem_singleton.mp hp]
      exact N5 _ (.head _)
  mg := D.mg
  mo := by
    intro p hp q hq
    rw [List.mem_singleton.mp hq]
    exact fun e => Nat.ne_of_lt (tb_ltOf xA p (List.mem_append_left _ hp)) e.symm
  og := by
    intro q hq
    rw [List.mem_singleton.mp hq]
    exact not_base_of D (fun p hp => Nat.ne_of_lt (tb_ltOf xA p (List.mem_append_right _ hp)))
-- ktr_unf: walk on; ktr_rel: enter a plain def by its contract; ktr_units: fill the kept part; tb_start: enter a def with cells
-- end of header
-- header two
-- extra
local macro_rules | `(tactic| walk_at "exec Return some") => `(tactic| (k_here; (with_reducible show wpAny _ _ (exec (Stmt.Return (some (PySem.Expr.BoolOp _ _ _)) _) _) _ _ _); refine Stop.out ?_))
set_option maxRecDepth 100000 in
set_option maxHeartbeats 4000000 in
theorem law_rest {h0 : Heap} {prog : Program} {w : World} {s : Shared} {base gr : Heap} {mean : ExcName → Option Value} {mg mb : Str → Option Value} {L fa b d rl cl : Addr} {cd : Value} {k : Nat → Tok} {nm vl : Value} {cvs : List Value} {cs : List Int} {cn : Nat}
    {m : Str → Option Value} {mu : List (Addr × Obj)} {Q : Flow → Shared → Prop}
    (B : Below callerA base [] base) (X : (hd.heap_39 w.params).In base) (T : TopG mean mg mb base)
    (hm1 : m (Str.ofString "box") = some (.ref b)) (hm2 : m (Str.ofString "rounds") = some (.ref rl)) (hm3 : m (Str.ofString "cells") = some (.ref cl)) (hs : s.heap = h0) (F : Fr base L h0 m) (D : Led base L h0 mu [] gr) (hst : LawSt2 w.params b d rl k nm vl mu gr)
    (hcl : gr.get? cl = some (listOf cvs.toArray cn)) (hi : IntsAre cvs cs) (hne : 0 < cs.length) (h12 : cs.length ≤ 12)
    (h : ∀ h' tk m', Fr base L h' m' → Q (.ret (.bool true)) { s with heap := h', toks := tk }) :
    wpAny (model prog w) (callerA.deeper (lawEnv L fa cd)) (execs restBody (lawEnv L fa cd)) Q (fun _ _ => False) s := by
  subst hs
  ktr_units
  dsimp only [restBody, lawEnv, lawScope, lawBody, forBody, PySem.Challenge.pw_or0040_01, List.getLast?, List.getLast, List.getElem?_cons_succ, List.getElem?_cons_zero, List.length_cons, List.length_nil, List.drop]
  rw [over3 hm1 hm2 hm3] at F
  have N : News base L s.heap ((cl, listOf cvs.toArray cn) :: (mu ++ restOf base gr)) := by
    have n0 := D.news
    simp only [List.nil_append] at n0
    exact news_pick n0 (List.mem_append_right _ (D.S.mem hcl)) n0
  ktr_unf
  refine Stop.mk ?_
  rename Fr _ _ _ _ => F5
  rename News _ _ _ _ => N5
  rename IntsAre _ _ => i5
  rename _ ∧ _ => l5
  obtain ⟨x1, x2, x3, xA⟩ := l5
  have D5 := led_one D N5 xA
  refine loop2 B X T ?m1 ?m2 F5 D5 hst i5 ?done
  case m1 => with_unfolding_all rfl
  case m2 => with_unfolding_all rfl
  case done =>
    intro h' tk m' mu' gr' rl' q1 q2 F' D' L'
    clear F5 N5
    ktr_unf
    refine Stop.mk ?_
    show wpAny _ _ (exec retStmt (lawEnv L fa cd)) _ _ _
    exact ret3 B X T q1 q2 F' D' L' h
end PartML8

section PartML7
theorem offML7 : True := by
  w_top off
  trivial
open PySem PySem.W PyProof.Rows PySem.Calls PyProof.Rows.LCg
theorem loop_noRaise {prog : Program} {w : World} {A : Around} {h₀ : Heap} {env : Env} {x : Str} {body : List Stmt} {Q : Flow → Shared → Prop} {E : Value → Shared → Prop} {it : Value} {s₂ : Shared} (h : LoopAtV prog w A h₀ env x body Q (fun _ _ => False) it s₂) : LoopAtV prog w A h₀ env x body Q E it s₂ := by
  obtain ⟨I, fp, wr, n, P, St, m, news, J, e, W, hLf, hwr, hnw, hst, F, N, h0, step, hQ⟩ := h
  exact ⟨I, fp, wr, n, P, St, m, news, J, e, W, hLf, hwr, hnw, hst, F, N, h0, fun i v m₁ news₁ s₁ own a1 a2 a3 a4 a5 a6 a7 a8 a9 a10 a11 => wpAny_noRaise (step i v m₁ news₁ s₁ own a1 a2 a3 a4 a5 a6 a7 a8 a9 a10 a11), hQ⟩
-- ktr_unf: walk on; ktr_rel: enter a plain def by its contract; ktr_units: fill the kept part; tb_start: enter a def with cells
-- end of header
-- header two
-- extra
local macro_rules | `(tactic| walk_at "exec Return some") => `(tactic| (k_here; (with_reducible show wpAny _ _ (exec (Stmt.Return (some (PySem.Expr.BoolOp _ _ _)) _) _) _ _ _); refine Stop.out ?_))
set_option maxRecDepth 100000 in
set_option maxHeartbeats 8000000 in
theorem whole : PySem.Challenge.rw_or0040_01.Holds := Mine.hd (by
  (w_strict (k_go0; ktr_unf))
  · refine Stop.mk ?_
    rename Fr _ _ _ _ => F5
    rename News _ _ _ _ => N5
    rename Below callerA _ _ _ => K0
    refine' wpAny_mono (start1 (vs := [_, _, _, _]) (cvs := [_, _, _, _]) (c8 := [2, 5, 3, 1]) ?hsva K0 ?xxva ?ttva ?m1va ?m2va ?m3va F5 N5 ?e1va ?e2va ?e3va ?e4va ?e5va ?e6va ?e7va ?e8va ?e9va ?hiva ?h8va ?doneva) (fun _ _ z => loop_noRaise z) (fun _ _ z => z.elim)
    case hsva => rfl
    case xxva => first | assumption | exact Frag.In.keeps (by k_asm) (Fr.keep (by k_asm))
    case ttva => assumption
    case m1va => with_unfolding_all rfl
    case m2va => with_unfolding_all rfl
    case m3va => with_unfolding_all rfl
    case e1va => first | omega | exact Nat.ne_of_gt (by omega) | exact Nat.ne_of_lt (by omega)
    case e2va => first | omega | exact Nat.ne_of_gt (by omega) | exact Nat.ne_of_lt (by omega)
    case e3va => first | omega | exact Nat.ne_of_gt (by omega) | exact Nat.ne_of_lt (by omega)
    case e4va => first | omega | exact Nat.ne_of_gt (by omega) | exact Nat.ne_of_lt (by omega)
    case e5va => first | omega | exact Nat.ne_of_gt (by omega) | exact Nat.ne_of_lt (by omega)
    case e6va => first | omega | exact Nat.ne_of_gt (by omega) | exact Nat.ne_of_lt (by omega)
    case e7va => first | omega | exact Nat.ne_of_gt (by omega) | exact Nat.ne_of_lt (by omega)
    case e8va => first | omega | exact Nat.ne_of_gt (by omega) | exact Nat.ne_of_lt (by omega)
    case e9va => first | omega | exact Nat.ne_of_gt (by omega) | exact Nat.ne_of_lt (by omega)
    case hiva => exact .cons _ _ (.cons _ _ (.cons _ _ (.cons _ _ .nil)))
    case h8va => exact Nat.le_of_ble_eq_true rfl
    case doneva =>
      intro h' tk m' mu' gr' k q1 q2 q3 F' D' L' g'
      refine wpAny_noRaise ?_
      show wpAny _ _ (execs restBody (lawEnv _ _ _)) _ _ _
      refine' law_rest (cs := [2, 5, 3, 1]) K0 ?xyva ?tyva q1 q2 q3 ?gsva F' D' L' g' ?giva ?gnva ?gmva ?gdva
      case gsva => rfl
      case xyva => first | assumption | exact Frag.In.keeps (by k_asm) (Fr.keep (by k_asm))
      case tyva => assumption
      case giva => exact .cons _ _ (.cons _ _ (.cons _ _ (.cons _ _ .nil)))
      case gnva => decide
      case gmva => decide
      case gdva =>
        intro h9 tk9 m9 F9
        try dsimp only
        first | (k_end; wrow_close) | wrow_close
  · refine Stop.mk ?_
    rename Fr _ _ _ _ => F5
    rename News _ _ _ _ => N5
    rename Below callerA _ _ _ => K0
    refine' wpAny_mono (start1  ?hsvb K0 ?xxvb ?ttvb ?m1vb ?m2vb ?m3vb F5 N5 ?e1vb ?e2vb ?e3vb ?e4vb ?e5vb ?e6vb ?e7vb ?e8vb ?e9vb ?hivb ?h8vb ?donevb) (fun _ _ z => loop_noRaise z) (fun _ _ z => z.elim)
    case hsvb => rfl
    case xxvb => first | assumption | exact Frag.In.keeps (by k_asm) (Fr.keep (by k_asm))
    case ttvb => assumption
    case m1vb => with_unfolding_all rfl
    case m2vb => with_unfolding_all rfl
    case m3vb => with_unfolding_all rfl
    case e1vb => first | omega | exact Nat.ne_of_gt (by omega) | exact Nat.ne_of_lt (by omega)
    case e2vb => first | omega | exact Nat.ne_of_gt (by omega) | exact Nat.ne_of_lt (by omega)
    case e3vb => first | omega | exact Nat.ne_of_gt (by omega) | exact Nat.ne_of_lt (by omega)
    case e4vb => first | omega | exact Nat.ne_of_gt (by omega) | exact Nat.ne_of_lt (by omega)
    case e5vb => first | omega | exact Nat.ne_of_gt (by omega) | exact Nat.ne_of_lt (by omega)
    case e6vb => first | omega | exact Nat.ne_of_gt (by omega) | exact Nat.ne_of_lt (by omega)
    case e7vb => first | omega | exact Nat.ne_of_gt (by omega) | exact Nat.ne_of_lt (by omega)
    case e8vb => first | omega | exact Nat.ne_of_gt (by omega) | exact Nat.ne_of_lt (by omega)
    case e9vb => first | omega | exact Nat.ne_of_gt (by omega) | exact Nat.ne_of_lt (by omega)
    case hivb => assumption
    case h8vb => (have hz := IntsAre.length (by assumption : IntsAre _ (List.take 8 _)); rw [hz, List.length_take]; omega)
    case donevb =>
      intro h' tk m' mu' gr' k q1 q2 q3 F' D' L' g'
      refine wpAny_noRaise ?_
      show wpAny _ _ (execs restBody (lawEnv _ _ _)) _ _ _
      refine' law_rest (cs := _) K0 ?xyvb ?tyvb q1 q2 q3 ?gsvb F' D' L' g' ?givb ?gnvb ?gmvb ?gdvb
      case gsvb => rfl
      case xyvb => first | assumption | exact Frag.In.keeps (by k_asm) (Fr.keep (by k_asm))
      case tyvb => assumption
      case givb => assumption
      case gnvb => (rename decide _ = false => hd9; have hd8 := List.length_pos_iff.mpr (of_decide_eq_false hd9); rw [List.length_take]; omega)
      case gmvb => (rw [List.length_take]; omega)
      case gdvb =>
        intro h9 tk9 m9 F9
        try dsimp only
        first | (k_end; wrow_close) | wrow_close)
end PartML7

end RulesSix

end RulesFive

end RulesFour

end RulesThree

end RulesTwo

end RulesOne

end Mine

theorem PySem.Challenge.cw_or0040_01_holds : PySem.Challenge.rw_or0040_01.Holds :=
  Mine.whole
